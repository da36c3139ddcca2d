import PyProof.Rows.All
import Wide.All
import OpenK.AllK
import Wide.FinOn
import KE.KDictKeyed
import HandS.ForMost
import HandS.IsInst
import HandS.Wide
import HandS.Deep
import HandS.Conv
import HandS.Flow
import HandS.TupAny
import HandS.EndBits
import HandS.Lambda
import HandS.EndOwn
import HandS.Zip
import HandS.Style
import KE.GoesEnum
import HandS.WideBits
import HandS.TupLe
import HandS.SortInts
import HandS.NoneIn
import HandS.More
import KE.SortData
import KE.DatumOrd
import HandS.SetFor
import HandS.Strs
import HandS.Iter
import HandS.SortKw
import HandS.Text
import HandS.RaiseMore
import HandS.Steps
import HandS.ExcValue
import HandS.TupMul
import HandS.Nested
import PySem.Challenge.RW_faultways_k37_papers_spoilt_anywhere
set_option Elab.async false
set_option linter.all false
set_option maxRecDepth 100000
set_option maxHeartbeats 4000000
/-! DLa: the data level: values as trees, what is mutable by address; readings over these alone. -/
namespace DL
open PySem PySem.Spec L2
open PyProof.Rows hiding St

inductive D where
  | non | bl (b : Bool) | int (i : Int) | str (x : Str) | tup (xs : List D) | lst (xs : List D) | ref (a : Addr) | ty (n : String) | scr (xs : List D) | obj (C : Addr) (ns : List Str) (ds : List D)
/-- a lambda: its full name, parameters, body, names, the cells that it keeps -/
structure LamT where
  q : Str
  ps : Arguments
  bd : Expr
  sc : Scope
  cl : List (Str × Addr)
/-- what lies at a of a lambda, its code at c -/
def LamO (a c : Addr) (L : LamT) : HO := .ext fun h => ∃ m t : Value, h.get? a = some (PySem.W.kla_obj "<lambda>" L.q L.ps L.bd L.sc L.cl m c t)
/-- what lies at a of an exception of a class, its dict at d -/
def XcO (a : Addr) (cls : Value) (d : Option Addr) : HO := .ext fun h => ∃ (o : Obj) (vs : Array Value), h.get? a = some o ∧ Zc cls d o ∧ o.data = .fields vs
mutual
/-- a key of numbers, as data -/
def dN : NestedKey → D
  | .none => .non
  | .num i => .int i
  | .text x => .str x
  | .tup ks => .tup (dNs ks)
def dNs : List NestedKey → List D
  | [] => []
  | k :: ks => dN k :: dNs ks
end
mutual
/-- numbers alone -/
def nkn : NestedKey → Bool
  | .num _ => true
  | .tup ks => nkns ks
  | _ => false
def nkns : List NestedKey → Bool
  | [] => true
  | k :: ks => nkn k && nkns ks
end
/-- a key: a tuple of numbers, and of tuples of such -/
def isNK : NestedKey → Prop
  | .tup ks => nkns ks = true ∧ (NestedKey.tup ks).depth ≤ 8
  | _ => False
/-- a dict whose keys are tuples of tuples of numbers -/
def NDict (a : Addr) (ys : List (NestedKey × Addr × V)) : HO := .ext fun h => ys.length ≤ sizeLine ∧ (a == sysModules) = false ∧
  ∃ xs : List (NestedKey × Addr × Value), Paired (fun (p : NestedKey × Addr × V) (q : NestedKey × Addr × Value) => p.1 = q.1 ∧ p.2.1 = q.2.1 ∧ RelV p.2.2 q.2.2) ys xs ∧
  ∃ o es ep, h.get? a = some o ∧ o.ExactDict ∧ o.data = .dict es ep ∧ (∀ P w, es.toList = xs.map (entryOfKey (nestedKind P w))) ∧ (xs.map (·.1)).Nodup
/-- a mutable object; a lambda; a table of code objects of one name; an exception -/
inductive MO where
  | lst (xs : List D) | ins (C : Addr) (fs : List (Str × D)) | dk (kvs : List (Key × D)) | fn (L : LamT) | tab (q : Str) | exn (C : Addr) (fs : List (Str × D)) | dn (kvs : List (NestedKey × D))
abbrev Mu := Addr → Option MO
def mset (μ : Mu) (a : Addr) (o : MO) : Mu := fun b => if b = a then some o else μ b
def mdel (μ : Mu) (a : Addr) : Mu := fun b => if b = a then none else μ b
theorem mset_same {μ : Mu} {a : Addr} {o : MO} : mset μ a o a = some o := by unfold mset; rw [if_pos rfl]
theorem mset_ne {μ : Mu} {a b : Addr} {o : MO} (h : b ≠ a) : mset μ a o b = μ b := by unfold mset; rw [if_neg h]
theorem mset_mset {μ : Mu} {a : Addr} {o u : MO} : mset (mset μ a o) a u = mset μ a u := by
  funext b; unfold mset; split <;> rfl
theorem mset_self {μ : Mu} {a : Addr} {o : MO} (h : μ a = some o) : mset μ a o = μ := by
  funext b; unfold mset; split
  · rename_i e; rw [e, h]
  · rfl
theorem mdel_mset {μ : Mu} {a : Addr} {o : MO} (h : μ a = none) : mdel (mset μ a o) a = μ := by
  funext b; unfold mdel mset; split
  · rename_i e; rw [e, h]
  · rfl
theorem mset_comm {μ : Mu} {a b : Addr} {o u : MO} (h : a ≠ b) : mset (mset μ a o) b u = mset (mset μ b u) a o := by
  funext c; unfold mset
  by_cases h1 : c = a
  · by_cases h2 : c = b
    · exact absurd (h1.symm.trans h2) h
    · simp only [h1, if_neg h, if_true]
  · simp only [h1, if_false]
theorem mu_ne {μ : Mu} {a b : Addr} {o : MO} (h : μ a = some o) (h' : μ b = none) : a ≠ b := by
  intro e; subst e; rw [h] at h'; cases h'

/-! ### what a value denotes -/
mutual
inductive Den (K : PySem.W.Frag) (F : Hp) : V → D → Prop
  | non : Den K F .non .non
  | bl (b : Bool) : Den K F (.bl b) (.bl b)
  | int (i : Int) : Den K F (.int i) (.int i)
  | str (x : Str) : Den K F (.str x) (.str x)
  | lst {a : Addr} {xs : List V} {ds : List D} : F a = some (.lst xs) → DenL K F xs ds → Den K F (.ref a) (.lst ds)
  | tup {a : Addr} {xs : List V} {ds : List D} : SqT K F a xs → DenL K F xs ds → Den K F (.ref a) (.tup ds)
  | ref (a : Addr) : Den K F (.ref a) (.ref a)
  | ty (n : String) : Den K F (.ty n) (.ty n)
  | scr {a : Addr} {xs : List V} {ds : List D} : SqL K F a xs → DenL K F xs ds → Den K F (.ref a) (.scr ds)
  | obj {a C dx : Addr} {fs : List (Str × V)} {ds : List D} : F a = some (.ins C dx fs) → DenL K F (fs.map (·.2)) ds → Den K F (.ref a) (.obj C (fs.map (·.1)) ds)
inductive DenL (K : PySem.W.Frag) (F : Hp) : List V → List D → Prop
  | nil : DenL K F [] []
  | cons {v : V} {vs : List V} {d : D} {ds : List D} : Den K F v d → DenL K F vs ds → DenL K F (v :: vs) (d :: ds)
end
theorem seqT_mono {K : PySem.W.Frag} {H H' : Hp} {a : Addr} {xs : List V} (e : Same H H') (h : SqT K H a xs) : SqT K H' a xs := by
  rcases h with (h | ⟨o, h⟩) | h
  · exact .inl (.inl (e _ _ h))
  · exact .inl (.inr ⟨o, e _ _ h⟩)
  · exact .inr h
section
variable {K : PySem.W.Frag} {F F' : Hp}
mutual
theorem Den.mono (s : Same F F') : ∀ {v : V} {d : D}, Den K F v d → Den K F' v d
  | _, _, .non => .non
  | _, _, .bl b => .bl b
  | _, _, .int i => .int i
  | _, _, .str x => .str x
  | _, _, .lst h r => .lst (s _ _ h) (DenL.mono s r)
  | _, _, .tup h r => .tup (seqT_mono s h) (DenL.mono s r)
  | _, _, .ref a => .ref a
  | _, _, .ty n => .ty n
  | _, _, .scr h r => .scr (s.seq h) (DenL.mono s r)
  | _, _, .obj h r => .obj (s _ _ h) (DenL.mono s r)
theorem DenL.mono (s : Same F F') : ∀ {vs : List V} {ds : List D}, DenL K F vs ds → DenL K F' vs ds
  | _, _, .nil => .nil
  | _, _, .cons h r => .cons (Den.mono s h) (DenL.mono s r)
end
theorem DenL.length : ∀ {vs : List V} {ds : List D}, DenL K F vs ds → vs.length = ds.length
  | _, _, .nil => rfl
  | _, _, .cons _ r => congrArg (· + 1) (DenL.length r)
theorem DenL.get : ∀ {vs : List V} {ds : List D} {i : Nat} {v : V}, DenL K F vs ds → vs[i]? = some v → ∃ d, ds[i]? = some d ∧ Den K F v d
  | _, _, _, _, .nil, e => by simp at e
  | _, _, 0, _, .cons r _, e => by simp at e; subst e; exact ⟨_, rfl, r⟩
  | _, _, i + 1, v, .cons _ t, e => by
    obtain ⟨u, h1, h2⟩ := DenL.get (i := i) (v := v) t (by simpa using e)
    exact ⟨u, by simpa using h1, h2⟩
theorem DenL.get' : ∀ {vs : List V} {ds : List D} {i : Nat} {d : D}, DenL K F vs ds → ds[i]? = some d → ∃ v, vs[i]? = some v ∧ Den K F v d
  | _, _, _, _, .nil, e => by simp at e
  | _, _, 0, _, .cons r _, e => by simp at e; subst e; exact ⟨_, rfl, r⟩
  | _, _, i + 1, v, .cons _ t, e => by
    obtain ⟨u, h1, h2⟩ := DenL.get' (i := i) (d := v) t (by simpa using e)
    exact ⟨u, by simpa using h1, h2⟩
theorem DenL.set {v : V} {d : D} (r : Den K F v d) : ∀ {vs : List V} {ds : List D} (i : Nat), DenL K F vs ds → DenL K F (vs.set i v) (ds.set i d)
  | _, _, _, .nil => .nil
  | _, _, 0, .cons _ t => .cons r t
  | _, _, i + 1, .cons q t => .cons q (DenL.set r i t)
theorem DenL.append : ∀ {vs ws : List V} {ds es : List D}, DenL K F vs ds → DenL K F ws es → DenL K F (vs ++ ws) (ds ++ es)
  | _, _, _, _, .nil, s => s
  | _, _, _, _, .cons r t, s => .cons r (DenL.append t s)
theorem DenL.take : ∀ {vs : List V} {ds : List D} (n : Nat), DenL K F vs ds → DenL K F (vs.take n) (ds.take n)
  | _, _, 0, _ => .nil
  | _, _, _ + 1, .nil => .nil
  | _, _, n + 1, .cons r t => .cons r (DenL.take n t)
theorem DenL.drop : ∀ {vs : List V} {ds : List D} (n : Nat), DenL K F vs ds → DenL K F (vs.drop n) (ds.drop n)
  | _, _, 0, r => r
  | _, _, _ + 1, .nil => .nil
  | _, _, n + 1, .cons _ t => DenL.drop n t
theorem DenL.snoc {vs : List V} {ds : List D} {v : V} {d : D} (r : DenL K F vs ds) (h : Den K F v d) : DenL K F (vs ++ [v]) (ds ++ [d]) := r.append (.cons h .nil)
theorem DenL.reverse : ∀ {vs : List V} {ds : List D}, DenL K F vs ds → DenL K F vs.reverse ds.reverse
  | _, _, .nil => .nil
  | _, _, .cons r t => by
    rw [List.reverse_cons, List.reverse_cons]
    exact (DenL.reverse t).snoc r
theorem DenL.dropLast {vs : List V} {ds : List D} (r : DenL K F vs ds) : DenL K F vs.dropLast ds.dropLast := by
  rw [List.dropLast_eq_take, List.dropLast_eq_take, r.length]; exact r.take _
theorem DenL.eraseIdx : ∀ {vs : List V} {ds : List D} (i : Nat), DenL K F vs ds → DenL K F (vs.eraseIdx i) (ds.eraseIdx i)
  | _, _, _, .nil => .nil
  | _, _, 0, .cons _ t => t
  | _, _, i + 1, .cons q t => .cons q (DenL.eraseIdx i t)
theorem DenL.replicate {v : V} {d : D} (h : Den K F v d) : ∀ n : Nat, DenL K F (List.replicate n v) (List.replicate n d)
  | 0 => .nil
  | n + 1 => .cons h (DenL.replicate h n)
theorem DenL.flat {vs : List V} {ds : List D} (r : DenL K F vs ds) : ∀ n : Nat, DenL K F (List.replicate n vs).flatten (List.replicate n ds).flatten
  | 0 => .nil
  | n + 1 => by
    rw [List.replicate_succ, List.replicate_succ, List.flatten_cons, List.flatten_cons]
    exact r.append (DenL.flat r n)
theorem DenL.ints : ∀ ns : List Int, DenL K F (ns.map V.int) (ns.map D.int)
  | [] => .nil
  | n :: ns => .cons (.int n) (DenL.ints ns)
theorem DenL.ofInts {vs : List V} {ns : List Int} (h : DenL K F vs (ns.map D.int)) : vs = ns.map V.int := by
  induction ns generalizing vs with
  | nil => cases h; rfl
  | cons n ns ih =>
    cases h with
    | cons h t => cases h; rw [ih t]; rfl
theorem DenL.ofBls {vs : List V} {ns : List Bool} (h : DenL K F vs (ns.map D.bl)) : vs = ns.map V.bl := by
  induction ns generalizing vs with
  | nil => cases h; rfl
  | cons n ns ih =>
    cases h with
    | cons h t => cases h; rw [ih t]; rfl
theorem DenL.ofStrs {vs : List V} {ns : List Str} (h : DenL K F vs (ns.map D.str)) : vs = ns.map V.str := by
  induction ns generalizing vs with
  | nil => cases h; rfl
  | cons n ns ih =>
    cases h with
    | cons h t => cases h; rw [ih t]; rfl
end

/-! ### the slots -/
abbrev Env := List (Option D)
def ES (K : PySem.W.Frag) (F : Hp) : Option V → Option D → Prop
  | some v, some d => Den K F v d
  | _, none => True
  | none, some _ => False
abbrev EnvD (K : PySem.W.Frag) (F : Hp) : St → Env → Prop := Paired (ES K F)
section
variable {K : PySem.W.Frag} {F F' : Hp} {σ : St} {ρ : Env}
theorem ES.mono (s : Same F F') : ∀ a b, ES K F a b → ES K F' a b
  | some _, some _, h => Den.mono s h
  | some _, none, _ => trivial
  | none, none, _ => trivial
theorem EnvD.mono (s : Same F F') (e : EnvD K F σ ρ) : EnvD K F' σ ρ := Paired.mapP e (ES.mono s)
theorem EnvD.get {i : Nat} {d : D} : ∀ {σ : St} {ρ : Env} {i : Nat}, EnvD K F σ ρ → ρ[i]? = some (some d) → ∃ v, σ[i]? = some (some v) ∧ Den K F v d
  | _, _, _, .nil, e => by simp at e
  | _, _, 0, .cons (a := a) (b := b) r _, e => by
    simp at e; subst e
    cases a with
    | none => exact r.elim
    | some v => exact ⟨v, rfl, r⟩
  | _, _, i + 1, .cons _ t, e => by
    obtain ⟨u, h1, h2⟩ := EnvD.get (i := i) t (by simpa using e)
    exact ⟨u, by simpa using h1, h2⟩
theorem EnvD.set1 {x : Option V} {y : Option D} (r : ES K F x y) : ∀ {σ : St} {ρ : Env} (i : Nat), EnvD K F σ ρ → EnvD K F (σ.set i x) (ρ.set i y)
  | _, _, _, .nil => .nil
  | _, _, 0, .cons _ t => .cons r t
  | _, _, i + 1, .cons q t => .cons q (EnvD.set1 r i t)
theorem EnvD.set {v : V} {d : D} (e : EnvD K F σ ρ) (i : Nat) (h : Den K F v d) : EnvD K F (σ.set i (some v)) (ρ.set i (some d)) := EnvD.set1 (x := some v) (y := some d) h i e
def wipeD (ρ : Env) : List Nat → Env
  | [] => ρ
  | v :: vs => (wipeD ρ vs).set v none
theorem EnvD.wipe (e : EnvD K F σ ρ) : ∀ vs : List Nat, EnvD K F (L2.wipe σ vs) (wipeD ρ vs)
  | [] => e
  | v :: vs => EnvD.set1 (x := none) (y := none) trivial v (EnvD.wipe e vs)
end

/-- an exception's fields -/
def FldsX (K : PySem.W.Frag) (F : Hp) (d : Option Addr) (fs : List (Str × D)) : Prop := match d with
  | none => fs = []
  | some a => ∃ vs, F a = some (.xd vs) ∧ Paired (fun (p : Str × V) (q : Str × D) => p.1 = q.1 ∧ Den K F p.2 q.2) vs fs
theorem FldsX.mono {K : PySem.W.Frag} {F F' : Hp} {d : Option Addr} {fs : List (Str × D)} (s : Same F F') (h : FldsX K F d fs) : FldsX K F' d fs := by
  cases d with
  | none => exact h
  | some a => obtain ⟨vs, e, h⟩ := h; exact ⟨vs, s _ _ e, Paired.mapP h fun _ _ q => ⟨q.1, q.2.mono s⟩⟩
/-! ### what is mutable -/
def RepO (K : PySem.W.Frag) (F H : Hp) (a : Addr) : MO → Prop
  | .lst ds => ∃ xs, H a = some (.lst xs) ∧ DenL K F xs ds
  | .ins C fs => ∃ dx vs, H a = some (.ins C dx vs) ∧ Paired (fun (p : Str × V) (q : Str × D) => p.1 = q.1 ∧ Den K F p.2 q.2) vs fs
  | .dk kvs => ∃ vs, H a = some (.dK vs) ∧ Paired (fun (p : Key × V) (q : Key × D) => p.1 = q.1 ∧ Den K F p.2 q.2) vs kvs
  | .dn kvs => ∃ ys, H a = some (NDict a ys) ∧ Paired (fun (p : NestedKey × Addr × V) (q : NestedKey × D) => p.1 = q.1 ∧ isNK q.1 ∧ Den K F (.ref p.2.1) (dN q.1) ∧ Den K F p.2.2 q.2) ys kvs
  | .fn L => ∃ c, H a = some (LamO a c L) ∧ F c = some (LamX.CodeO c L.q)
  | .exn C fs => ∃ d, H a = some (XcO a (.ref C) d) ∧ FldsX K F d fs
  | .tab q => ∃ ps, H a = some (.tbl ps) ∧ TriplesOk ps.toList ∧ ∀ (p : Pos) (cv : Value), codeAmong p ps.toList = some cv → ∃ c, cv = .ref c ∧ F c = some (LamX.CodeO c q)
theorem RepO.monoF {K : PySem.W.Frag} {F F' H : Hp} {a : Addr} {o : MO} (s : Same F F') (r : RepO K F H a o) : RepO K F' H a o := by
  cases o with
  | lst ds => obtain ⟨xs, e, h⟩ := r; exact ⟨xs, e, h.mono s⟩
  | ins C fs => obtain ⟨dx, vs, e, h⟩ := r; exact ⟨dx, vs, e, Paired.mapP h fun _ _ q => ⟨q.1, q.2.mono s⟩⟩
  | dk kvs => obtain ⟨vs, e, h⟩ := r; exact ⟨vs, e, Paired.mapP h fun _ _ q => ⟨q.1, q.2.mono s⟩⟩
  | dn kvs => obtain ⟨ys, e, h⟩ := r; exact ⟨ys, e, Paired.mapP h fun _ _ q => ⟨q.1, q.2.1, q.2.2.1.mono s, q.2.2.2.mono s⟩⟩
  | fn L => obtain ⟨c, e, h⟩ := r; exact ⟨c, e, s _ _ h⟩
  | exn C fs => obtain ⟨d, e, h⟩ := r; exact ⟨d, e, h.mono s⟩
  | tab q => obtain ⟨ps, e, t, h⟩ := r; exact ⟨ps, e, t, fun p cv z => let ⟨c, z1, z2⟩ := h p cv z; ⟨c, z1, s _ _ z2⟩⟩
theorem RepO.at {K : PySem.W.Frag} {F H H' : Hp} {a : Addr} {o : MO} (s : H' a = H a) (r : RepO K F H a o) : RepO K F H' a o := by
  cases o with
  | lst ds => obtain ⟨xs, e, h⟩ := r; exact ⟨xs, s.trans e, h⟩
  | ins C fs => obtain ⟨dx, vs, e, h⟩ := r; exact ⟨dx, vs, s.trans e, h⟩
  | dk kvs => obtain ⟨vs, e, h⟩ := r; exact ⟨vs, s.trans e, h⟩
  | dn kvs => obtain ⟨ys, e, h⟩ := r; exact ⟨ys, s.trans e, h⟩
  | fn L => obtain ⟨c, e, h⟩ := r; exact ⟨c, s.trans e, h⟩
  | exn C fs => obtain ⟨d, e, h⟩ := r; exact ⟨d, s.trans e, h⟩
  | tab q => obtain ⟨ps, e, h⟩ := r; exact ⟨ps, s.trans e, h⟩
theorem RepO.some {K : PySem.W.Frag} {F H : Hp} {a : Addr} {o : MO} (r : RepO K F H a o) : ∃ u, H a = some u := by
  cases o with
  | lst ds => obtain ⟨xs, e, h⟩ := r; exact ⟨_, e⟩
  | ins C fs => obtain ⟨dx, vs, e, h⟩ := r; exact ⟨_, e⟩
  | dk kvs => obtain ⟨vs, e, h⟩ := r; exact ⟨_, e⟩
  | dn kvs => obtain ⟨ys, e, h⟩ := r; exact ⟨_, e⟩
  | fn L => obtain ⟨c, e, h⟩ := r; exact ⟨_, e⟩
  | exn C fs => obtain ⟨d, e, h⟩ := r; exact ⟨_, e⟩
  | tab q => obtain ⟨ps, e, h⟩ := r; exact ⟨_, e⟩
/-- what a step may do: frozen things stay, and whatever is tracked and not mutable -/
structure Ext (F H : Hp) (μ : Mu) (F' H' : Hp) (μ' : Mu) : Prop where
  same : Same F F'
  fr : ∀ b o, H b = some o → μ b = none → H' b = some o ∧ μ' b = none ∧ (F b = none → F' b = none)
theorem Ext.refl {F H : Hp} {μ : Mu} : Ext F H μ F H μ := ⟨Same.refl F, fun _ _ h h' => ⟨h, h', id⟩⟩
theorem Ext.trans {F H F1 H1 F2 H2 : Hp} {μ μ1 μ2 : Mu} (a : Ext F H μ F1 H1 μ1) (b : Ext F1 H1 μ1 F2 H2 μ2) : Ext F H μ F2 H2 μ2 :=
  ⟨a.same.trans b.same, fun c o h h' => let ⟨x1, x2, x3⟩ := a.fr c o h h'; let ⟨y1, y2, y3⟩ := b.fr c o x1 x2; ⟨y1, y2, fun z => y3 (x3 z)⟩⟩
theorem Den.ext {K : PySem.W.Frag} {F H F' H' : Hp} {μ μ' : Mu} {v : V} {d : D} (h : Den K F v d) (s : Ext F H μ F' H' μ') : Den K F' v d := h.mono s.same
theorem DenL.ext {K : PySem.W.Frag} {F H F' H' : Hp} {μ μ' : Mu} {v : List V} {d : List D} (h : DenL K F v d) (s : Ext F H μ F' H' μ') : DenL K F' v d := h.mono s.same
theorem EnvD.ext {K : PySem.W.Frag} {F H F' H' : Hp} {μ μ' : Mu} {σ : St} {ρ : Env} (h : EnvD K F σ ρ) (s : Ext F H μ F' H' μ') : EnvD K F' σ ρ := h.mono s.same
theorem Ext.drop {F H : Hp} {μ : Mu} {p : Addr} {u : HO} (n : H p = none) : Ext F H μ F (upd H p u) μ := ⟨Same.refl F, fun b o h h' => ⟨by rw [upd_ne (ne_of_none h n)]; exact h, h', id⟩⟩
theorem Ext.fresh {F H : Hp} {μ : Mu} {p : Addr} {u : HO} (s : Same F (upd F p u)) (n : H p = none) : Ext F H μ (upd F p u) (upd H p u) μ :=
  ⟨s, fun b o h h' => ⟨by rw [upd_ne (ne_of_none h n)]; exact h, h', fun z => by rw [upd_ne (ne_of_none h n)]; exact z⟩⟩
theorem Ext.new {F H : Hp} {μ : Mu} {p : Addr} {u : HO} {o : MO} (n : H p = none) : Ext F H μ F (upd H p u) (mset μ p o) :=
  ⟨Same.refl F, fun b x h h' => ⟨by rw [upd_ne (ne_of_none h n)]; exact h, by rw [mset_ne (ne_of_none h n)]; exact h', id⟩⟩
theorem Ext.put {F H : Hp} {μ : Mu} {a : Addr} {u : HO} {o o' : MO} (e : μ a = some o') : Ext F H μ F (upd H a u) (mset μ a o) :=
  ⟨Same.refl F, fun b x h h' => ⟨by rw [upd_ne (mu_ne e h').symm]; exact h, by rw [mset_ne (mu_ne e h').symm]; exact h', id⟩⟩
theorem Ext.del {F H : Hp} {μ : Mu} {a : Addr} {u : HO} {o' : MO} (e : μ a = some o') (s : Same F (upd F a u)) : Ext F H μ (upd F a u) H (mdel μ a) :=
  ⟨s, fun b x h h' => ⟨h, by unfold mdel; split; rfl; exact h', fun z => by rw [upd_ne (mu_ne e h').symm]; exact z⟩⟩
theorem Ext.sub {F H : Hp} {μ μ' : Mu} (h : ∀ a o, μ' a = some o → μ a = some o) : Ext F H μ F H μ' := ⟨Same.refl F, fun b x h1 h2 => ⟨h1, (by
    cases e : μ' b with
    | none => rfl
    | some o =>
      rw [h b o e] at h2
      cases h2), id⟩⟩
/-- where a def that may raise was entered -/
class Anc where
  g : Option (Hp × Hp × Mu)
/-- none such -/
instance (priority := low) anc0 : Anc := ⟨none⟩
def Anc.at (A : Anc) (F H : Hp) (μ : Mu) : Prop := ∀ p, A.g = some p → Ext p.1 p.2.1 p.2.2 F H μ
theorem Anc.at.step {A : Anc} {F H F' H' : Hp} {μ μ' : Mu} (h : A.at F H μ) (e : Ext F H μ F' H' μ') : A.at F' H' μ' := fun p q => (h p q).trans e
theorem Anc.none_at {F H : Hp} {μ : Mu} : anc0.at F H μ := fun _ q => nomatch q
variable [anc : Anc]
structure RepM (K : PySem.W.Frag) (F H : Hp) (μ : Mu) : Prop where
  same : Same F H
  mu : ∀ a o, μ a = some o → F a = none ∧ RepO K F H a o
  an : anc.at F H μ
section
variable {K : PySem.W.Frag} {F F' H H' : Hp} {μ μ' : Mu} {p a : Addr}
theorem RepM.fresh (R : RepM K F H μ) (n : H p = none) : μ p = none := by
  cases e : μ p with
  | none => rfl
  | some o =>
    obtain ⟨u, h⟩ := (R.mu p o e).2.some
    rw [h] at n; cases n
theorem RepM.freshF (R : RepM K F H μ) (n : H p = none) : F p = none := R.same.free n
/-- a new object that is frozen -/
theorem RepM.frozen (R : RepM K F H μ) (n : H p = none) (o : HO) : Ext F H μ (upd F p o) (upd H p o) μ ∧ RepM K (upd F p o) (upd H p o) μ := by
  have nF := R.freshF n
  have s : Same F (upd F p o) := fun b u e => by rw [upd_ne (ne_of_none e nF)]; exact e
  refine ⟨.fresh s n, fun b u e => ?_, fun a u e => ?_, R.an.step (.fresh s n)⟩
  · by_cases hb : b = p
    · subst hb; rw [upd_same] at e ⊢; exact e
    · rw [upd_ne hb] at e ⊢; exact R.same b u e
  · obtain ⟨h1, h2⟩ := R.mu a u e
    have hne : a ≠ p := by
      intro z; subst z
      rw [R.fresh n] at e; cases e
    exact ⟨by rw [upd_ne hne]; exact h1, (h2.monoF s).at (upd_ne hne)⟩
/-- a new object that is not described -/
theorem RepM.dropped (R : RepM K F H μ) (n : H p = none) (o : HO) : RepM K F (upd H p o) μ :=
  ⟨fun b u e => by rw [upd_ne (ne_of_none (R.same b u e) n)]; exact R.same b u e, fun a u e => by
    obtain ⟨h1, h2⟩ := R.mu a u e
    obtain ⟨x, hx⟩ := h2.some
    exact ⟨h1, h2.at (upd_ne (ne_of_none hx n))⟩, R.an.step (.drop n)⟩
/-- an object stored at a: new or mutable -/
theorem RepM.storeA (R : RepM K F H μ) (n : F a = none) {o : MO} {u : HO} (h : RepO K F (upd H a u) a o) (x : anc.at F (upd H a u) (mset μ a o)) : RepM K F (upd H a u) (mset μ a o) := by
  refine ⟨fun b x e => ?_, fun b x e => ?_, x⟩
  · have hb : b ≠ a := by intro z; subst z; rw [n] at e; cases e
    rw [upd_ne hb]; exact R.same b x e
  · by_cases hb : b = a
    · subst hb; rw [mset_same] at e; cases e; exact ⟨n, h⟩
    · rw [mset_ne hb] at e
      obtain ⟨h1, h2⟩ := R.mu b x e
      exact ⟨h1, h2.at (upd_ne hb)⟩
theorem RepM.store (R : RepM K F H μ) (n : F a = none) {o : MO} {u : HO} (h : RepO K F (upd H a u) a o) (x : Ext F H μ F (upd H a u) (mset μ a o)) : RepM K F (upd H a u) (mset μ a o) := R.storeA n h (R.an.step x)
theorem RepM.sub (R : RepM K F H μ) (h : ∀ a o, μ' a = some o → μ a = some o) : RepM K F H μ' := ⟨R.same, fun a o e => R.mu a o (h a o e), R.an.step (.sub h)⟩
/-- a mutable list is frozen -/
theorem RepM.freeze (R : RepM K F H μ) {ds : List D} (e : μ a = some (.lst ds)) : ∃ F', Ext F H μ F' H (mdel μ a) ∧ RepM K F' H (mdel μ a) ∧ Den K F' (.ref a) (.lst ds) := by
  obtain ⟨n, xs, h, r⟩ := R.mu a _ e
  have s : Same F (upd F a (.lst xs)) := fun b u q => by rw [upd_ne (ne_of_none q n)]; exact q
  refine ⟨upd F a (.lst xs), .del e s, ⟨fun b u q => ?_, fun b u q => ?_, R.an.step (.del e s)⟩, .lst upd_same (r.mono s)⟩
  · by_cases hb : b = a
    · subst hb; rw [upd_same] at q; cases q; exact h
    · rw [upd_ne hb] at q; exact R.same b u q
  · unfold mdel at q
    split at q
    · cases q
    · rename_i hb
      obtain ⟨h1, h2⟩ := R.mu b u q
      exact ⟨by rw [upd_ne hb]; exact h1, h2.monoF s⟩
end
/-- the list that a value is to be read as -/
def lsOf (μ : Mu) : D → Option (List D)
  | .lst xs => some xs
  | .ref a => match μ a with
    | some (.lst xs) => some xs
    | _ => none
  | _ => none
theorem lsOf_seq {K : PySem.W.Frag} {F H : Hp} {μ : Mu} {d : D} {v : V} {xs : List D} (R : RepM K F H μ) (h : Den K F v d) (e : lsOf μ d = some xs) : ∃ p vs, v = .ref p ∧ H p = some (.lst vs) ∧ DenL K F vs xs := by
  cases h with
  | lst hs hd =>
    cases e
    exact ⟨_, _, rfl, R.same _ _ hs, hd⟩
  | ref a =>
    have e : (match μ a with | some (.lst xs) => some xs | _ => none) = some xs := e
    split at e
    · rename_i ds q
      cases e
      obtain ⟨n, vs, h, r⟩ := R.mu a _ q
      exact ⟨a, vs, rfl, h, r⟩
    · cases e
  | _ => cases e
/-- .. or just read -/
def lsR (μ : Mu) : D → Option (List D)
  | .lst xs => some xs
  | .scr xs => some xs
  | .ref a => match μ a with
    | some (.lst xs) => some xs
    | _ => none
  | _ => none
theorem lsR_seq {K : PySem.W.Frag} {F H : Hp} {μ : Mu} {d : D} {v : V} {xs : List D} (R : RepM K F H μ) (h : Den K F v d) (e : lsR μ d = some xs) : ∃ p vs, v = .ref p ∧ SqL K H p vs ∧ DenL K F vs xs := by
  cases h with
  | lst hs hd =>
    cases e
    exact ⟨_, _, rfl, .inl (.inl (R.same _ _ hs)), hd⟩
  | scr hs hd =>
    cases e
    exact ⟨_, _, rfl, R.same.seq hs, hd⟩
  | ref a =>
    have e : (match μ a with | some (.lst xs) => some xs | _ => none) = some xs := e
    split at e
    · rename_i ds q
      cases e
      obtain ⟨n, vs, h, r⟩ := R.mu a _ q
      exact ⟨a, vs, rfl, .inl (.inl h), r⟩
    · cases e
  | _ => cases e
/-- a new list: mutable or frozen -/
abbrev KD := D → Mu → Prop
def mk (m : Bool) (xs : List D) (μ : Mu) (k : KD) : Prop := match m with
  | true => ∀ a, μ a = none → k (.ref a) (mset μ a (.lst xs))
  | false => k (.lst xs) μ

/-! ### the readings -/
def Cont (K : PySem.W.Frag) (F H : Hp) (μ : Mu) (k : KD) (Q : VK) : Prop := ∀ d μ' F' v H', k d μ' → Ext F H μ F' H' μ' → RepM K F' H' μ' → Den K F' v d → Q v H'
theorem Cont.mono {K : PySem.W.Frag} {F H F' H' : Hp} {μ μ' : Mu} {k : KD} {Q : VK} (c : Cont K F H μ k Q) (s : Ext F H μ F' H' μ') : Cont K F' H' μ' k Q := fun d μ F2 v H h s2 => c d μ F2 v H h (s.trans s2)
theorem mk_ok {K : PySem.W.Frag} {F H : Hp} {μ : Mu} {m : Bool} {xs : List D} {vs : List V} {k : KD} {Q : VK} (R : RepM K F H μ) (r : DenL K F vs xs) (h : mk m xs μ k) (c : Cont K F H μ k Q) {p : Addr} (n : H p = none) : Q (.ref p) (upd H p (.lst vs)) := by
  cases m with
  | true => exact c _ _ F _ _ (h p (R.fresh n)) (.new n) (R.store (R.freshF n) ⟨vs, upd_same, r⟩ (.new n)) (.ref p)
  | false =>
    obtain ⟨s, R'⟩ := R.frozen n (.lst vs)
    exact c _ _ _ _ _ h s R' (.lst upd_same (r.ext s))
theorem tup_ok {K : PySem.W.Frag} {F H : Hp} {μ : Mu} {xs : List D} {vs : List V} {k : KD} {Q : VK} (R : RepM K F H μ) (r : DenL K F vs xs) (h : k (.tup xs) μ) (c : Cont K F H μ k Q) {p : Addr} (n : H p = none) : Q (.ref p) (upd H p (.tup vs)) := by
  obtain ⟨s, R'⟩ := R.frozen n (.tup vs)
  exact c _ _ _ _ _ h s R' (.tup (.inl (.inl upd_same)) (r.ext s))
abbrev DE := Env → Mu → KD → Prop
abbrev DT := Env → Mu → (Bool → Mu → Prop) → Prop
abbrev DA := Env → Mu → (List D → Mu → Prop) → Prop
structure DEnds where
  nx : Env → Mu → Prop
  rt : KD
  bk : Env → Mu → Prop := fun _ _ => False
  ct : Env → Mu → Prop := fun _ _ => False
abbrev DS := DEnds → Env → Mu → Prop
def up (K : PySem.W.Frag) (de : DE) : TE := fun σ H Q => ∃ F ρ μ k, RepM K F H μ ∧ EnvD K F σ ρ ∧ de ρ μ k ∧ Cont K F H μ k Q
def upT (K : PySem.W.Frag) (dt : DT) : TT := fun σ H Q => ∃ F ρ μ k, RepM K F H μ ∧ EnvD K F σ ρ ∧ dt ρ μ k ∧ ∀ b μ' F' H', k b μ' → Ext F H μ F' H' μ' → RepM K F' H' μ' → Q b H'
def upA (K : PySem.W.Frag) (da : DA) : TA := fun σ H Q => ∃ F ρ μ k, RepM K F H μ ∧ EnvD K F σ ρ ∧ da ρ μ k ∧ ∀ ds μ' F' vs H', k ds μ' → Ext F H μ F' H' μ' → RepM K F' H' μ' → DenL K F' vs ds → Q vs H'
structure ContS (K : PySem.W.Frag) (F H : Hp) (μ : Mu) (d : DEnds) (E : Ends) : Prop where
  nx : ∀ ρ' μ' F' σ' H', d.nx ρ' μ' → Ext F H μ F' H' μ' → RepM K F' H' μ' → EnvD K F' σ' ρ' → E.nx σ' H'
  rt : Cont K F H μ d.rt E.rt
  bk : ∀ ρ' μ' F' σ' H', d.bk ρ' μ' → Ext F H μ F' H' μ' → RepM K F' H' μ' → EnvD K F' σ' ρ' → E.bk σ' H'
  ct : ∀ ρ' μ' F' σ' H', d.ct ρ' μ' → Ext F H μ F' H' μ' → RepM K F' H' μ' → EnvD K F' σ' ρ' → E.ct σ' H'
theorem ContS.mono {K : PySem.W.Frag} {F H F' H' : Hp} {μ μ' : Mu} {d : DEnds} {E : Ends} (c : ContS K F H μ d E) (s : Ext F H μ F' H' μ') : ContS K F' H' μ' d E :=
  ⟨fun ρ μ F2 σ H h s2 => c.nx ρ μ F2 σ H h (s.trans s2), c.rt.mono s, fun ρ μ F2 σ H h s2 => c.bk ρ μ F2 σ H h (s.trans s2), fun ρ μ F2 σ H h s2 => c.ct ρ μ F2 σ H h (s.trans s2)⟩
def upS (K : PySem.W.Frag) (ds : DS) : TS := fun E σ H => ∃ F ρ μ d, RepM K F H μ ∧ EnvD K F σ ρ ∧ ds d ρ μ ∧ ContS K F H μ d E
abbrev PD (X : Cx) (e : Expr) (de : DE) : Prop := PE X e (up X.K de)
abbrev PDT (X : Cx) (e : Expr) (dt : DT) : Prop := PT X e (upT X.K dt)
abbrev PDW (X : Cx) (e : Expr) (dt : DT) : Prop := PW X e (upT X.K dt)
abbrev PDA (X : Cx) (es : List Expr) (da : DA) : Prop := PA X es (upA X.K da)
abbrev PDS (X : Cx) (st : Stmt) (ds : DS) : Prop := PS X st (upS X.K ds)
abbrev PDSs (X : Cx) (st : List Stmt) (ds : DS) : Prop := PSs X st (upS X.K ds)
section
variable {X : Cx} {e : Expr}
theorem PE.imp {t t' : TE} (h : PE X e t) (m : ∀ σ H Q, t' σ H Q → t σ H Q) : PE X e t' := ⟨fun pins s σ H Q I q => h.run pins s σ H Q I (m _ _ _ q)⟩
theorem PT.imp {t t' : TT} (h : PT X e t) (m : ∀ σ H Q, t' σ H Q → t σ H Q) : PT X e t' := ⟨fun pins s σ H Q I q => h.run pins s σ H Q I (m _ _ _ q)⟩
theorem PW.imp {t t' : TT} (h : PW X e t) (m : ∀ σ H Q, t' σ H Q → t σ H Q) : PW X e t' := ⟨fun wh pins s σ H Q I q => h.run wh pins s σ H Q I (m _ _ _ q)⟩
theorem PA.imp {es : List Expr} {t t' : TA} (h : PA X es t) (m : ∀ σ H Q, t' σ H Q → t σ H Q) : PA X es t' := ⟨fun pos pins s σ H Q I q => h.run pos pins s σ H Q I (m _ _ _ q)⟩
theorem PS.imp {st : Stmt} {t t' : TS} (h : PS X st t) (m : ∀ E σ H, t' E σ H → t E σ H) : PS X st t' := ⟨fun pins s σ H D I q => h.run pins s σ H D I (m _ _ _ q)⟩
theorem PSs.imp {st : List Stmt} {t t' : TS} (h : PSs X st t) (m : ∀ E σ H, t' E σ H → t E σ H) : PSs X st t' := ⟨fun pins s σ H D I q => h.run pins s σ H D I (m _ _ _ q)⟩
end

/-! ### names, constants, args -/
section
variable {X : Cx} {e a b c : Expr} {pos : Pos} {da db dc : DE}
def dVar (i : Nat) : DE := fun ρ μ k => match ρ[i]? with
  | some (some d) => k d μ
  | _ => False
theorem pd_var (i : Nat) {x : Str} (hN : X.N[i]? = some x := by rfl) (hv : Vis X.env.scope x := by first | exact Or.inl rfl | exact Or.inr (Or.inl rfl) | exact Or.inr (Or.inr rfl)) (hd : (x == ("__debug__" : Str)) = false := by decide)
    (hcd : (x == ("__classdict__" : Str)) = false := by decide) : PD X (.Name x pos) (dVar i) :=
  PE.imp (pe_var (i := i) hN hv hd hcd) fun σ H Q ⟨F, ρ, μ, k, R, E, h, C⟩ => by
    unfold dVar at h
    split at h
    · rename_i d q
      obtain ⟨v, hv, hd⟩ := EnvD.get (d := d) (i := i) E q
      exact ⟨v, hv, C _ _ F _ _ h .refl R hd⟩
    · exact h.elim
/-- a name read, its list frozen -/
def dFrz (i : Nat) : DE := fun ρ μ k => match ρ[i]? with
  | some (some (.ref a)) => (match μ a with
    | some (.lst ds) => k (.lst ds) (mdel μ a)
    | _ => False)
  | _ => False
theorem pd_frz (i : Nat) {x : Str} (hN : X.N[i]? = some x := by rfl) (hv : Vis X.env.scope x := by first | exact Or.inl rfl | exact Or.inr (Or.inl rfl) | exact Or.inr (Or.inr rfl)) (hd : (x == ("__debug__" : Str)) = false := by decide)
    (hcd : (x == ("__classdict__" : Str)) = false := by decide) : PD X (.Name x pos) (dFrz i) :=
  PE.imp (pe_var (i := i) hN hv hd hcd) fun σ H Q ⟨F, ρ, μ, k, R, E, h, C⟩ => by
    unfold dFrz at h
    split at h
    · rename_i a q
      split at h
      · rename_i ds q2
        obtain ⟨v, hv, hd⟩ := EnvD.get (d := .ref a) (i := i) E q
        cases hd
        obtain ⟨F', s, R', dn⟩ := R.freeze q2
        exact ⟨_, hv, C _ _ F' _ _ h s R' dn⟩
      · exact h.elim
    · exact h.elim
def dC (d : D) : DE := fun _ μ k => k d μ
theorem pd_int {i j} : PD X (.Constant (.int i) j pos) (dC (.int i)) := PE.imp pe_int fun σ H Q ⟨F, ρ, μ, k, R, E, h, C⟩ => C _ _ F _ _ h .refl R (.int i)
theorem pd_bl {b j} : PD X (.Constant (.bool b) j pos) (dC (.bl b)) := PE.imp pe_bl fun σ H Q ⟨F, ρ, μ, k, R, E, h, C⟩ => C _ _ F _ _ h .refl R (.bl b)
theorem pd_non {j} : PD X (.Constant .none j pos) (dC .non) := PE.imp pe_non fun σ H Q ⟨F, ρ, μ, k, R, E, h, C⟩ => C _ _ F _ _ h .refl R .non
theorem pd_str {x j} : PD X (.Constant (.str x) j pos) (dC (.str x)) := PE.imp pe_str fun σ H Q ⟨F, ρ, μ, k, R, E, h, C⟩ => C _ _ F _ _ h .refl R (.str x)
/-- a module's constant that is an int -/
theorem pd_globI {x : Str} {i : Int} {u : Value} (hg : Gl X x) (hm : X.mg x = some u) (r : RelV (.int i) u) (hd : (x == ("__debug__" : Str)) = false := by decide) : PD X (.Name x pos) (dC (.int i)) :=
  PE.imp (pe_glob hg hm r hd) fun σ H Q ⟨F, ρ, μ, k, R, E, h, C⟩ => C _ _ F _ _ h .refl R (.int i)
/-- .. any data of the written part -/
theorem pd_globD {x : Str} {d : D} {v : V} {u : Value} (hg : Gl X x) (hm : X.mg x = some u) (r : RelV v u) (dn : ∀ F, Den X.K F v d) (hd : (x == ("__debug__" : Str)) = false := by decide) : PD X (.Name x pos) (dC d) :=
  PE.imp (pe_glob hg hm r hd) fun σ H Q ⟨F, ρ, μ, k, R, E, h, C⟩ => C _ _ F _ _ h .refl R (dn F)

def dNil : DA := fun _ μ k => k [] μ
def dCons (da : DE) (dr : DA) : DA := fun ρ μ k => da ρ μ fun d μ1 => dr ρ μ1 fun ds μ2 => k (d :: ds) μ2
theorem pda_nil : PDA X [] dNil := PA.imp pa_nil fun σ H Q ⟨F, ρ, μ, k, R, E, h, C⟩ => C _ _ F _ _ h .refl R .nil
theorem pda_cons {es : List Expr} {dr : DA} (ha : PD X e da) (hr : PDA X es dr) (hs : starEach (e :: es) X.env = (false, eval e X.env) :: starEach es X.env := by rfl) : PDA X (e :: es) (dCons da dr) :=
  PA.imp (pa_cons ha hr hs) fun σ H Q ⟨F, ρ, μ, k, R, E, h, C⟩ => ⟨F, ρ, μ, _, R, E, h, fun d μ1 F1 v H1 h1 s1 R1 D1 =>
    ⟨F1, ρ, μ1, _, R1, E.ext s1, h1, fun ds μ2 F2 vs H2 h2 s2 R2 D2 => C _ _ F2 _ _ h2 (s1.trans s2) R2 (.cons (D1.ext s2) D2)⟩⟩
def dTup (da : DA) : DE := fun ρ μ k => da ρ μ fun ds μ1 => ds.length ≤ sizeLine ∧ k (.tup ds) μ1
def dLst (m : Bool) (da : DA) : DE := fun ρ μ k => da ρ μ fun ds μ1 => ds.length ≤ sizeLine ∧ mk m ds μ1 k
theorem pd_tup {es : List Expr} {x1} {dr : DA} (h : PDA X es dr) : PD X (.Tuple es x1 pos) (dTup dr) :=
  PE.imp (pe_tup h) fun σ H Q ⟨F, ρ, μ, k, R, E, h, C⟩ => ⟨F, ρ, μ, _, R, E, h, fun ds μ1 F1 vs H1 ⟨z, h1⟩ s1 R1 D1 =>
    ⟨by rw [D1.length]; exact z, fun p n => tup_ok R1 D1 h1 (C.mono s1) n⟩⟩
theorem pd_lst (m : Bool) {es : List Expr} {dr : DA} (h : PDA X es dr) : PD X (.List es pos) (dLst m dr) :=
  PE.imp (pe_lst h) fun σ H Q ⟨F, ρ, μ, k, R, E, h, C⟩ => ⟨F, ρ, μ, _, R, E, h, fun ds μ1 F1 vs H1 ⟨z, h1⟩ s1 R1 D1 =>
    ⟨by rw [D1.length]; exact z, fun p n => mk_ok R1 D1 h1 (C.mono s1) n⟩⟩

/-! ### operators -/
abbrev D2 := D → D → Mu → KD → Prop
def Ref2 (K : PySem.W.Frag) (r : R2) (rd : D2) : Prop := ∀ F H μ x y d e k Q, RepM K F H μ → Den K F x d → Den K F y e → rd d e μ k → Cont K F H μ k Q → r x y H Q
def dOp (rd : D2) (da db : DE) : DE := fun ρ μ k => da ρ μ fun d μ1 => db ρ μ1 fun e μ2 => rd d e μ2 k
theorem op_ref {r : R2} {rd : D2} {K : PySem.W.Frag} (hr : Ref2 K r rd) {da db : DE} : ∀ σ H Q, up K (dOp rd da db) σ H Q → tOp r (up K da) (up K db) σ H Q :=
  fun σ H Q ⟨F, ρ, μ, k, R, E, h, C⟩ => ⟨F, ρ, μ, _, R, E, h, fun d μ1 F1 v H1 h1 s1 R1 D1 => ⟨F1, ρ, μ1, _, R1, E.ext s1, h1, fun e μ2 F2 w H2 h2 s2 R2 D2 =>
    hr F2 H2 μ2 v w d e k Q R2 (D1.ext s2) D2 h2 (C.mono (s1.trans s2))⟩⟩
def OpD (X : Cx) (f : Value → Value → Sem Value) (rd : D2) : Prop := ∃ r, OpR X f r ∧ Ref2 X.K r rd
theorem pd_op {op : Operator} {rd : D2} (ho : OpD X (binaryOp op) rd) (ha : PD X a da) (hb : PD X b db) : PD X (.BinOp a op b pos) (dOp rd da db) :=
  let ⟨_, h1, h2⟩ := ho
  PE.imp (pe_op h1 ha hb) (op_ref h2)
theorem pd_cmp {op : CmpOp} {rd : D2} (ho : OpD X (compareOp op) rd) (ha : PD X a da) (hb : PD X b db) (hm : behindInMarks op b = false := by first | exact nomark _ | rfl) : PD X (.Compare a [op] [b] pos) (dOp rd da db) :=
  let ⟨_, h1, h2⟩ := ho
  PE.imp (pe_cmpR h1 ha hb hm) (op_ref h2)
/-- a < b < c -/
def dChain (rd rd' : D2) (da db dc : DE) : DE := fun ρ μ k => da ρ μ fun d μ1 => db ρ μ1 fun e μ2 => rd d e μ2 fun c μ3 => ∃ b, c = .bl b ∧ if b = true then dc ρ μ3 fun f μ4 => rd' e f μ4 k else k (.bl false) μ3
theorem pd_chain {op op' : CmpOp} {rd rd' : D2} (ho : OpD X (compareOp op) rd) (ho' : OpD X (compareOp op') rd') (ha : PD X a da) (hb : PD X b db) (hc : PD X c dc) (hm : lastMarks [op, op'] [b, c] = false := by with_unfolding_all rfl) : PD X (.Compare a [op, op'] [b, c] pos) (dChain rd rd' da db dc) :=
  let ⟨_, h1, h2⟩ := ho
  let ⟨_, h1', h2'⟩ := ho'
  PE.imp (pe_chain h1 h1' ha hb hc hm) fun σ H Q ⟨F, ρ, μ, k, R, E, h, C⟩ => ⟨F, ρ, μ, _, R, E, h, fun d μ1 F1 v H1 h1 s1 R1 D1 => ⟨F1, ρ, μ1, _, R1, E.ext s1, h1, fun e μ2 F2 w H2 h3 s2 R2 D2 =>
    h2 F2 H2 μ2 v w d e _ _ R2 (D1.ext s2) D2 h3 fun z μ3 F3 zv H3 h4 s3 R3 D3 => by
      obtain ⟨bb, rfl, h4⟩ := h4
      cases D3
      refine ⟨bb, rfl, ?_⟩
      have C3 := C.mono ((s1.trans s2).trans s3)
      cases bb with
      | true =>
        rw [if_pos rfl] at h4 ⊢
        exact ⟨F3, ρ, μ3, _, R3, E.ext ((s1.trans s2).trans s3), h4, fun f μ4 F4 u H4 h5 s4 R4 D4 => h2' F4 H4 μ4 w u e f k Q R4 (D2.ext (s3.trans s4)) D4 h5 (C3.mono s4)⟩
      | false =>
        rw [if_neg Bool.false_ne_true] at h4 ⊢
        exact C3 _ _ F3 _ _ h4 .refl R3 (.bl false)⟩⟩
/-- one-place -/
abbrev D1 := D → Mu → KD → Prop
def Ref1 (K : PySem.W.Frag) (r : V → Hp → VK → Prop) (rd : D1) : Prop := ∀ F H μ x d k Q, RepM K F H μ → Den K F x d → rd d μ k → Cont K F H μ k Q → r x H Q
def dUn (rd : D1) (da : DE) : DE := fun ρ μ k => da ρ μ fun d μ1 => rd d μ1 k
def UnD (X : Cx) (f : Value → Sem Value) (rd : D1) : Prop := ∃ r, UnR X f r ∧ Ref1 X.K r rd
theorem pd_un {op : UnaryOp} {rd : D1} (ho : UnD X (unaryOp op) rd) (ha : PD X a da) : PD X (.UnaryOp op a pos) (dUn rd da) :=
  let ⟨_, h1, h2⟩ := ho
  PE.imp (pe_un h1 ha) fun σ H Q ⟨F, ρ, μ, k, R, E, h, C⟩ => ⟨F, ρ, μ, _, R, E, h, fun d μ1 F1 v H1 h1 s1 R1 D1 => h2 F1 H1 μ1 v d k Q R1 D1 h1 (C.mono s1)⟩

/-! ### truth: tests, and, or, not, if -/
/-- a value that is True or False, as a test -/
def dB (de : DE) : DT := fun ρ μ k => de ρ μ fun d μ1 => ∃ b, d = .bl b ∧ k b μ1
theorem pdt_val {de : DE} (h : PD X e de) (he : ∀ whole, isTrue e X.env whole = (do let v ← whole; standAt e.pos; holding [v] (truthy v)) := by intro _; rfl) : PDT X e (dB de) :=
  PT.imp (pt_val h he) fun σ H Q ⟨F, ρ, μ, k, R, E, h, C⟩ => ⟨F, ρ, μ, _, R, E, h, fun d μ1 F1 v H1 ⟨b, e1, h1⟩ s1 R1 D1 => by
    subst e1
    cases D1
    exact ⟨b, rfl, C _ _ F1 _ h1 s1 R1⟩⟩
theorem pdt_cmp {op : CmpOp} {rd : D2} (ho : OpD X (compareOp op) rd) (ha : PD X a da) (hb : PD X b db) (hm : behindInMarks op b = false := by first | exact nomark _ | rfl) : PDT X (.Compare a [op] [b] pos) (dB (dOp rd da db)) :=
  let ⟨_, h1, h2⟩ := ho
  PT.imp (pt_cmpR h1 ha hb hm) fun σ H Q ⟨F, ρ, μ, k, R, E, h, C⟩ => by
    refine op_ref h2 σ H _ ⟨F, ρ, μ, _, R, E, h, fun d μ1 F1 v H1 ⟨b, e1, h1⟩ s1 R1 D1 => ?_⟩
    subst e1
    cases D1
    exact ⟨b, rfl, C _ _ F1 _ h1 s1 R1⟩
theorem pdt_chain {op op' : CmpOp} {rd rd' : D2} (ho : OpD X (compareOp op) rd) (ho' : OpD X (compareOp op') rd') (ha : PD X a da) (hb : PD X b db) (hc : PD X c dc) (hm : lastMarks [op, op'] [b, c] = false := by with_unfolding_all rfl) : PDT X (.Compare a [op, op'] [b, c] pos) (dB (dChain rd rd' da db dc)) := by
  obtain ⟨_, h1, h2⟩ := ho
  obtain ⟨_, h1', h2'⟩ := ho'
  refine PT.imp (pt_chain h1 h1' ha hb hc hm) fun σ H Q ⟨F, ρ, μ, k, R, E, h, C⟩ => ⟨F, ρ, μ, _, R, E, h, fun d μ1 F1 v H1 h1 s1 R1 D1 => ⟨F1, ρ, μ1, _, R1, E.ext s1, h1, fun e μ2 F2 w H2 h3 s2 R2 D2 =>
    h2 F2 H2 μ2 v w d e _ _ R2 (D1.ext s2) D2 h3 fun z μ3 F3 zv H3 h4 s3 R3 D3 => ?_⟩⟩
  obtain ⟨bb, rfl, h4⟩ := h4
  cases D3
  refine ⟨bb, rfl, ?_⟩
  have s123 := (s1.trans s2).trans s3
  cases bb with
  | true =>
    rw [if_pos rfl] at h4 ⊢
    refine ⟨F3, ρ, μ3, _, R3, E.ext s123, h4, fun f μ4 F4 u H4 h5 s4 R4 D4 => h2' F4 H4 μ4 w u e f _ _ R4 (D2.ext (s3.trans s4)) D4 h5 fun y μ5 F5 yv H5 h6 s5 R5 D5 => ?_⟩
    obtain ⟨b5, rfl, h6⟩ := h6
    cases D5
    exact ⟨b5, rfl, C _ _ F5 _ h6 ((s123.trans s4).trans s5) R5⟩
  | false =>
    rw [if_neg Bool.false_ne_true] at h4 ⊢
    obtain ⟨b5, e5, h6⟩ := h4
    cases e5
    first | exact ⟨false, rfl, C _ _ F3 _ h6 s123 R3⟩ | exact C _ _ F3 _ h6 s123 R3
end
end DL
/-! DLb: truth, operators, subscripts, built-ins. -/
namespace DL
open PySem PySem.Spec L2
open PyProof.Rows hiding St
variable [anc : Anc]

section
variable {X : Cx} {e a b c : Expr} {rest : List Expr} {pos : Pos} {da db dc : DE} {ta tb : DT}
/-! ### and, or, not, if .. else -/
def dAnd (ta tb : DT) : DT := fun ρ μ k => ta ρ μ fun b μ1 => if b = true then tb ρ μ1 k else k false μ1
def dOr (ta tb : DT) : DT := fun ρ μ k => ta ρ μ fun b μ1 => if b = true then k true μ1 else tb ρ μ1 k
def dNot (ta : DT) : DT := fun ρ μ k => ta ρ μ fun b μ1 => k (!b) μ1
theorem pdw_and1 (ha : PDT X a ta) : PDW X (.BoolOp .And [a] pos) ta := pw_and1 ha
theorem pdw_or1 (ha : PDT X a ta) : PDW X (.BoolOp .Or [a] pos) ta := pw_or1 ha
theorem pdw_and (ha : PDT X a ta) (hb : PDW X (.BoolOp .And (b :: rest) pos) tb) : PDW X (.BoolOp .And (a :: b :: rest) pos) (dAnd ta tb) :=
  PW.imp (pw_and ha hb) fun σ H Q ⟨F, ρ, μ, k, R, E, h, C⟩ => ⟨F, ρ, μ, _, R, E, h, fun b μ1 F1 H1 h1 s1 R1 => by
    cases b with
    | true =>
      rw [if_pos rfl] at h1 ⊢
      exact ⟨F1, ρ, μ1, _, R1, E.ext s1, h1, fun b2 μ2 F2 H2 h2 s2 R2 => C _ _ F2 _ h2 (s1.trans s2) R2⟩
    | false =>
      rw [if_neg Bool.false_ne_true] at h1 ⊢
      exact C _ _ F1 _ h1 s1 R1⟩
theorem pdw_or (ha : PDT X a ta) (hb : PDW X (.BoolOp .Or (b :: rest) pos) tb) : PDW X (.BoolOp .Or (a :: b :: rest) pos) (dOr ta tb) :=
  PW.imp (pw_or ha hb) fun σ H Q ⟨F, ρ, μ, k, R, E, h, C⟩ => ⟨F, ρ, μ, _, R, E, h, fun b μ1 F1 H1 h1 s1 R1 => by
    cases b with
    | true =>
      rw [if_pos rfl] at h1 ⊢
      exact C _ _ F1 _ h1 s1 R1
    | false =>
      rw [if_neg Bool.false_ne_true] at h1 ⊢
      exact ⟨F1, ρ, μ1, _, R1, E.ext s1, h1, fun b2 μ2 F2 H2 h2 s2 R2 => C _ _ F2 _ h2 (s1.trans s2) R2⟩⟩
theorem pdt_w (h : PDW X e ta) : PDT X e ta := PW.pt h
theorem pdt_not (ha : PDT X a ta) : PDT X (.UnaryOp .Not a pos) (dNot ta) :=
  PT.imp (pt_not ha) fun σ H Q ⟨F, ρ, μ, k, R, E, h, C⟩ => ⟨F, ρ, μ, _, R, E, h, fun b μ1 F1 H1 h1 s1 R1 => C _ _ F1 _ h1 s1 R1⟩
/-- a test, as a value, where all the parts are True or False -/
def dV (ta : DT) : DE := fun ρ μ k => ta ρ μ fun b μ1 => k (.bl b) μ1
def dAndV (da db : DE) : DE := fun ρ μ k => da ρ μ fun d μ1 => ∃ b, d = .bl b ∧ if b = true then db ρ μ1 k else k (.bl false) μ1
def dOrV (da db : DE) : DE := fun ρ μ k => da ρ μ fun d μ1 => ∃ b, d = .bl b ∧ if b = true then k (.bl true) μ1 else db ρ μ1 k
def dNotV (da : DE) : DE := fun ρ μ k => da ρ μ fun d μ1 => ∃ b, d = .bl b ∧ k (.bl (!b)) μ1
theorem pd_one {op} (h : PD X a da) : PD X (.BoolOp op [a] pos) da := pe_one h
theorem pd_and (ha : PD X a da) (hb : PD X (.BoolOp .And (b :: rest) pos) db) : PD X (.BoolOp .And (a :: b :: rest) pos) (dAndV da db) :=
  PE.imp (pe_and ha hb) fun σ H Q ⟨F, ρ, μ, k, R, E, h, C⟩ => ⟨F, ρ, μ, _, R, E, h, fun d μ1 F1 v H1 ⟨b, e1, h1⟩ s1 R1 D1 => by
    subst e1
    cases D1
    refine ⟨b, rfl, ?_⟩
    cases b with
    | true =>
      rw [if_pos rfl] at h1 ⊢
      exact ⟨F1, ρ, μ1, _, R1, E.ext s1, h1, C.mono s1⟩
    | false =>
      rw [if_neg Bool.false_ne_true] at h1 ⊢
      exact C _ _ F1 _ _ h1 s1 R1 (.bl false)⟩
theorem pd_or (ha : PD X a da) (hb : PD X (.BoolOp .Or (b :: rest) pos) db) : PD X (.BoolOp .Or (a :: b :: rest) pos) (dOrV da db) :=
  PE.imp (pe_or ha hb) fun σ H Q ⟨F, ρ, μ, k, R, E, h, C⟩ => ⟨F, ρ, μ, _, R, E, h, fun d μ1 F1 v H1 ⟨b, e1, h1⟩ s1 R1 D1 => by
    subst e1
    cases D1
    refine ⟨b, rfl, ?_⟩
    cases b with
    | true =>
      rw [if_pos rfl] at h1 ⊢
      exact C _ _ F1 _ _ h1 s1 R1 (.bl true)
    | false =>
      rw [if_neg Bool.false_ne_true] at h1 ⊢
      exact ⟨F1, ρ, μ1, _, R1, E.ext s1, h1, C.mono s1⟩⟩
theorem pd_not (ha : PD X a da) : PD X (.UnaryOp .Not a pos) (dNotV da) :=
  PE.imp (pe_not ha) fun σ H Q ⟨F, ρ, μ, k, R, E, h, C⟩ => ⟨F, ρ, μ, _, R, E, h, fun d μ1 F1 v H1 ⟨b, e1, h1⟩ s1 R1 D1 => by
    subst e1
    cases D1
    exact ⟨b, rfl, C _ _ F1 _ _ h1 s1 R1 (.bl _)⟩⟩
def dIf (tc : DT) (da db : DE) : DE := fun ρ μ k => tc ρ μ fun b μ1 => if b = true then da ρ μ1 k else db ρ μ1 k
theorem pd_ifExp (hc : PDT X c ta) (ha : PD X a da) (hb : PD X b db) : PD X (.IfExp c a b pos) (dIf ta da db) :=
  PE.imp (pe_ifExp hc ha hb) fun σ H Q ⟨F, ρ, μ, k, R, E, h, C⟩ => ⟨F, ρ, μ, _, R, E, h, fun b μ1 F1 H1 h1 s1 R1 => by
    cases b with
    | true =>
      rw [if_pos rfl] at h1 ⊢
      exact ⟨F1, ρ, μ1, _, R1, E.ext s1, h1, C.mono s1⟩
    | false =>
      rw [if_neg Bool.false_ne_true] at h1 ⊢
      exact ⟨F1, ρ, μ1, _, R1, E.ext s1, h1, C.mono s1⟩⟩
/-- a value of any kind as a test -/
def truD (μ : Mu) (d : D) : Option Bool := match d with
  | .non => some false
  | .bl b => some b
  | .int i => some (i != 0)
  | .tup xs => some (!xs.isEmpty)
  | _ => (lsR μ d).map fun xs => !xs.isEmpty
def dTru (da : DE) : DT := fun ρ μ k => da ρ μ fun d μ1 => ∃ b, truD μ1 d = some b ∧ k b μ1
theorem emp_den {K : PySem.W.Frag} {F : Hp} {vs : List V} {xs : List D} (r : DenL K F vs xs) : (!vs.isEmpty) = !xs.isEmpty := by cases r <;> rfl
theorem pdt_tru (ha : PD X a da) (he : ∀ whole, isTrue a X.env whole = (do let v ← whole; standAt a.pos; holding [v] (truthy v)) := by intro _; rfl) : PDT X a (dTru da) :=
  PT.imp (pt_truth ha he) fun σ H Q ⟨F, ρ, μ, k, R, E, h, C⟩ => ⟨F, ρ, μ, _, R, E, h, fun d μ1 F1 v H1 ⟨b, e1, h1⟩ s1 R1 D1 => by
    refine ⟨b, ?_, C _ _ F1 _ h1 s1 R1⟩
    have ls : ∀ xs, lsR μ1 d = some xs → (!xs.isEmpty) = b → TruV X.K v H1 b := fun xs q e => by
      obtain ⟨p, vs, rfl, hs, hd⟩ := lsR_seq R1 D1 q
      exact .inl ⟨vs, hs, by rw [emp_den hd]; exact e.symm⟩
    cases D1 with
    | non => exact (Option.some.inj e1).symm
    | bl => exact (Option.some.inj e1).symm
    | int => exact (Option.some.inj e1).symm
    | str => cases e1
    | tup hs hd => exact .inr (.inl ⟨_, seqT_mono R1.same hs, by rw [emp_den hd]; exact (Option.some.inj e1).symm⟩)
    | lst hs hd => exact ls _ rfl (Option.some.inj e1)
    | ref p =>
      unfold truD at e1
      cases q : lsR μ1 (.ref p) with
      | none => simp [q] at e1
      | some xs => rw [q] at e1; exact ls xs q (Option.some.inj e1)
    | ty => cases e1
    | obj hs hd => cases e1
    | scr hs hd => exact ls _ rfl (Option.some.inj e1)⟩

/-! ### operators by values -/
theorem OpR.or {f : Value → Value → Sem Value} {r r' : R2} (h : OpR X f r) (h' : OpR X f r') : OpR X f (fun x y H Q => r x y H Q ∨ r' x y H Q) := by
  intro pins s σ H x y v u Q I rx ry q
  rcases q with q | q
  · exact h pins s σ H x y v u Q I rx ry q
  · exact h' pins s σ H x y v u Q I rx ry q
theorem CallR.or {f : Value} {r r' : List V → Hp → VK → Prop} (h : CallR X f r) (h' : CallR X f r') : CallR X f (fun xs H Q => r xs H Q ∨ r' xs H Q) := by
  intro pins s σ H xs us Q I rx q
  rcases q with q | q
  · exact h pins s σ H xs us Q I rx q
  · exact h' pins s σ H xs us Q I rx q
/-- two ints -/
def rdI (C : Int → Int → Prop) (g : Int → Int → D) : D2 := fun d e μ k => match d, e with
  | .int i, .int j => C i j ∧ k (g i j) μ
  | _, _ => False
def rdI0 (g : Int → Int → D) : D2 := fun d e μ k => match d, e with
  | .int i, .int j => k (g i j) μ
  | _, _ => False
theorem opd_I {f : Value → Value → Sem Value} {C : Int → Int → Prop} {g : Int → Int → V} {g' : Int → Int → D} (ho : OpR X f (rI C g)) (hg : ∀ i j F, Den X.K F (g i j) (g' i j)) : OpD X f (rdI C g') :=
  ⟨_, ho, fun F H μ x y d e k Q R Dx Dy h Cn => by
    unfold rdI at h
    split at h
    · cases Dx; cases Dy
      exact ⟨_, _, rfl, rfl, h.1, Cn _ _ F _ _ h.2 .refl R (hg _ _ F)⟩
    · exact h.elim⟩
theorem opd_I0 {f : Value → Value → Sem Value} {g : Int → Int → V} {g' : Int → Int → D} (ho : OpR X f (rI0 g)) (hg : ∀ i j F, Den X.K F (g i j) (g' i j)) : OpD X f (rdI0 g') :=
  ⟨_, ho, fun F H μ x y d e k Q R Dx Dy h Cn => by
    unfold rdI0 at h
    split at h
    · cases Dx; cases Dy
      exact ⟨_, _, rfl, rfl, Cn _ _ F _ _ h .refl R (hg _ _ F)⟩
    · exact h.elim⟩
theorem opd_sub : OpD X (binaryOp .Sub) (rdI0 fun i j => .int (i - j)) := opd_I0 op_sub fun _ _ _ => .int _
theorem opd_mod : OpD X (binaryOp .Mod) (rdI (fun _ j => 0 < j) fun i j => .int (i % j)) := opd_I op_mod fun _ _ _ => .int _
theorem opd_fdiv : OpD X (binaryOp .FloorDiv) (rdI CDiv fun i j => .int (i / j)) := opd_I op_fdiv fun _ _ _ => .int _
theorem opd_pow : OpD X (binaryOp .Pow) (rdI CPow fun i j => .int (i ^ j.toNat)) := opd_I op_pow fun _ _ _ => .int _
theorem opd_lt : OpD X (compareOp .Lt) (rdI0 fun i j => .bl (decide (i < j))) := opd_I0 op_lt fun _ _ _ => .bl _
theorem opd_le : OpD X (compareOp .LtE) (rdI0 fun i j => .bl (decide (i ≤ j))) := opd_I0 op_le fun _ _ _ => .bl _
theorem opd_gt : OpD X (compareOp .Gt) (rdI0 fun i j => .bl (decide (j < i))) := opd_I0 op_gt fun _ _ _ => .bl _
theorem opd_ge : OpD X (compareOp .GtE) (rdI0 fun i j => .bl (decide (j ≤ i))) := opd_I0 op_ge fun _ _ _ => .bl _
/-- + -/
def rdAdd (m : Bool) : D2 := fun d e μ k => match d with
  | .int i => (match e with
    | .int j => k (.int (i + j)) μ
    | _ => False)
  | .str i => (match e with
    | .str j => i.length + j.length ≤ sizeLine ∧ k (.str (i ++ j)) μ
    | _ => False)
  | .tup xs => (match e with
    | .tup ys => xs.length + ys.length ≤ sizeLine ∧ k (.tup (xs ++ ys)) μ
    | _ => False)
  | _ => ∃ xs, lsOf μ d = some xs ∧ ∃ ys, lsOf μ e = some ys ∧ xs.length + ys.length ≤ sizeLine ∧ mk m (xs ++ ys) μ k
theorem opd_add (m : Bool) : OpD X (binaryOp .Add) (rdAdd m) :=
  ⟨_, OpR.or op_add (OpR.or op_add_str (OpR.or op_cat op_catA)), fun F H μ x y d e k Q R Dx Dy h Cn => by
    have ls : (∃ xs, lsOf μ d = some xs ∧ ∃ ys, lsOf μ e = some ys ∧ xs.length + ys.length ≤ sizeLine ∧ mk m (xs ++ ys) μ k) → rCat x y H Q := fun ⟨xs, q1, ys, q2, z, h⟩ => by
      obtain ⟨p, vs, rfl, hs, hd⟩ := lsOf_seq R Dx q1
      obtain ⟨p2, vs2, rfl, hs2, hd2⟩ := lsOf_seq R Dy q2
      exact ⟨p, p2, vs, vs2, rfl, rfl, hs, hs2, by rw [hd.length, hd2.length]; exact z, fun p n => mk_ok R (hd.append hd2) h Cn n⟩
    cases d with
    | int i =>
      cases e with
      | int j => cases Dx; cases Dy; exact .inl ⟨i, j, rfl, rfl, Cn _ _ F _ _ h .refl R (.int _)⟩
      | _ => exact (show False from h).elim
    | str i =>
      cases e with
      | str j => cases Dx; cases Dy; exact .inr (.inl ⟨i, j, rfl, rfl, h.1, Cn _ _ F _ _ h.2 .refl R (.str _)⟩)
      | _ => exact (show False from h).elim
    | tup xs =>
      cases e with
      | tup ys =>
        obtain ⟨z, h⟩ := (show xs.length + ys.length ≤ sizeLine ∧ k (.tup (xs ++ ys)) μ from h)
        cases Dx with
        | tup hs hd =>
          cases Dy with
          | tup hs2 hd2 =>
            refine .inr (.inr (.inr ⟨_, _, _, _, rfl, rfl, seqT_mono R.same hs, seqT_mono R.same hs2, by rw [hd.length, hd2.length]; exact z, fun e => ?_, fun e1 e2 => ?_, fun e1 e2 p n => ?_⟩))
            · subst e
              cases hd
              exact Cn _ _ F _ _ h .refl R (.tup hs2 hd2)
            · subst e2
              cases hd2
              rw [List.append_nil] at h
              exact Cn _ _ F _ _ h .refl R (.tup hs hd)
            · exact tup_ok R (hd.append hd2) h Cn n
      | _ => exact (show False from h).elim
    | _ => exact .inr (.inr (.inl (ls h)))⟩
/-- * -/
def rdMul (m : Bool) : D2 := fun d e μ k => match e with
  | .int j => (match d with
    | .int i => (CMul i j ∨ CMulW i j) ∧ k (.int (i * j)) μ
    | _ => ∃ xs, lsOf μ d = some xs ∧ -(2 ^ 63) ≤ j ∧ j < 2 ^ 63 ∧ xs.length * j.toNat ≤ sizeLine ∧ mk m (List.replicate j.toNat xs).flatten μ k)
  | _ => False
theorem opd_mul (m : Bool) : OpD X (binaryOp .Mult) (rdMul m) :=
  ⟨_, OpR.or op_mul (OpR.or op_mulW op_rep), fun F H μ x y d e k Q R Dx Dy h Cn => by
    cases e with
    | int j =>
      cases Dy
      have ls : (∃ xs, lsOf μ d = some xs ∧ -(2 ^ 63) ≤ j ∧ j < 2 ^ 63 ∧ xs.length * j.toNat ≤ sizeLine ∧ mk m (List.replicate j.toNat xs).flatten μ k) → rRep x (.int j) H Q := fun ⟨xs, q1, b1, b2, z, h⟩ => by
        obtain ⟨p, vs, rfl, hs, hd⟩ := lsOf_seq R Dx q1
        exact ⟨p, j, vs, rfl, rfl, hs, b1, b2, by rw [hd.length]; exact z, fun p n => mk_ok R (hd.flat _) h Cn n⟩
      cases d with
      | int i =>
        cases Dx
        obtain ⟨h1, h2⟩ := h
        rcases h1 with h1 | h1
        · exact .inl ⟨i, j, rfl, rfl, h1, Cn _ _ F _ _ h2 .refl R (.int _)⟩
        · exact .inr (.inl ⟨i, j, rfl, rfl, h1, Cn _ _ F _ _ h2 .refl R (.int _)⟩)
      | _ => exact .inr (.inr (ls h))
    | _ => exact (show False from h).elim⟩
/-- -a -/
def rdNeg : D1 := fun d μ k => match d with
  | .int i => k (.int (-i)) μ
  | _ => False
theorem und_neg : UnD X (unaryOp .USub) rdNeg := ⟨_, un_neg, fun F H μ x d k Q R Dx h Cn => by
  cases d with
  | int i => cases Dx; exact ⟨i, rfl, Cn _ _ F _ _ h .refl R (.int _)⟩
  | _ => exact (show False from h).elim⟩
/-- a is None -/
def isN : D → Bool
  | .non => true
  | _ => false
theorem isN_den {K : PySem.W.Frag} {F : Hp} {v : V} {d : D} (h : Den K F v d) : decide (v = .non) = isN d := by
  cases h <;> first | rfl | exact decide_eq_false (fun z => nomatch z) | exact decide_eq_true rfl
def rdIs : D2 := fun d e μ k => match e with
  | .non => k (.bl (isN d)) μ
  | _ => False
def rdIsNot : D2 := fun d e μ k => match e with
  | .non => k (.bl (!isN d)) μ
  | _ => False
theorem opd_is : OpD X (compareOp .Is) rdIs := ⟨_, op_isN, fun F H μ x y d e k Q R Dx Dy h Cn => by
  cases e with
  | non =>
    cases Dy
    exact ⟨rfl, by rw [isN_den Dx]; exact Cn _ _ F _ _ h .refl R (.bl _)⟩
  | _ => exact (show False from h).elim⟩
theorem opd_isNot : OpD X (compareOp .IsNot) rdIsNot := ⟨_, op_notN, fun F H μ x y d e k Q R Dx Dy h Cn => by
  cases e with
  | non =>
    cases Dy
    exact ⟨rfl, by rw [isN_den Dx]; exact Cn _ _ F _ _ h .refl R (.bl _)⟩
  | _ => exact (show False from h).elim⟩

/-! ### == of data -/
mutual
def D.py : D → PyData
  | .non => .none
  | .bl b => .bool b
  | .int i => .int i
  | .str x => .str x
  | .tup xs => .tuple (D.pys xs)
  | .lst xs => .list (D.pys xs)
  | .ref _ => .none
  | .ty _ => .none
  | .scr xs => .list (D.pys xs)
  | .obj _ _ _ => .none
def D.pys : List D → List PyData
  | [] => []
  | d :: ds => d.py :: D.pys ds
end
mutual
/-- no reference within -/
def D.pure : D → Bool
  | .non => true
  | .bl _ => true
  | .int _ => true
  | .str _ => true
  | .tup xs => D.pures xs
  | .lst xs => D.pures xs
  | .ref _ => false
  | .ty _ => false
  | .scr xs => D.pures xs
  | .obj _ _ _ => false
def D.pures : List D → Bool
  | [] => true
  | d :: ds => d.pure && D.pures ds
end
/-- a reference at the outside read -/
def der (μ : Mu) (d : D) : D := match d with
  | .ref a => (match μ a with
    | some (.lst xs) => .lst xs
    | _ => .ref a)
  | d => d
def okD (d : D) : Prop := d.pure = true ∧ SeqAt.shaped d.py = true
def eqD (d e : D) : Bool := PyData.eqv d.py e.py
mutual
theorem Den.dp {K : PySem.W.Frag} {F H : Hp} (s : Same F H) : ∀ {v : V} {d : D}, d.pure = true → Den K F v d → Dp K H v d.py
  | _, _, _, .non => .non
  | _, _, _, .bl b => .bl b
  | _, _, _, .int i => .int i
  | _, _, _, .str x => .str x
  | _, _, p, .lst h r => .lst (.inl (.inl (s _ _ h))) (DenL.dp s p r)
  | _, _, p, .tup h r => .tup (seqT_mono s h) (DenL.dp s p r)
  | _, _, p, .scr h r => .lst (s.seq h) (DenL.dp s p r)
theorem DenL.dp {K : PySem.W.Frag} {F H : Hp} (s : Same F H) : ∀ {vs : List V} {ds : List D}, D.pures ds = true → DenL K F vs ds → DpAll K H vs (D.pys ds)
  | _, _, _, .nil => .nil
  | _, _, p, .cons h r => .cons (Den.dp s (Bool.and_eq_true_iff.mp p).1 h) (DenL.dp s (Bool.and_eq_true_iff.mp p).2 r)
end
theorem der_dp {K : PySem.W.Frag} {F H : Hp} {μ : Mu} {v : V} {d : D} (R : RepM K F H μ) (h : Den K F v d) (p : (der μ d).pure = true) : Dp K H v (der μ d).py := by
  cases d with
  | ref a =>
    cases h
    cases e : μ a with
    | none => simp only [der, e] at p; cases p
    | some o =>
      simp only [der, e] at p ⊢
      cases o with
      | lst xs =>
        obtain ⟨_, vs, h, r⟩ := R.mu a _ e
        exact .lst (.inl (.inl h)) (r.dp R.same p)
      | _ => cases p
  | _ => exact h.dp R.same p
def rdEq : D2 := fun d e μ k => okD (der μ d) ∧ okD (der μ e) ∧ k (.bl (eqD (der μ d) (der μ e))) μ
def rdNe : D2 := fun d e μ k => okD (der μ d) ∧ okD (der μ e) ∧ k (.bl (!eqD (der μ d) (der μ e))) μ
theorem opd_eq (hu : X.A.units + 64 < cLine) : OpD X (compareOp .Eq) rdEq := ⟨_, op_eqD hu, fun F H μ x y d e k Q R Dx Dy ⟨h1, h2, h3⟩ Cn =>
  ⟨_, _, der_dp R Dx h1.1, der_dp R Dy h2.1, h1.2, h2.2, Cn _ _ F _ _ h3 .refl R (.bl _)⟩⟩
theorem opd_ne (hu : X.A.units + 64 < cLine) : OpD X (compareOp .NotEq) rdNe := ⟨_, op_neD hu, fun F H μ x y d e k Q R Dx Dy ⟨h1, h2, h3⟩ Cn =>
  ⟨_, _, der_dp R Dx h1.1, der_dp R Dy h2.1, h1.2, h2.2, Cn _ _ F _ _ h3 .refl R (.bl _)⟩⟩
/-- x in xs: a list of data, a tuple of flat things -/
def flatD : D → Bool
  | .non => true
  | .bl _ => true
  | .int _ => true
  | .str _ => true
  | _ => false
def memD (d : D) (ds : List D) : Bool := ds.any fun z => eqD z d
def rdIn' (neg : Bool) : D2 := fun d e μ k => match e with
  | .tup ds => flatD d = true ∧ ds.all flatD = true ∧ k (.bl (if neg then !memD d ds else memD d ds)) μ
  | _ => ∃ ds, lsR μ e = some ds ∧ okD (der μ d) ∧ okD (.lst ds) ∧ k (.bl (if neg then !memD (der μ d) ds else memD (der μ d) ds)) μ
theorem flat_den {K : PySem.W.Frag} {F : Hp} {v : V} {d : D} (h : Den K F v d) (f : flatD d = true) : flatV v = true := by
  cases h <;> first | rfl | (exact absurd (show false = true from f) Bool.false_ne_true)
theorem flats_den {K : PySem.W.Frag} {F : Hp} : ∀ {vs : List V} {ds : List D}, DenL K F vs ds → ds.all flatD = true → vs.all flatV = true
  | _, _, .nil, _ => rfl
  | _, _, .cons h r, f => by
    rw [List.all_cons, Bool.and_eq_true] at f
    rw [List.all_cons, flat_den h f.1, flats_den r f.2]; rfl
theorem eqV_den {K : PySem.W.Frag} {F : Hp} {v w : V} {d e : D} (h : Den K F v d) (h' : Den K F w e) (f : flatD d = true) (f' : flatD e = true) : eqV v w = eqD d e := by
  cases h <;> cases h' <;> first | rfl | (exact absurd (show false = true from f) Bool.false_ne_true) | (exact absurd (show false = true from f') Bool.false_ne_true)
theorem any_den {K : PySem.W.Frag} {F : Hp} {x : V} {d : D} (h : Den K F x d) (f : flatD d = true) : ∀ {vs : List V} {ds : List D}, DenL K F vs ds → ds.all flatD = true → (vs.any fun y => eqV y x) = memD d ds
  | _, _, .nil, _ => rfl
  | _, _, .cons h1 r, g => by
    rw [List.all_cons, Bool.and_eq_true] at g
    unfold memD
    rw [List.any_cons, List.any_cons, eqV_den h1 h g.1 f, any_den h f r g.2]
    rfl
theorem inV_any (x : V) (xs : List V) : inV x xs = xs.any fun y => eqV y x := by
  first | rfl | (unfold inV; rfl)
theorem pys_any (d : D) : ∀ ds : List D, ((D.pys ds).any fun z => PyData.eqv z d.py) = memD d ds
  | [] => rfl
  | e :: ds => by
    show (PyData.eqv e.py d.py || (D.pys ds).any fun z => PyData.eqv z d.py) = (eqD e d || memD d ds)
    rw [pys_any d ds]; rfl
theorem opd_in' (hu : X.A.units + 65 < cLine) : OpD X (compareOp .In) (rdIn' false) := ⟨_, OpR.or op_in_seq (op_inD hu), fun F H μ x y d e k Q R Dx Dy h Cn => by
  have ls : (∃ ds, lsR μ e = some ds ∧ okD (der μ d) ∧ okD (.lst ds) ∧ k (.bl (memD (der μ d) ds)) μ) → rInD X.K x y H Q := fun ⟨ds, q, h1, h2, h3⟩ => by
    obtain ⟨p, vs, rfl, hs, hd⟩ := lsR_seq R Dy q
    refine ⟨_, _, der_dp R Dx h1.1, .lst hs (hd.dp R.same h2.1), h1.2, h2.2, ?_⟩
    rw [pys_any]
    exact Cn _ _ F _ _ h3 .refl R (.bl _)
  cases e with
  | tup ds =>
    obtain ⟨f1, f2, h⟩ := h
    cases Dy with
    | tup hs hd =>
      refine .inl ⟨_, _, rfl, .inr (seqT_mono R.same hs), flat_den Dx f1, flats_den hd f2, ?_⟩
      rw [inV_any, any_den Dx f1 hd f2]
      exact Cn _ _ F _ _ h .refl R (.bl _)
  | _ => exact .inr (ls h)⟩
theorem opd_notIn' (hu : X.A.units + 65 < cLine) : OpD X (compareOp .NotIn) (rdIn' true) := ⟨_, OpR.or op_notIn_seq (op_notInD hu), fun F H μ x y d e k Q R Dx Dy h Cn => by
  have ls : (∃ ds, lsR μ e = some ds ∧ okD (der μ d) ∧ okD (.lst ds) ∧ k (.bl (!memD (der μ d) ds)) μ) → rNotInD X.K x y H Q := fun ⟨ds, q, h1, h2, h3⟩ => by
    obtain ⟨p, vs, rfl, hs, hd⟩ := lsR_seq R Dy q
    refine ⟨_, _, der_dp R Dx h1.1, .lst hs (hd.dp R.same h2.1), h1.2, h2.2, ?_⟩
    rw [pys_any]
    exact Cn _ _ F _ _ h3 .refl R (.bl _)
  cases e with
  | tup ds =>
    obtain ⟨f1, f2, h⟩ := h
    cases Dy with
    | tup hs hd =>
      refine .inl ⟨_, _, rfl, .inr (seqT_mono R.same hs), flat_den Dx f1, flats_den hd f2, ?_⟩
      rw [inV_any, any_den Dx f1 hd f2]
      exact Cn _ _ F _ _ h .refl R (.bl _)
  | _ => exact .inr (ls h)⟩

/-! ### subscripts, slices -/
theorem DenL.atI {K : PySem.W.Frag} {F : Hp} {vs : List V} {ds : List D} {i : Int} {d : D} (r : DenL K F vs ds) (h : L2.atI ds i = some d) : ∃ v, L2.atI vs i = some v ∧ Den K F v d := by
  unfold L2.atI at h ⊢
  rw [r.length]
  cases e : ixN ds.length i with
  | none => rw [e] at h; cases h
  | some j =>
    rw [e] at h
    exact r.get' h
def rdIx : D2 := fun d e μ k => match e with
  | .int i => (match d with
    | .tup xs => ∃ v, L2.atI xs i = some v ∧ k v μ
    | .str z => z.length ≤ sizeLine ∧ ∃ c, L2.atI z.cps.toList i = some c ∧ k (.str ⟨#[c]⟩) μ
    | _ => ∃ xs, lsR μ d = some xs ∧ ∃ v, L2.atI xs i = some v ∧ k v μ)
  | _ => False
theorem rdIx_ref {K : PySem.W.Frag} : Ref2 K (rIx K) rdIx := fun F H μ x y d e k Q R Dx Dy h Cn => by
  cases e with
  | int i =>
    cases Dy
    have ls : (∃ xs, lsR μ d = some xs ∧ ∃ v, L2.atI xs i = some v ∧ k v μ) → rIx K x (.int i) H Q := fun ⟨xs, q, v, e, h⟩ => by
      obtain ⟨p, vs, rfl, hs, hd⟩ := lsR_seq R Dx q
      obtain ⟨w, e1, e2⟩ := hd.atI e
      exact .inl ⟨p, vs, i, w, rfl, rfl, hs, e1, Cn _ _ F _ _ h .refl R e2⟩
    cases d with
    | tup xs =>
      obtain ⟨v, e, h⟩ := h
      cases Dx with
      | tup hs hd =>
        obtain ⟨w, e1, e2⟩ := hd.atI e
        exact .inr (.inl ⟨_, _, i, w, rfl, rfl, seqT_mono R.same hs, e1, Cn _ _ F _ _ h .refl R e2⟩)
    | str z =>
      obtain ⟨hz, c, e, h⟩ := h
      cases Dx
      exact .inr (.inr ⟨z, i, c, rfl, rfl, hz, e, Cn _ _ F _ _ h .refl R (.str _)⟩)
    | _ => exact ls h
  | _ => exact (show False from h).elim
theorem pd_ix (ha : PD X a da) (hb : PD X b db) (hs : PlainIx b := by exact fun _ _ => rfl) : PD X (.Subscript a b pos) (dOp rdIx da db) :=
  PE.imp (pe_ix ix_seq ha hb hs) (op_ref rdIx_ref)
def cutD {α : Type} (xs : List α) (lo hi : Option Int) : List α := (xs.drop (HT.sIx xs.length 0 lo)).take (HT.sIx xs.length xs.length hi - HT.sIx xs.length 0 lo)
theorem DenL.cut {K : PySem.W.Frag} {F : Hp} {vs : List V} {ds : List D} (r : DenL K F vs ds) (lo hi : Option Int) : DenL K F (cutV vs lo hi) (cutD ds lo hi) := by
  unfold cutV cutD
  rw [r.length]
  exact (r.drop _).take _
def rdSl (m : Bool) (d : D) (lo hi : Option Int) (μ : Mu) (k : KD) : Prop := match d with
  | .tup xs => k (.tup (cutD xs lo hi)) μ
  | _ => ∃ xs, lsR μ d = some xs ∧ mk m (cutD xs lo hi) μ k
abbrev DO := Env → Mu → (Option Int → Mu → Prop) → Prop
def upO (K : PySem.W.Frag) (d : DO) : St → Hp → (Option Int → Hp → Prop) → Prop := fun σ H Q => ∃ F ρ μ k, RepM K F H μ ∧ EnvD K F σ ρ ∧ d ρ μ k ∧ ∀ o μ' F' H', k o μ' → Ext F H μ F' H' μ' → RepM K F' H' μ' → Q o H'
abbrev PDO (X : Cx) (e : Option Expr) (d : DO) : Prop := PO X e (upO X.K d)
theorem PO.imp {e : Option Expr} {t t' : St → Hp → (Option Int → Hp → Prop) → Prop} (h : PO X e t) (m : ∀ σ H Q, t' σ H Q → t σ H Q) : PO X e t' := ⟨fun pins s σ H Q I q => h.run pins s σ H Q I (m _ _ _ q)⟩
def dNoPart : DO := fun _ μ k => k none μ
def dPart (da : DE) : DO := fun ρ μ k => da ρ μ fun d μ1 => match d with
  | .int i => k (some i) μ1
  | _ => False
theorem pdo_none : PDO X none dNoPart := PO.imp po_none fun σ H Q ⟨F, ρ, μ, k, R, E, h, C⟩ => C _ _ F _ h .refl R
theorem pdo_some (ha : PD X a da) : PDO X (some a) (dPart da) := PO.imp (po_some ha) fun σ H Q ⟨F, ρ, μ, k, R, E, h, C⟩ => ⟨F, ρ, μ, _, R, E, h, fun d μ1 F1 v H1 h1 s1 R1 D1 => by
  cases d with
  | int i => cases D1; exact ⟨i, rfl, C _ _ F1 _ h1 s1 R1⟩
  | _ => exact (show False from h1).elim⟩
def dSl (m : Bool) (da : DE) (dl dh : DO) : DE := fun ρ μ k => da ρ μ fun d μ1 => dl ρ μ1 fun lo μ2 => dh ρ μ2 fun hi μ3 => rdSl m d lo hi μ3 k
theorem SlD {K : PySem.W.Frag} {m : Bool} {F H : Hp} {μ : Mu} {x : V} {d : D} {lo hi : Option Int} {k : KD} {Q : VK} (R : RepM K F H μ) (Dx : Den K F x d) (h : rdSl m d lo hi μ k) (Cn : Cont K F H μ k Q) : rSlL K x lo hi H Q ∨ rSlA K x lo hi H Q := by
  have ls : (∃ xs, lsR μ d = some xs ∧ mk m (cutD xs lo hi) μ k) → rSlL K x lo hi H Q := fun ⟨xs, q, h⟩ => by
    obtain ⟨p, vs, rfl, hs, hd⟩ := lsR_seq R Dx q
    exact ⟨p, vs, rfl, hs, fun p n => mk_ok R (hd.cut lo hi) h Cn n⟩
  cases d with
  | tup xs =>
    have h : k (.tup (cutD xs lo hi)) μ := h
    cases Dx with
    | tup hs hd =>
      refine .inr ⟨_, _, rfl, seqT_mono R.same hs, fun e => ?_, fun _ p n => tup_ok R (hd.cut lo hi) h Cn n⟩
      have e2 : cutD xs lo hi = xs := by
        unfold cutD
        rw [hd.length] at e
        rw [e.1, e.2, Nat.sub_zero, List.drop_zero, List.take_length]
      rw [e2] at h
      exact Cn _ _ F _ _ h .refl R (.tup hs hd)
  | _ => exact .inl (ls h)
theorem pd_sl (m : Bool) {lo hi : Option Expr} {p2 : Pos} {dl dh : DO} (ha : PD X a da) (hl : PDO X lo dl) (hh : PDO X hi dh) : PD X (.Subscript a (.Slice lo hi none p2) pos) (dSl m da dl dh) :=
  PE.imp (pe_slice (SlR.or sl_list sl_tupA) ha hl hh) fun σ H Q ⟨F, ρ, μ, k, R, E, h, C⟩ => ⟨F, ρ, μ, _, R, E, h, fun d μ1 F1 v H1 h1 s1 R1 D1 => ⟨F1, ρ, μ1, _, R1, E.ext s1, h1, fun lo μ2 F2 H2 h2 s2 R2 =>
    ⟨F2, ρ, μ2, _, R2, E.ext (s1.trans s2), h2, fun hi μ3 F3 H3 h3 s3 R3 => SlD R3 (D1.ext (s2.trans s3)) h3 (C.mono ((s1.trans s2).trans s3))⟩⟩⟩
end
end DL
/-! DLc: calls, targets, statements, loops, comprehensions, defs. -/
namespace DL
open PySem PySem.Spec L2
open PyProof.Rows hiding St
variable [anc : Anc]

/-! ### calls of built-ins -/
abbrev DCall := List D → Mu → KD → Prop
def RefA (K : PySem.W.Frag) (r : List V → Hp → VK → Prop) (rd : DCall) : Prop := ∀ F H μ xs ds k Q, RepM K F H μ → DenL K F xs ds → rd ds μ k → Cont K F H μ k Q → r xs H Q
def CallD (X : Cx) (f : Value) (rd : DCall) : Prop := ∃ r, CallR X f r ∧ RefA X.K r rd
def dCB (rd : DCall) (da : DA) : DE := fun ρ μ k => da ρ μ fun ds μ1 => rd ds μ1 k
section
variable {X : Cx} {x : Str} {p pos : Pos} {e : Expr} {es : List Expr} {da : DA} {id T : String} {rd : DCall}
theorem cb_ref {K : PySem.W.Frag} {r : List V → Hp → VK → Prop} (hr : RefA K r rd) : ∀ σ H Q, up K (dCB rd da) σ H Q → tCB r (upA K da) σ H Q :=
  fun σ H Q ⟨F, ρ, μ, k, R, E, h, C⟩ => ⟨F, ρ, μ, _, R, E, h, fun ds μ1 F1 vs H1 h1 s1 R1 D1 => hr F1 H1 μ1 vs ds k Q R1 D1 h1 (C.mono s1)⟩
theorem pd_callB (hc : CallD X (.builtin id) rd) (hg : Gl X x) (hm : X.mg x = none) (hv : bootBuiltins x = some (.builtin id)) (ha : PDA X (e :: es) da) (hn : x ≠ "__name__" := by decide) (hdb : (x == ("__debug__" : Str)) = false := by decide)
    (he : starEach (e :: es) X.env = (false, eval e X.env) :: starEach es X.env := by rfl) (hpl : (backTo pos (starEach es X.env)).any (·.1) = false := by rfl) : PD X (.Call (.Name x p) (e :: es) [] pos) (dCB rd da) :=
  let ⟨_, h1, h2⟩ := hc
  PE.imp (pe_callB h1 hg hm hv ha hn hdb he hpl) (cb_ref h2)
theorem pd_callTy (hc : CallD X (.type T) rd) (hg : Gl X x) (hm : X.mg x = none) (hv : bootBuiltins x = some (.type T)) (ha : PDA X (e :: es) da) (hn : x ≠ "__name__" := by decide) (hdb : (x == ("__debug__" : Str)) = false := by decide)
    (he : starEach (e :: es) X.env = (false, eval e X.env) :: starEach es X.env := by rfl) (hpl : (backTo pos (starEach es X.env)).any (·.1) = false := by rfl) : PD X (.Call (.Name x p) (e :: es) [] pos) (dCB rd da) :=
  let ⟨_, h1, h2⟩ := hc
  PE.imp (pe_callTy h1 hg hm hv ha hn hdb he hpl) (cb_ref h2)
end
/-- one int -/
def rdI1 (g : Int → D) : DCall := fun ds μ k => match ds with
  | [.int i] => k (g i) μ
  | _ => False
section
variable {X : Cx}
def rdAbs : DCall := rdI1 fun i => .int (if i < 0 then -i else i)
theorem cd_abs : CallD X (.builtin "abs") rdAbs := ⟨_, call_abs, fun F H μ xs ds k Q R Dx h C => by
  unfold rdAbs rdI1 at h
  split at h
  · rename_i i
    cases Dx with
    | cons h1 h2 => cases h1; cases h2; exact ⟨i, rfl, C _ _ F _ _ h .refl R (.int _)⟩
  · exact h.elim⟩
def rdII (g : Int → Int → D) : DCall := fun ds μ k => match ds with
  | [.int i, .int j] => k (g i j) μ
  | _ => False
def rdMax2 : DCall := rdII fun i j => .int (if j > i then j else i)
def rdMin2 : DCall := rdII fun i j => .int (if j < i then j else i)
theorem cd_max2 (hc : X.calm = true) : CallD X (.builtin "max") rdMax2 := ⟨_, call_max2 hc, fun F H μ xs ds k Q R Dx h C => by
  unfold rdMax2 rdII at h
  split at h
  · rename_i i j
    cases Dx with
    | cons h1 h2 => cases h1; cases h2 with
      | cons h2 h3 => cases h2; cases h3; exact ⟨i, j, rfl, C _ _ F _ _ h .refl R (.int _)⟩
  · exact h.elim⟩
theorem cd_min2 (hc : X.calm = true) : CallD X (.builtin "min") rdMin2 := ⟨_, call_min2 hc, fun F H μ xs ds k Q R Dx h C => by
  unfold rdMin2 rdII at h
  split at h
  · rename_i i j
    cases Dx with
    | cons h1 h2 => cases h1; cases h2 with
      | cons h2 h3 => cases h2; cases h3; exact ⟨i, j, rfl, C _ _ F _ _ h .refl R (.int _)⟩
  · exact h.elim⟩
def rdInt : DCall := fun ds μ k => match ds with
  | [.int i] => k (.int i) μ
  | [.bl b] => k (.int (if b = true then 1 else 0)) μ
  | _ => False
theorem cd_int : CallD X (.type "int") rdInt := ⟨_, call_int1, fun F H μ xs ds k Q R Dx h C => by
  unfold rdInt at h
  split at h
  · rename_i i
    cases Dx with
    | cons h1 h2 => cases h1; cases h2; exact .inl ⟨i, rfl, C _ _ F _ _ h .refl R (.int _)⟩
  · rename_i b
    cases Dx with
    | cons h1 h2 => cases h1; cases h2; exact .inr ⟨b, rfl, C _ _ F _ _ h .refl R (.int _)⟩
  · exact h.elim⟩
def rdLen : DCall := fun ds μ k => match ds with
  | [.tup xs] => k (.int xs.length) μ
  | [.str z] => z.length ≤ sizeLine ∧ k (.int z.length) μ
  | [d] => ∃ xs, lsR μ d = some xs ∧ k (.int xs.length) μ
  | _ => False
theorem cd_len : CallD X (.builtin "len") rdLen := ⟨_, CallR.or call_len_seq call_len_str, fun F H μ xs ds k Q R Dx h C => by
  unfold rdLen at h
  split at h
  · cases Dx with
    | cons h1 h2 => cases h1 with
      | tup hs hd => cases h2; exact .inl ⟨_, _, rfl, .inr (seqT_mono R.same hs), by rw [hd.length]; exact C _ _ F _ _ h .refl R (.int _)⟩
  · cases Dx with
    | cons h1 h2 => cases h1; cases h2; exact .inr ⟨_, rfl, h.1, C _ _ F _ _ h.2 .refl R (.int _)⟩
  · cases Dx with
    | cons h1 h2 =>
      cases h2
      obtain ⟨ys, q, h⟩ := h
      obtain ⟨p, vs, rfl, hs, hd⟩ := lsR_seq R h1 q
      exact .inl ⟨p, vs, rfl, .inl hs, by rw [hd.length]; exact C _ _ F _ _ h .refl R (.int _)⟩
  · exact h.elim⟩
def rdList (m : Bool) : DCall := fun ds μ k => match ds with
  | [.tup xs] => mk m xs μ k
  | [d] => ∃ xs, lsR μ d = some xs ∧ mk m xs μ k
  | _ => False
theorem cd_list (m : Bool) : CallD X (.type "list") (rdList m) := ⟨_, call_list_of, fun F H μ xs ds k Q R Dx h C => by
  unfold rdList at h
  split at h
  · cases Dx with
    | cons h1 h2 => cases h1 with
      | tup hs hd => cases h2; exact ⟨_, _, rfl, .inr (seqT_mono R.same hs), fun p n => mk_ok R hd h C n⟩
  · cases Dx with
    | cons h1 h2 =>
      cases h2
      obtain ⟨ys, q, h⟩ := h
      obtain ⟨p, vs, rfl, hs, hd⟩ := lsR_seq R h1 q
      exact ⟨p, vs, rfl, .inl hs, fun p n => mk_ok R hd h C n⟩
  · exact h.elim⟩
def rdTuple : DCall := fun ds μ k => match ds with
  | [.tup xs] => k (.tup xs) μ
  | [d] => ∃ xs, lsR μ d = some xs ∧ k (.tup xs) μ
  | _ => False
theorem cd_tuple : CallD X (.type "tuple") rdTuple := ⟨_, call_tuple_of, fun F H μ xs ds k Q R Dx h C => by
  unfold rdTuple at h
  split at h
  · cases Dx with
    | cons h1 h2 => cases h1 with
      | tup hs hd => cases h2; exact ⟨_, _, rfl, .inr ⟨seqT_mono R.same hs, C _ _ F _ _ h .refl R (.tup hs hd)⟩⟩
  · cases Dx with
    | cons h1 h2 =>
      cases h2
      obtain ⟨ys, q, h⟩ := h
      obtain ⟨p, vs, rfl, hs, hd⟩ := lsR_seq R h1 q
      exact ⟨p, vs, rfl, .inl ⟨hs, fun p n => tup_ok R hd h C n⟩⟩
  · exact h.elim⟩
/-- the truths of a list -/
def blsOf : List D → Option (List Bool)
  | [] => some []
  | .bl b :: ds => (blsOf ds).map (b :: ·)
  | _ :: _ => none
theorem blsOf_eq : ∀ {ds : List D} {bs : List Bool}, blsOf ds = some bs → ds = bs.map D.bl
  | [], _, e => by cases e; rfl
  | d :: ds, bs, e => by
    cases d with
    | bl b =>
      cases q : blsOf ds with
      | none => simp [blsOf, q] at e
      | some cs => simp only [blsOf, q, Option.map_some] at e; cases e; rw [blsOf_eq q]; rfl
    | _ => cases e
theorem blsOf_map : ∀ bs : List Bool, blsOf (bs.map D.bl) = some bs
  | [] => rfl
  | b :: bs => by show (blsOf (bs.map D.bl)).map (b :: ·) = _; rw [blsOf_map bs]; rfl
def rdAll : DCall := fun ds μ k => match ds with
  | [d] => ∃ xs, lsR μ d = some xs ∧ ∃ bs, blsOf xs = some bs ∧ k (.bl (bs.all id)) μ
  | _ => False
def rdAny : DCall := fun ds μ k => match ds with
  | [d] => ∃ xs, lsR μ d = some xs ∧ ∃ bs, blsOf xs = some bs ∧ k (.bl (bs.any id)) μ
  | _ => False
theorem cd_all (hc : X.calm = true) : CallD X (.builtin "all") rdAll := ⟨_, cr_all hc, fun F H μ xs ds k Q R Dx h C => by
  unfold rdAll at h
  split at h
  · cases Dx with
    | cons h1 h2 =>
      cases h2
      obtain ⟨ys, q, bs, q2, h⟩ := h
      obtain ⟨p, vs, rfl, hs, hd⟩ := lsR_seq R h1 q
      rw [blsOf_eq q2] at hd
      rw [hd.ofBls] at hs
      exact ⟨p, bs, rfl, hs, C _ _ F _ _ h .refl R (.bl _)⟩
  · exact h.elim⟩
theorem cd_any (hc : X.calm = true) : CallD X (.builtin "any") rdAny := ⟨_, cr_any hc, fun F H μ xs ds k Q R Dx h C => by
  unfold rdAny at h
  split at h
  · cases Dx with
    | cons h1 h2 =>
      cases h2
      obtain ⟨ys, q, bs, q2, h⟩ := h
      obtain ⟨p, vs, rfl, hs, hd⟩ := lsR_seq R h1 q
      rw [blsOf_eq q2] at hd
      rw [hd.ofBls] at hs
      exact ⟨p, bs, rfl, hs, C _ _ F _ _ h .refl R (.bl _)⟩
  · exact h.elim⟩
/-- isinstance -/
def okTy (n : String) : Bool := n == "int" || n == "bool" || n == "str" || n == "list" || n == "tuple"
def isD (d : D) (n : String) : Bool := match d with
  | .int _ => n == "int"
  | .bl _ => n == "bool" || n == "int"
  | .str _ => n == "str"
  | .lst _ => n == "list"
  | .tup _ => n == "tuple"
  | _ => false
def noRef : D → Bool
  | .ref _ => false
  | .ty _ => false
  | .scr _ => false
  | .obj _ _ _ => false
  | _ => true
def kitR (a n : String) : Bool := match a with
  | "int" => n == "int"
  | "bool" => n == "bool" || n == "int"
  | "str" => n == "str"
  | "list" => n == "list"
  | "tuple" => n == "tuple"
  | _ => false
theorem kit_all : (["NoneType", "int", "bool", "str", "list", "tuple"].all fun a => ["int", "bool", "str", "list", "tuple"].all fun b => kitB a b == some (kitR a b)) = true := by decide +kernel
theorem okTy_mem {n : String} (h : okTy n = true) : n ∈ ["int", "bool", "str", "list", "tuple"] := by
  unfold okTy at h
  simp only [Bool.or_eq_true, beq_iff_eq] at h
  rcases h with (((h | h) | h) | h) | h <;> subst h <;> simp
theorem kit_at {a n : String} (ha : a ∈ ["NoneType", "int", "bool", "str", "list", "tuple"]) (h : okTy n = true) : kitB a n = some (kitR a n) :=
  beq_iff_eq.mp (List.all_eq_true.mp (List.all_eq_true.mp kit_all a ha) n (okTy_mem h))
theorem tyx_of {K : PySem.W.Frag} {F H : Hp} {μ : Mu} {v : V} {d : D} (R : RepM K F H μ) (h : Den K F v d) (hn : noRef (der μ d) = true) :
    ∃ t, TyX K H v t ∧ ∀ n, okTy n = true → PySem.W.kitOne K t (.type n) = some (isD (der μ d) n) := by
  cases d with
  | non => cases h; exact ⟨_, .base .non, fun n hk => kit_ty (kit_at (a := "NoneType") (by decide) hk)⟩
  | bl b => cases h; exact ⟨_, .base (.bl b), fun n hk => kit_ty (kit_at (a := "bool") (by decide) hk)⟩
  | int i => cases h; exact ⟨_, .base (.int i), fun n hk => kit_ty (kit_at (a := "int") (by decide) hk)⟩
  | str x => cases h; exact ⟨_, .base (.str x), fun n hk => kit_ty (kit_at (a := "str") (by decide) hk)⟩
  | ty m => cases hn
  | scr m => cases hn
  | obj C ns ds => cases hn
  | lst xs =>
    cases h with
    | lst hs hd => exact ⟨_, .base (.lst (R.same _ _ hs)), fun n hk => kit_ty (kit_at (a := "list") (by decide) hk)⟩
  | tup xs =>
    cases h with
    | tup hs hd =>
      rcases seqT_mono R.same hs with (q | ⟨o, q⟩) | ⟨o, its, m, q, c, _⟩
      · exact ⟨_, .base (.tup q), fun n hk => kit_ty (kit_at (a := "tuple") (by decide) hk)⟩
      · exact ⟨_, .fTuple q, fun n hk => kit_ty (kit_at (a := "tuple") (by decide) hk)⟩
      · exact ⟨_, .kTuple q c, fun n hk => kit_ty (kit_at (a := "tuple") (by decide) hk)⟩
  | ref a =>
    cases h
    cases e : μ a with
    | none => simp only [der, e] at hn; cases hn
    | some o =>
      simp only [der, e] at hn ⊢
      cases o with
      | lst xs =>
        obtain ⟨_, vs, h, r⟩ := R.mu a _ e
        exact ⟨_, .base (.lst h), fun n hk => kit_ty (kit_at (a := "list") (by decide) hk)⟩
      | _ => cases hn
def dIsi (n : String) (da : DE) : DE := fun ρ μ k => da ρ μ fun d μ1 => noRef (der μ1 d) = true ∧ k (.bl (isD (der μ1 d) n)) μ1
variable {p p2 p3 pos : Pos} {e : Expr} {da : DE} {y z : Str} {n m : String}
theorem pd_isi (ha : PD X e da) (hy : Gl X y) (my : X.mg y = none) (hg : Gl X "isinstance") (hm : X.mg "isinstance" = none) (by_ : bootBuiltins y = some (.type n) := by first | rfl | decide +kernel) (hk : okTy n = true := by decide +kernel)
    (hb : bootBuiltins "isinstance" = some (.builtin "isinstance") := by first | rfl | decide +kernel) (hn : y ≠ "__name__" := by decide) (hdb : (y == ("__debug__" : Str)) = false := by decide)
    (hst : starEach [e, .Name y p2] X.env = (false, eval e X.env) :: starEach [.Name y p2] X.env := by rfl) :
    PD X (.Call (.Name "isinstance" p) [e, .Name y p2] [] pos) (dIsi n da) :=
  PE.imp (pe_callB call_isi hg hm hb (pa_cons ha (pa_cons (pe_bltn (v := .ty n) hy my by_ rfl hn hdb) pa_nil) hst) (he := hst))
    fun σ H Q ⟨F, ρ, μ, k, R, E, h, C⟩ => ⟨F, ρ, μ, _, R, E, h, fun d μ1 F1 v H1 ⟨hr, h1⟩ s1 R1 D1 => by
      obtain ⟨t, h2, h3⟩ := tyx_of R1 D1 hr
      exact ⟨v, .ty n, t, .type n, _, rfl, .ty n, h2, h3 n hk, C _ _ F1 _ _ h1 s1 R1 (.bl _)⟩⟩
def dIsi2 (n m : String) (da : DE) : DE := fun ρ μ k => da ρ μ fun d μ1 => noRef (der μ1 d) = true ∧ k (.bl (isD (der μ1 d) n || isD (der μ1 d) m)) μ1
theorem pd_isi2 {j : Nat} (ha : PD X e da) (hy : Gl X y) (my : X.mg y = none) (hz : Gl X z) (mz : X.mg z = none) (hg : Gl X "isinstance") (hm : X.mg "isinstance" = none) (by_ : bootBuiltins y = some (.type n) := by first | rfl | decide +kernel) (bz : bootBuiltins z = some (.type m) := by first | rfl | decide +kernel) (hk : okTy n = true := by decide +kernel) (hk2 : okTy m = true := by decide +kernel)
    (hb : bootBuiltins "isinstance" = some (.builtin "isinstance") := by first | rfl | decide +kernel) (hn : y ≠ "__name__" := by decide) (hdb : (y == ("__debug__" : Str)) = false := by decide) (hn2 : z ≠ "__name__" := by decide) (hdb2 : (z == ("__debug__" : Str)) = false := by decide)
    (hst : starEach [e, .Tuple [.Name y p2, .Name z p3] j pos2] X.env = (false, eval e X.env) :: starEach [.Tuple [.Name y p2, .Name z p3] j pos2] X.env := by rfl) :
    PD X (.Call (.Name "isinstance" p) [e, .Tuple [.Name y p2, .Name z p3] j pos2] [] pos) (dIsi2 n m da) :=
  PE.imp (pe_callB call_isiT hg hm hb (pa_cons ha (pa_cons (pe_tup (pa_cons (pe_bltn (v := .ty n) hy my by_ rfl hn hdb) (pa_cons (pe_bltn (v := .ty m) hz mz bz rfl hn2 hdb2) pa_nil))) pa_nil) hst) (he := hst))
    fun σ H Q ⟨F, ρ, μ, k, R, E, h, C⟩ => ⟨F, ρ, μ, _, R, E, h, fun d μ1 F1 v H1 ⟨hr, h1⟩ s1 R1 D1 => ⟨by show 2 ≤ sizeLine; decide, fun tp nt => by
      have R2 := R1.dropped nt (.tup [V.ty n, V.ty m])
      obtain ⟨t, h2, h3⟩ := tyx_of R2 D1 hr
      have hc := C _ _ F1 _ _ h1 (s1.trans (.drop nt)) R2 (.bl _)
      have hk3 : PySem.W.kitAny X.K t [.type n, .type m] = some (isD (der μ1 d) n || isD (der μ1 d) m) := by
        refine kitAny_cons (h3 n hk) (fun e => ?_) (fun e => by rw [e]; rfl)
        rw [e, Bool.false_or]
        refine kitAny_cons (h3 m hk2) (fun e => ?_) (fun e => e)
        rw [e]; rfl
      exact ⟨v, tp, [.ty n, .ty m], t, [.type n, .type m], _, rfl, upd_same, .cons (.ty n) (.cons (.ty m) .nil), h2, hk3, hc⟩⟩⟩
end
end DL
/-! DLd: methods of lists, targets, statements, loops, comprehensions, defs. -/
namespace DL
open PySem PySem.Spec L2
open PyProof.Rows hiding St
variable [anc : Anc]

/-! ### methods of lists -/
abbrev DMt := D → List D → Mu → KD → Prop
def RefM (K : PySem.W.Frag) (r : V → List V → Hp → VK → Prop) (rd : DMt) : Prop := ∀ F H μ x d xs ds k Q, RepM K F H μ → Den K F x d → DenL K F xs ds → rd d ds μ k → Cont K F H μ k Q → r x xs H Q
def MtD (X : Cx) (id : String) (rd : DMt) : Prop := ∃ r, MtR X id r ∧ RefM X.K r rd
def dBM (rd : DMt) (da : DE) (dr : DA) : DE := fun ρ μ k => da ρ μ fun d μ1 => (∃ xs, lsR μ1 d = some xs) ∧ dr ρ μ1 fun ds μ2 => rd d ds μ2 k
def dBM0 (rd : DMt) (da : DE) : DE := fun ρ μ k => da ρ μ fun d μ1 => (∃ xs, lsR μ1 d = some xs) ∧ rd d [] μ1 k
theorem tyv_list {K : PySem.W.Frag} {F H : Hp} {μ : Mu} {d : D} {v : V} {xs : List D} (R : RepM K F H μ) (h : Den K F v d) (e : lsR μ d = some xs) : tyV K "list" v H := by
  obtain ⟨p, vs, rfl, hs, hd⟩ := lsR_seq R h e
  exact .inl ⟨rfl, vs, hs⟩
section
variable {X : Cx} {o e : Expr} {es : List Expr} {da : DE} {dr : DA} {name : Str} {apos cpos : Pos} {id : String} {rd : DMt}
theorem pd_bm0 (slot : Slot "list" name id) (hty : typeOf (.builtin id) = pure (.type "method_descriptor")) (hm : MtD X id rd) (ho : PD X o da)
    (hbase : attributeBase o name X.env (eval o X.env) = eval o X.env := by rfl) (hline : (apos.endLine == cpos.line) = true := by rfl) : PD X (.Call (.Attribute o name apos) [] [] cpos) (dBM0 rd da) :=
  let ⟨_, h1, h2⟩ := hm
  PE.imp (pe_bm0 PySem.F.plainAttrs_list slot hty h1 ho hbase hline) fun σ H Q ⟨F, ρ, μ, k, R, E, h, C⟩ => ⟨F, ρ, μ, _, R, E, h, fun d μ1 F1 v H1 ⟨⟨xs, hx⟩, h3⟩ s1 R1 D1 =>
    ⟨tyv_list R1 D1 hx, h2 F1 H1 μ1 v d [] [] k Q R1 D1 .nil h3 (C.mono s1)⟩⟩
theorem pd_bm (slot : Slot "list" name id) (hty : typeOf (.builtin id) = pure (.type "method_descriptor")) (hm : MtD X id rd) (ho : PD X o da) (ha : PDA X (e :: es) dr)
    (hbase : attributeBase o name X.env (eval o X.env) = eval o X.env := by rfl)
    (hfew : ((backTo cpos (starEach (e :: es) X.env)).all (fun x => !x.1) && (backToKw cpos (keywordEach [] X.env)).all (fun x => x.1.isSome)
      && decide ((e :: es).length + ([] : List Keyword).length + (if ([] : List Keyword).isEmpty then 0 else 1) < 30)) = true := by rfl)
    (hline : (apos.endLine == cpos.line) = true := by rfl) (hs : starEach (e :: es) X.env = (false, eval e X.env) :: starEach es X.env := by rfl) (hplain : (backTo cpos (starEach es X.env)).any (·.1) = false := by rfl) :
    PD X (.Call (.Attribute o name apos) (e :: es) [] cpos) (dBM rd da dr) :=
  let ⟨_, h1, h2⟩ := hm
  PE.imp (pe_bm PySem.F.plainAttrs_list slot hty h1 ho ha hbase hfew hline hs hplain) fun σ H Q ⟨F, ρ, μ, k, R, E, h, C⟩ => ⟨F, ρ, μ, _, R, E, h, fun d μ1 F1 v H1 ⟨⟨xs, hx⟩, h3⟩ s1 R1 D1 =>
    ⟨tyv_list R1 D1 hx, ⟨F1, ρ, μ1, _, R1, E.ext s1, h3, fun ds μ2 F2 vs H2 h4 s2 R2 D2 => h2 F2 H2 μ2 v d vs ds k Q R2 (D1.ext s2) D2 h4 (C.mono (s1.trans s2))⟩⟩⟩
end
/-- a mutable list changed -/
def onL (d : D) (μ : Mu) (f : Addr → List D → Prop) : Prop := match d with
  | .ref a => (match μ a with
    | some (.lst xs) => f a xs
    | _ => False)
  | _ => False
theorem onL_ok {K : PySem.W.Frag} {F H : Hp} {μ : Mu} {d : D} {v : V} {f : Addr → List D → Prop} (R : RepM K F H μ) (h : Den K F v d) (q : onL d μ f) :
    ∃ a xs vs, v = .ref a ∧ μ a = some (.lst xs) ∧ F a = none ∧ H a = some (.lst vs) ∧ DenL K F vs xs ∧ f a xs := by
  unfold onL at q
  split at q
  · rename_i a
    split at q
    · rename_i xs e
      cases h
      obtain ⟨n, vs, h1, h2⟩ := R.mu a _ e
      exact ⟨a, xs, vs, rfl, e, n, h1, h2, q⟩
    · exact q.elim
  · exact q.elim
def rdAppend : DMt := fun d ds μ k => match ds with
  | [e] => onL d μ fun a xs => xs.length < sizeLine ∧ k .non (mset μ a (.lst (xs ++ [e])))
  | _ => False
def rdExtend : DMt := fun d ds μ k => match ds with
  | [e] => onL d μ fun a xs => ∃ ys, lsOf μ e = some ys ∧ xs.length + ys.length ≤ sizeLine ∧ k .non (mset μ a (.lst (xs ++ ys)))
  | _ => False
def rdPop : DMt := fun d ds μ k => match ds with
  | [] => onL d μ fun a xs => ∃ y, xs[xs.length - 1]? = some y ∧ k y (mset μ a (.lst xs.dropLast))
  | [.int i] => onL d μ fun a xs => (-(2 ^ 63) ≤ i ∧ i < 2 ^ 63) ∧ ∃ j, seqIndex? i xs.length = some j ∧ ∃ y, xs[j]? = some y ∧ k y (mset μ a (.lst (xs.eraseIdx j)))
  | _ => False
def rdReverse : DMt := fun d ds μ k => match ds with
  | [] => onL d μ fun a xs => k .non (mset μ a (.lst xs.reverse))
  | _ => False
def rdClear : DMt := fun d ds μ k => match ds with
  | [] => onL d μ fun a xs => k .non (mset μ a (.lst []))
  | _ => False
section
variable {X : Cx}
theorem md_append : MtD X "list.append" rdAppend := ⟨_, mt_append, fun F H μ x d xs ds k Q R Dx Ds h C => by
  unfold rdAppend at h
  split at h
  · obtain ⟨a, ys, vs, rfl, e1, n, e2, r, z, h⟩ := onL_ok R Dx h
    cases Ds with
    | cons h1 h2 =>
      cases h2
      exact ⟨a, vs, _, rfl, rfl, e2, by rw [r.length]; exact z, C _ _ F _ _ h (.put e1) (R.store n ⟨_, upd_same, r.snoc h1⟩ (.put e1)) .non⟩
  · exact h.elim⟩
theorem md_extend : MtD X "list.extend" rdExtend := ⟨_, mt_extend, fun F H μ x d xs ds k Q R Dx Ds h C => by
  unfold rdExtend at h
  split at h
  · obtain ⟨a, ys, vs, rfl, e1, n, e2, r, zs, q, z, h⟩ := onL_ok R Dx h
    cases Ds with
    | cons h1 h2 =>
      cases h2
      obtain ⟨p, ws, rfl, hs, hd⟩ := lsOf_seq R h1 q
      exact ⟨a, p, vs, ws, rfl, rfl, e2, hs, by rw [r.length, hd.length]; exact z, C _ _ F _ _ h (.put e1) (R.store n ⟨_, upd_same, r.append hd⟩ (.put e1)) .non⟩
  · exact h.elim⟩
theorem md_pop : MtD X "list.pop" rdPop := ⟨_, MtR.or mt_pop mt_popAt, fun F H μ x d xs ds k Q R Dx Ds h C => by
  unfold rdPop at h
  split at h
  · obtain ⟨a, ys, vs, rfl, e1, n, e2, r, y, q, h⟩ := onL_ok R Dx h
    cases Ds
    obtain ⟨w, hw, dw⟩ := r.get' q
    exact .inl ⟨a, vs, w, rfl, rfl, e2, by rw [r.length]; exact hw, C _ _ F _ _ h (.put e1) (R.store n ⟨_, upd_same, r.dropLast⟩ (.put e1)) dw⟩
  · rename_i i
    obtain ⟨a, ys, vs, rfl, e1, n, e2, r, ⟨b1, b2⟩, j, hj, y, q, h⟩ := onL_ok R Dx h
    cases Ds with
    | cons h1 h2 =>
      cases h1
      cases h2
      obtain ⟨w, hw, dw⟩ := r.get' q
      exact .inr ⟨a, vs, i, j, w, rfl, rfl, e2, b1, b2, by rw [r.length]; exact hj, hw, C _ _ F _ _ h (.put e1) (R.store n ⟨_, upd_same, r.eraseIdx j⟩ (.put e1)) dw⟩
  · exact h.elim⟩
theorem md_reverse : MtD X "list.reverse" rdReverse := ⟨_, mt_reverse, fun F H μ x d xs ds k Q R Dx Ds h C => by
  unfold rdReverse at h
  split at h
  · obtain ⟨a, ys, vs, rfl, e1, n, e2, r, h⟩ := onL_ok R Dx h
    cases Ds
    exact ⟨a, vs, rfl, rfl, e2, C _ _ F _ _ h (.put e1) (R.store n ⟨_, upd_same, r.reverse⟩ (.put e1)) .non⟩
  · exact h.elim⟩
theorem md_clear : MtD X "list.clear" rdClear := ⟨_, mt_clear, fun F H μ x d xs ds k Q R Dx Ds h C => by
  unfold rdClear at h
  split at h
  · obtain ⟨a, ys, vs, rfl, e1, n, e2, r, h⟩ := onL_ok R Dx h
    cases Ds
    exact ⟨a, vs, rfl, rfl, e2, C _ _ F _ _ h (.put e1) (R.store n ⟨_, upd_same, .nil⟩ (.put e1)) .non⟩
  · exact h.elim⟩
end

/-! ### targets -/
abbrev DG := D → Env → Mu → (Env → Mu → Prop) → Prop
abbrev DGs := List D → Env → Mu → (Env → Mu → Prop) → Prop
def Off (vs : List Nat) (σ σ' : St) : Prop := σ.length = σ'.length ∧ ∀ i, i ∉ vs → σ[i]? = σ'[i]?
theorem Off.refl {vs : List Nat} {σ : St} : Off vs σ σ := ⟨rfl, fun _ _ => rfl⟩
theorem Off.trans {vs : List Nat} {a b c : St} (h : Off vs a b) (h' : Off vs b c) : Off vs a c := ⟨h.1.trans h'.1, fun i n => (h.2 i n).trans (h'.2 i n)⟩
theorem Off.mono {vs ws : List Nat} {a b : St} (h : Off vs a b) (s : ∀ i, i ∈ vs → i ∈ ws) : Off ws a b := ⟨h.1, fun i n => h.2 i fun z => n (s i z)⟩
theorem Off.wipe {vs : List Nat} {σ σ' : St} (h : Off vs σ σ') : L2.wipe σ vs = L2.wipe σ' vs := by
  have g : ∀ (ws : List Nat) (a b : St), a.length = b.length → (∀ i, i ∉ ws → a[i]? = b[i]?) → L2.wipe a ws = L2.wipe b ws := by
    intro ws
    induction ws with
    | nil => intro a b hl h; exact List.ext_getElem? fun i => h i (by simp)
    | cons w ws ih =>
      intro a b hl h
      have hw : ∀ (σ : St) (i : Nat), i < σ.length → ∀ ws : List Nat, (L2.wipe σ ws)[i]? = if i ∈ ws then some none else σ[i]? := by
        intro σ i hi ws
        induction ws with
        | nil => simp [L2.wipe]
        | cons v vs ih2 =>
          show ((L2.wipe σ vs).set v none)[i]? = _
          rw [List.getElem?_set, wipe_length]
          by_cases e : v = i
          · subst e; simp [hi]
          · rw [if_neg e, ih2]
            have : i ∈ v :: vs ↔ i ∈ vs := by simp [Ne.symm e]
            simp [this]
      refine List.ext_getElem? fun i => ?_
      by_cases hi : i < a.length
      · rw [hw a i hi, hw b i (hl ▸ hi)]
        split
        · rfl
        · rename_i n; exact h i n
      · rw [List.getElem?_eq_none (by rw [wipe_length]; omega), List.getElem?_eq_none (by rw [wipe_length]; omega)]
  exact g vs σ σ' h.1 h.2
theorem wipe_off (σ : St) : ∀ vs : List Nat, Off vs (L2.wipe σ vs) σ := fun vs => ⟨wipe_length σ vs, fun i n => by
  induction vs with
  | nil => rfl
  | cons v vs ih =>
    show ((L2.wipe σ vs).set v none)[i]? = _
    have hv : v ≠ i := fun e => n (by simp [e])
    rw [List.getElem?_set_ne hv]
    exact ih fun z => n (List.mem_cons_of_mem _ z)⟩
def upG (K : PySem.W.Frag) (g : DG) (vs : List Nat) : TG := fun v σ H Q => ∃ F ρ μ d kk, RepM K F H μ ∧ EnvD K F σ ρ ∧ Den K F v d ∧ g d ρ μ kk ∧
  ∀ ρ' μ' F' σ' H', kk ρ' μ' → Ext F H μ F' H' μ' → RepM K F' H' μ' → EnvD K F' σ' ρ' → Off vs σ σ' → Q σ' H'
def upGs (K : PySem.W.Frag) (g : DGs) (vs : List Nat) : TGs := fun xs σ H Q => ∃ F ρ μ ds kk, RepM K F H μ ∧ EnvD K F σ ρ ∧ DenL K F xs ds ∧ g ds ρ μ kk ∧
  ∀ ρ' μ' F' σ' H', kk ρ' μ' → Ext F H μ F' H' μ' → RepM K F' H' μ' → EnvD K F' σ' ρ' → Off vs σ σ' → Q σ' H'
def PDG (X : Cx) (tg : Expr) (g : DG) (vs : List Nat) : Prop := PG X tg (upG X.K g vs)
def PDGs (X : Cx) (tgs : List Expr) (g : DGs) (vs : List Nat) : Prop := PGs X tgs (upGs X.K g vs)
theorem PG.imp {X : Cx} {tg : Expr} {t t' : TG} (h : PG X tg t) (m : ∀ v σ H Q, t' v σ H Q → t v σ H Q) : PG X tg t' := ⟨fun pins s σ H v u Q I r q => h.run pins s σ H v u Q I r (m _ _ _ _ q)⟩
theorem PGs.imp {X : Cx} {tg : List Expr} {t t' : TGs} (h : PGs X tg t) (m : ∀ v σ H Q, t' v σ H Q → t v σ H Q) : PGs X tg t' := ⟨fun pins s σ H v u Q I r q => h.run pins s σ H v u Q I r (m _ _ _ _ q)⟩
section
variable {X : Cx} {pos : Pos}
def dgName (i : Nat) : DG := fun d ρ μ k => k (ρ.set i (some d)) μ
theorem pdg_name (i : Nat) {x : Str} (hN : X.N.Nodup) (hi : X.N[i]? = some x := by rfl) (hx : Loc X.env.scope x := by first | exact Or.inl rfl | exact Or.inr rfl) (hf : X.fn x = true ∨ X.env.scope.names.lookup x = some .local := by first | exact .inl rfl | exact .inr rfl | assumption) :
    PDG X (.Name x pos) (dgName i) [i] :=
  PG.imp (pg_name (i := i) hN hi hx hf) fun v σ H Q ⟨F, ρ, μ, d, kk, R, E, Dx, h, C⟩ => C _ _ F _ _ h .refl R (E.set i Dx) ⟨by rw [List.length_set], fun j n => by
    have hj : i ≠ j := fun e => n (by simp [e])
    rw [List.getElem?_set_ne hj]⟩
def dgNil : DGs := fun ds ρ μ k => match ds with
  | [] => k ρ μ
  | _ => False
def dgCons (g : DG) (gs : DGs) : DGs := fun ds ρ μ k => match ds with
  | d :: r => g d ρ μ fun ρ' μ' => gs r ρ' μ' k
  | [] => False
theorem pdgs_nil : PDGs X [] dgNil [] := PGs.imp pgs_nil fun v σ H Q ⟨F, ρ, μ, ds, kk, R, E, Dx, h, C⟩ => by
  cases Dx with
  | nil => exact ⟨rfl, C _ _ F _ _ h .refl R E .refl⟩
  | cons _ _ => exact (show False from h).elim
theorem pdgs_cons {e : Expr} {es : List Expr} {g : DG} {gs : DGs} {vs ws : List Nat} (h1 : PDG X e g vs) (h2 : PDGs X es gs ws)
    (hs : (assignEach (e :: es) X.env).map (·.2) = assign e X.env :: (assignEach es X.env).map (·.2) := by rfl) : PDGs X (e :: es) (dgCons g gs) (vs ++ ws) :=
  PGs.imp (pgs_cons h1 h2 hs) fun v σ H Q ⟨F, ρ, μ, ds, kk, R, E, Dx, h, C⟩ => by
    cases Dx with
    | nil => exact (show False from h).elim
    | cons d1 d2 =>
      exact ⟨_, _, rfl, F, ρ, μ, _, _, R, E, d1, h, fun ρ1 μ1 F1 σ1 H1 h1 s1 R1 E1 o1 => ⟨F1, ρ1, μ1, _, _, R1, E1, d2.ext s1, h1, fun ρ2 μ2 F2 σ2 H2 h2 s2 R2 E2 o2 =>
        C _ _ F2 _ _ h2 (s1.trans s2) R2 E2 ((o1.mono fun i z => List.mem_append_left _ z).trans (o2.mono fun i z => List.mem_append_right _ z))⟩⟩
def dgTup (n : Nat) (gs : DGs) : DG := fun d ρ μ k => match d with
  | .tup ds => ds.length = n ∧ gs ds ρ μ k
  | _ => False
theorem pdg_tup {es : List Expr} {j : Nat} {gs : DGs} {n : Nat} {vs : List Nat} (hc : X.calm = true) (h : PDGs X es gs vs)
    (hn : (assignEach es X.env).length = n := by rfl) (hst : (assignEach es X.env).findIdx? (·.1) = none := by rfl) : PDG X (.Tuple es j pos) (dgTup n gs) vs :=
  PG.imp (pg_tup hc h hn hst) fun v σ H Q ⟨F, ρ, μ, d, kk, R, E, Dx, h, C⟩ => by
    cases d with
    | tup ds =>
      obtain ⟨hl, h⟩ := h
      cases Dx with
      | tup hs hd => exact ⟨_, _, rfl, seqT_mono R.same hs, by rw [hd.length]; exact hl, F, ρ, μ, ds, kk, R, E, hd, h, C⟩
    | _ => exact (show False from h).elim
/-- o[i] = v, o a mutable list -/
def rdSet (o i v : D) (μ : Mu) (k : Mu → Prop) : Prop := match i with
  | .int n => onL o μ fun a xs => ∃ j, ixN xs.length n = some j ∧ k (mset μ a (.lst (xs.set j v)))
  | _ => False
def dgSub (da db : DE) : DG := fun v ρ μ k => da ρ μ fun o μ1 => db ρ μ1 fun i μ2 => rdSet o i v μ2 fun μ3 => k ρ μ3
theorem pdg_sub {o i : Expr} {da db : DE} (ho : PD X o da) (hi : PD X i db)
    (ha : ∀ v, assign (.Subscript o i pos) X.env v = (do
      let ov ← holding [v] (eval o X.env)
      let iv ← holding [v, ov] (eval i X.env)
      standAt pos
      holding [v, ov, iv] (setItem ov iv v)
      release [v, ov, iv] []) := by intro _; rfl) : PDG X (.Subscript o i pos) (dgSub da db) [] :=
  PG.imp (pg_sub ho hi set_list ha) fun v σ H Q ⟨F, ρ, μ, d, kk, R, E, Dx, h, C⟩ => ⟨F, ρ, μ, _, R, E, h, fun od μ1 F1 ov H1 h1 s1 R1 D1 => ⟨F1, ρ, μ1, _, R1, E.ext s1, h1, fun id μ2 F2 iv H2 h2 s2 R2 D2 => by
    cases id with
    | int n =>
      cases D2
      obtain ⟨a, ys, vs, rfl, e1, nn, e2, r, j, hj, h⟩ := onL_ok R2 (D1.ext s2) h2
      have s12 := s1.trans s2
      exact ⟨a, vs, n, j, rfl, rfl, e2, by rw [r.length]; exact hj, C _ _ F2 _ _ h (s12.trans (.put e1)) (R2.store nn ⟨_, upd_same, (r.set (Dx.ext s12) j)⟩ (.put e1)) (E.ext s12) .refl⟩
    | _ => exact (show False from h2).elim⟩⟩
end

/-! ### statements -/
section
variable {X : Cx} {st : Stmt} {rest : List Stmt} {pos : Pos} {e : Expr} {da : DE} {t u : DS}
def dNext : DS := fun D ρ μ => D.nx ρ μ
def dSeq (t u : DS) : DS := fun D ρ μ => t { D with nx := u D } ρ μ
theorem pdss_nil : PDSs X [] dNext := PSs.imp pss_nil fun E σ H ⟨F, ρ, μ, d, R, En, h, C⟩ => C.nx _ _ F _ _ h .refl R En
theorem pdss_cons (h1 : PDS X st t) (h2 : PDSs X rest u) : PDSs X (st :: rest) (dSeq t u) :=
  PSs.imp (pss_cons h1 h2) fun E σ H ⟨F, ρ, μ, d, R, En, h, C⟩ => ⟨F, ρ, μ, _, R, En, h,
    ⟨fun ρ1 μ1 F1 σ1 H1 h1 s1 R1 E1 => ⟨F1, ρ1, μ1, d, R1, E1, h1, C.mono s1⟩, C.rt, C.bk, C.ct⟩⟩
theorem pdss_one (h1 : PDS X st t) : PDSs X [st] t := pss_one h1
theorem pds_pass : PDS X (.Pass pos) dNext := PS.imp ps_pass fun E σ H ⟨F, ρ, μ, d, R, En, h, C⟩ => C.nx _ _ F _ _ h .refl R En
def dBreak : DS := fun D ρ μ => D.bk ρ μ
def dCont : DS := fun D ρ μ => D.ct ρ μ
theorem pds_break : PDS X (.Break pos) dBreak := PS.imp ps_break fun E σ H ⟨F, ρ, μ, d, R, En, h, C⟩ => C.bk _ _ F _ _ h .refl R En
theorem pds_continue : PDS X (.Continue pos) dCont := PS.imp ps_continue fun E σ H ⟨F, ρ, μ, d, R, En, h, C⟩ => C.ct _ _ F _ _ h .refl R En
def dDrop (da : DE) : DS := fun D ρ μ => da ρ μ fun _ μ1 => D.nx ρ μ1
theorem pds_expr (he : PD X e da) (hs : swapsWith e none pos.line X.env = pure false := by rfl) : PDS X (.Expr e pos) (dDrop da) :=
  PS.imp (ps_expr he hs) fun E σ H ⟨F, ρ, μ, d, R, En, h, C⟩ => ⟨F, ρ, μ, _, R, En, h, fun x μ1 F1 v H1 h1 s1 R1 D1 => C.nx _ _ F1 _ _ h1 s1 R1 (En.ext s1)⟩
def dRet (da : DE) : DS := fun D ρ μ => da ρ μ D.rt
theorem pds_ret (he : PD X e da) : PDS X (.Return (some e) pos) (dRet da) :=
  PS.imp (ps_ret he) fun E σ H ⟨F, ρ, μ, d, R, En, h, C⟩ => ⟨F, ρ, μ, _, R, En, h, C.rt⟩
def dRetN : DS := fun D _ μ => D.rt .non μ
theorem pds_retN : PDS X (.Return none pos) dRetN := PS.imp ps_retN fun E σ H ⟨F, ρ, μ, d, R, En, h, C⟩ => C.rt _ _ F _ _ h .refl R .non
def dIfS (c : DT) (t u : DS) : DS := fun D ρ μ => c ρ μ fun b μ1 => if b = true then t D ρ μ1 else u D ρ μ1
theorem pds_if {c : Expr} {a b : List Stmt} {dc : DT} (hc : PDT X c dc) (ha : PDSs X a t) (hb : PDSs X b u) : PDS X (.If c a b pos) (dIfS dc t u) :=
  PS.imp (ps_if hc ha hb) fun E σ H ⟨F, ρ, μ, d, R, En, h, C⟩ => ⟨F, ρ, μ, _, R, En, h, fun b μ1 F1 H1 h1 s1 R1 => by
    cases b with
    | true =>
      rw [if_pos rfl] at h1 ⊢
      exact ⟨F1, ρ, μ1, d, R1, En.ext s1, h1, C.mono s1⟩
    | false =>
      rw [if_neg Bool.false_ne_true] at h1 ⊢
      exact ⟨F1, ρ, μ1, d, R1, En.ext s1, h1, C.mono s1⟩⟩
def dAsg (da : DE) (g : DG) : DS := fun D ρ μ => da ρ μ fun d μ1 => g d ρ μ1 D.nx
theorem asg_ref {K : PySem.W.Frag} {g : DG} {vs : List Nat} : ∀ E σ H, upS K (dAsg da g) E σ H → tAsg (up K da) (upG K g vs) E σ H :=
  fun E σ H ⟨F, ρ, μ, d, R, En, h, C⟩ => ⟨F, ρ, μ, _, R, En, h, fun x μ1 F1 v H1 h1 s1 R1 D1 => ⟨F1, ρ, μ1, x, _, R1, En.ext s1, D1, h1, fun ρ2 μ2 F2 σ2 H2 h2 s2 R2 E2 _ => C.nx _ _ F2 _ _ h2 (s1.trans s2) R2 E2⟩⟩
theorem pds_asg {tg : Expr} {g : DG} {vs : List Nat} (he : PD X e da) (hg : PDG X tg g vs) (hs : swapsWithSole [tg] e pos.line X.env = pure false := by rfl) (hw : swappedStores [tg] e X.env = pure none := by rfl)
    (h1 : (assignEach [tg] X.env).map (·.2) = [assign tg X.env] := by rfl) : PDS X (.Assign [tg] e pos) (dAsg da g) := PS.imp (ps_asg he hg hs hw h1) asg_ref
def dSet (i : Nat) (da : DE) : DS := fun D ρ μ => da ρ μ fun d μ1 => D.nx (ρ.set i (some d)) μ1
theorem pds_set (i : Nat) {x : Str} {pos' : Pos} (hN : X.N.Nodup) (he : PD X e da) (hi : X.N[i]? = some x := by rfl) (hx : Loc X.env.scope x := by first | exact Or.inl rfl | exact Or.inr rfl) (hs : swapsWith e (some (.Name x pos')) pos.line X.env = pure false := by rfl)
    (hf : X.fn x = true ∨ X.env.scope.names.lookup x = some .local := by first | exact .inl rfl | exact .inr rfl | assumption) : PDS X (.Assign [.Name x pos'] e pos) (dSet i da) :=
  PS.imp (ps_set (i := i) hN hi hx he hs hf) fun E σ H ⟨F, ρ, μ, d, R, En, h, C⟩ => ⟨F, ρ, μ, _, R, En, h, fun x μ1 F1 v H1 h1 s1 R1 D1 => C.nx _ _ F1 _ _ h1 s1 R1 ((En.ext s1).set i D1)⟩
def dPar (i j : Nat) (da : DA) : DS := fun D ρ μ => da ρ μ fun ds μ1 => match ds with
  | [d, e] => D.nx ((ρ.set i (some d)).set j (some e)) μ1
  | _ => False
theorem pds_par (i j : Nat) {x y : Str} {a b : Expr} {dr : DA} {px py pt : Pos} {kt k2 pt2} (hc : X.calm = true) (hN : X.N.Nodup) (ha : PDA X [a, b] dr) (hi : X.N[i]? = some x := by rfl) (hj : X.N[j]? = some y := by rfl) (hij : i ≠ j := by decide)
    (hx : X.env.scope.names.lookup x = some .local := by rfl) (hy : X.env.scope.names.lookup y = some .local := by rfl) (hw : swappedStores [.Tuple [.Name x px, .Name y py] kt pt] (.Tuple [a, b] k2 pt2) X.env = pure (some [x, y]) := by rfl)
    (hs : swapsWithSole [.Tuple [.Name x px, .Name y py] kt pt] (.Tuple [a, b] k2 pt2) pos.line X.env = pure false := by rfl) :
    PDS X (.Assign [.Tuple [.Name x px, .Name y py] kt pt] (.Tuple [a, b] k2 pt2) pos) (dPar i j dr) :=
  PS.imp (ps_par (i := i) (j := j) hc hN hi hj hij hx hy ha hw hs) fun E σ H ⟨F, ρ, μ, d, R, En, h, C⟩ => ⟨F, ρ, μ, _, R, En, h, fun ds μ1 F1 vs H1 h1 s1 R1 D1 => by
    split at h1
    · cases D1 with
      | cons q1 q2 => cases q2 with
        | cons q2 q3 => cases q3; exact ⟨_, _, rfl, C.nx _ _ F1 _ _ h1 s1 R1 (((En.ext s1).set i q1).set j q2)⟩
    · exact h1.elim⟩
def rdAug (op : Operator) : D2 := fun d e μ k => match op with
  | .Add => rdI0 (fun i j => .int (i + j)) d e μ k
  | .Sub => rdI0 (fun i j => .int (i - j)) d e μ k
  | _ => False
def dAug (op : Operator) (i : Nat) (da : DE) : DS := fun D ρ μ => match ρ[i]? with
  | some (some d) => da ρ μ fun e μ1 => rdAug op d e μ1 fun z μ2 => D.nx (ρ.set i (some z)) μ2
  | _ => False
theorem pds_aug {op : Operator} (i : Nat) {x : Str} {pos' : Pos} (hN : X.N.Nodup) (he : PD X e da) (hi : X.N[i]? = some x := by rfl) (hx : Loc X.env.scope x := by first | exact Or.inl rfl | exact Or.inr rfl)
    (hf : X.fn x = true ∨ X.env.scope.names.lookup x = some .local := by first | exact .inl rfl | exact .inr rfl | assumption) (ho : op = .Add ∨ op = .Sub := by first | exact .inl rfl | exact .inr rfl) : PDS X (.AugAssign (.Name x pos') op e pos) (dAug op i da) := by
  have core : ∀ (f : Int → Int → Int), ∀ E σ H, upS X.K (fun D ρ μ => match ρ[i]? with
      | some (some d) => da ρ μ fun e μ1 => rdI0 (fun i j => .int (f i j)) d e μ1 fun z μ2 => D.nx (ρ.set i (some z)) μ2
      | _ => False) E σ H → tAug i (up X.K da) (ipI f) E σ H := fun f E σ H ⟨F, ρ, μ, d, R, En, h, C⟩ => by
    dsimp only at h
    split at h
    · rename_i d0 q
      obtain ⟨v, hv, dv⟩ := EnvD.get (i := i) En q
      refine ⟨v, hv, F, ρ, μ, _, R, En, h, fun z μ1 F1 w H1 h1 s1 R1 D1 => ?_⟩
      unfold rdI0 at h1
      split at h1
      · cases dv
        cases D1
        exact ⟨_, _, rfl, rfl, C.nx _ _ F1 _ _ h1 s1 R1 ((En.ext s1).set i (.int _))⟩
      · exact h1.elim
    · exact h.elim
  rcases ho with rfl | rfl
  · exact PS.imp (ps_aug (i := i) hN hi hx he ip_add hf) fun E σ H h => core (fun i j => i + j) E σ H h
  · exact PS.imp (ps_aug (i := i) hN hi hx he ip_sub hf) fun E σ H h => core (fun i j => i - j) E σ H h
/-- while: an invariant with its measure -/
def dWhile (c : DT) (tb : DS) : DS := fun D ρ μ => ∃ W : Nat → Env → Mu → Prop, (∃ m, W m ρ μ) ∧ ∀ m ρ μ, W m ρ μ →
  c ρ μ fun b μ1 => if b = true then tb { D with nx := fun ρ' μ' => ∃ m', m' < m ∧ W m' ρ' μ', ct := fun ρ' μ' => ∃ m', m' < m ∧ W m' ρ' μ', bk := D.nx } ρ μ1 else D.nx ρ μ1
theorem pds_while {c : Expr} {body : List Stmt} {dc : DT} {tb : DS} (hp : PassesOwn (model X.prog X.w) X.A X.env X.xe) (hc : PDT X c dc) (hb : PDSs X body tb) : PDS X (.While c body [] pos) (dWhile dc tb) :=
  PS.imp (ps_while hp hc hb) fun E σ H ⟨F, ρ, μ, d, R, En, ⟨W, ⟨m0, w0⟩, turn⟩, C⟩ => by
    refine ⟨fun m σ H' => ∃ F' ρ μ', Ext F H μ F' H' μ' ∧ RepM X.K F' H' μ' ∧ EnvD X.K F' σ ρ ∧ W m ρ μ', ⟨m0, F, ρ, μ, .refl, R, En, w0⟩, ?_⟩
    rintro m σ1 H1 ⟨F1, ρ1, μ1, s1, R1, E1, w1⟩
    refine ⟨F1, ρ1, μ1, _, R1, E1, turn m ρ1 μ1 w1, fun b μ2 F2 H2 h2 s2 R2 => ?_⟩
    have s12 := s1.trans s2
    cases b with
    | true =>
      rw [if_pos rfl] at h2
      refine iteT ?_
      refine ⟨fun σ' H' => ∃ m', m' < m ∧ ∃ F' ρ μ', Ext F H μ F' H' μ' ∧ RepM X.K F' H' μ' ∧ EnvD X.K F' σ' ρ ∧ W m' ρ μ', fun σ' H' h => h, F2, ρ1, μ2, _, R2, E1.ext s2, h2, ⟨?_, C.rt.mono s12, ?_, ?_⟩⟩
      · rintro ρ3 μ3 F3 σ3 H3 ⟨m', l, w3⟩ s3 R3 E3
        exact ⟨m', l, F3, ρ3, μ3, s12.trans s3, R3, E3, w3⟩
      · intro ρ3 μ3 F3 σ3 H3 h3 s3 R3 E3
        exact C.nx _ _ F3 _ _ h3 (s12.trans s3) R3 E3
      · rintro ρ3 μ3 F3 σ3 H3 ⟨m', l, w3⟩ s3 R3 E3
        exact ⟨m', l, F3, ρ3, μ3, s12.trans s3, R3, E3, w3⟩
    | false =>
      rw [if_neg Bool.false_ne_true] at h2
      refine iteF ?_
      exact C.nx _ _ F2 _ _ h2 s12 R2 (E1.ext s2)
end

/-! ### what is walked -/
abbrev DI := Env → Mu → (List D → (Mu → Prop) → Mu → Prop) → Prop
/-- the iterator J yields just xs, as long as keep holds -/
def ItOk (K : PySem.W.Frag) (F : Hp) (J : It) (xs : List D) (keep : Mu → Prop) : Prop := ∀ F1 H1 μ1, Same F F1 → RepM K F1 H1 μ1 → keep μ1 →
  (∀ i, i < xs.length → J.go i H1 ∧ ∀ x H2, J.yld i H1 x H2 → ∃ F2, Ext F1 H1 μ1 F2 H2 μ1 ∧ RepM K F2 H2 μ1 ∧ ∃ d, xs[i]? = some d ∧ Den K F2 x d) ∧ J.stop xs.length H1
def upI (K : PySem.W.Frag) (di : DI) : TI := fun σ H R => ∃ F ρ μ kk, RepM K F H μ ∧ EnvD K F σ ρ ∧ di ρ μ kk ∧
  ∀ xs keep μ' F' H' J, kk xs keep μ' → Ext F H μ F' H' μ' → RepM K F' H' μ' → ItOk K F' J xs keep → R J H'
def PDI (X : Cx) (tg iter : Expr) (di : DI) : Prop := PI X tg iter (upI X.K di)
theorem PI.imp {X : Cx} {tg iter : Expr} {t t' : TI} (h : PI X tg iter t) (m : ∀ σ H Q, t' σ H Q → t σ H Q) : PI X tg iter t' := ⟨fun pins s σ H R I q => h.run pins s σ H R I (m _ _ _ q)⟩
/-- a list or a tuple, whichever -/
def iSeq (K : PySem.W.Frag) (tl : TE) : TI := fun σ H R => tl σ H fun x H1 => ∃ a, x = .ref a ∧ ((∃ xs, SqL K H1 a xs ∧ R (Itl K a) H1) ∨ (∃ xs, SqT K H1 a xs ∧ R (Itt K a) H1))
theorem pi_seq {X : Cx} {tg l : Expr} {tl : TE} (hl : PE X l tl) : PI X tg l (iSeq X.K tl) :=
  ⟨fun pins s σ H R I h => thn (hl.run pins s σ H _ I h) fun v s' ⟨x, H', J, r, a, ex, q⟩ => by
    subst ex
    obtain rfl : v = Value.ref a := r
    rcases q with ⟨xs, hq, q⟩ | ⟨xs, hq, q⟩
    · obtain ⟨its, _, pl, _⟩ := J.list hq
      exact wpAny_pyIter_list pl.isList (pi_one (tk := s'.toks) J _ (turn_list a _) ⟨_, Heap.get?_push_size _ rfl, rfl, rfl⟩ q)
    · obtain ⟨its, _, pl, _⟩ := J.tuple hq
      exact wpAny_pyIter_tuple pl (pi_one (tk := s'.toks) J _ (turn_tuple a _) ⟨_, Heap.get?_push_size _ rfl, rfl, rfl⟩ q)⟩
end DL
/-! DLe: iterators, for, comprehensions, defs and their calls. -/
namespace DL
open PySem PySem.Spec L2
open PyProof.Rows hiding St
variable [anc : Anc]

section
variable {X : Cx} {tg e e2 : Expr} {da db : DE} {dr : DA} {p pos tpos : Pos}
/-- a list or a tuple -/
def diSeq (da : DE) : DI := fun ρ μ kk => da ρ μ fun d μ1 => match d with
  | .tup xs => kk xs (fun _ => True) μ1
  | .lst xs => kk xs (fun _ => True) μ1
  | .scr xs => kk xs (fun _ => True) μ1
  | .ref a => (match μ1 a with
    | some (.lst xs) => kk xs (fun μ => μ a = some (.lst xs)) μ1
    | _ => False)
  | _ => False
theorem it_list {K : PySem.W.Frag} {F H : Hp} {a : Addr} {vs : List V} {xs : List D} {keep : Mu → Prop} (hq : ∀ F1 H1 μ1, Same F F1 → RepM K F1 H1 μ1 → keep μ1 → ∃ vs, SqL K H1 a vs ∧ DenL K F1 vs xs) : ItOk K F (Itl K a) xs keep :=
  fun F1 H1 μ1 s R kp => by
    obtain ⟨vs, h1, h2⟩ := hq F1 H1 μ1 s R kp
    refine ⟨fun i hi => ?_, vs, h1, Nat.le_of_eq h2.length⟩
    have hi' : i < vs.length := by rw [h2.length]; exact hi
    refine ⟨⟨vs, vs[i], h1, by simp [hi']⟩, fun x H2 hy => ?_⟩
    obtain ⟨rfl, q⟩ := hy
    obtain ⟨d, hd, dn⟩ := h2.get (q vs h1)
    exact ⟨F1, .refl, R, d, hd, dn⟩
theorem it_tup {K : PySem.W.Frag} {F H : Hp} {a : Addr} {xs : List D} {keep : Mu → Prop} (hq : ∀ F1 H1 μ1, Same F F1 → RepM K F1 H1 μ1 → keep μ1 → ∃ vs, SqT K H1 a vs ∧ DenL K F1 vs xs) : ItOk K F (Itt K a) xs keep :=
  fun F1 H1 μ1 s R kp => by
    obtain ⟨vs, h1, h2⟩ := hq F1 H1 μ1 s R kp
    refine ⟨fun i hi => ?_, vs, h1, Nat.le_of_eq h2.length⟩
    have hi' : i < vs.length := by rw [h2.length]; exact hi
    refine ⟨⟨vs, vs[i], h1, by simp [hi']⟩, fun x H2 hy => ?_⟩
    obtain ⟨rfl, q⟩ := hy
    obtain ⟨d, hd, dn⟩ := h2.get (q vs h1)
    exact ⟨F1, .refl, R, d, hd, dn⟩
theorem pdi_seq (ha : PD X e da) : PDI X tg e (diSeq da) :=
  PI.imp (pi_seq ha) fun σ H RR ⟨F, ρ, μ, kk, R, E, h, C⟩ => ⟨F, ρ, μ, _, R, E, h, fun d μ1 F1 v H1 h1 s1 R1 D1 => by
    cases d with
    | tup xs =>
      cases D1 with
      | tup hs hd =>
        refine ⟨_, rfl, .inr ⟨_, seqT_mono R1.same hs, C xs _ μ1 F1 H1 _ h1 s1 R1 (it_tup (H := H1) fun F2 H2 μ2 s2 R2 _ => ⟨_, seqT_mono R2.same (seqT_mono s2 hs), hd.mono s2⟩)⟩⟩
    | lst xs =>
      cases D1 with
      | lst hs hd =>
        refine ⟨_, rfl, .inl ⟨_, .inl (.inl (R1.same _ _ hs)), C xs _ μ1 F1 H1 _ h1 s1 R1 (it_list (H := H1) (vs := []) fun F2 H2 μ2 s2 R2 _ => ⟨_, .inl (.inl (R2.same _ _ (s2 _ _ hs))), hd.mono s2⟩)⟩⟩
    | scr xs =>
      cases D1 with
      | scr hs hd =>
        refine ⟨_, rfl, .inl ⟨_, R1.same.seq hs, C xs _ μ1 F1 H1 _ h1 s1 R1 (it_list (H := H1) (vs := []) fun F2 H2 μ2 s2 R2 _ => ⟨_, R2.same.seq (s2.seq hs), hd.mono s2⟩)⟩⟩
    | ref a =>
      cases D1
      dsimp only at h1
      split at h1
      · rename_i xs q
        obtain ⟨n, vs, hs, hd⟩ := R1.mu a _ q
        refine ⟨_, rfl, .inl ⟨_, .inl (.inl hs), C xs _ μ1 F1 H1 _ h1 s1 R1 (it_list (H := H1) (vs := []) fun F2 H2 μ2 s2 R2 kp => ?_)⟩⟩
        obtain ⟨n, vs, hs, hd⟩ := R2.mu a _ kp
        exact ⟨vs, .inl (.inl hs), hd⟩
      · exact h1.elim
    | _ => exact (show False from h1).elim⟩
/-- ranges -/
def upto (lo : Int) (n : Nat) : List D := (List.range n).map fun (i : Nat) => D.int (lo + i)
theorem upto_get {lo : Int} {n i : Nat} (h : i < n) : (upto lo n)[i]? = some (.int (lo + i)) := by
  unfold upto
  rw [List.getElem?_map, List.getElem?_range h]; rfl
theorem upto_length {lo : Int} {n : Nat} : (upto lo n).length = n := by unfold upto; rw [List.length_map, List.length_range]
def R62 (i : Int) : Prop := -(2 ^ 62) ≤ i ∧ i < 2 ^ 62
def diRng1 (dr : DA) : DI := fun ρ μ kk => dr ρ μ fun ds μ1 => match ds with
  | [.int j] => R62 j ∧ kk (upto 0 j.toNat) (fun _ => True) μ1
  | _ => False
def diRng2 (dr : DA) : DI := fun ρ μ kk => dr ρ μ fun ds μ1 => match ds with
  | [.int i, .int j] => R62 i ∧ R62 j ∧ kk (upto i (j - i).toNat) (fun _ => True) μ1
  | _ => False
theorem it_rng {K : PySem.W.Frag} {F : Hp} {lo : Int} {n : Nat} {keep : Mu → Prop} : ItOk K F (Itr lo n) (upto lo n) keep := fun F1 H1 μ1 s R kp => by
  rw [upto_length]
  refine ⟨fun i hi => ⟨hi, fun x H2 hy => ?_⟩, Nat.le_refl _⟩
  obtain ⟨rfl, rfl⟩ := hy
  exact ⟨F1, .refl, R, _, upto_get hi, .int _⟩
theorem pdi_range1 {a : Expr} (hg : Gl X "range") (hm : X.mg "range" = none) (ha : PDA X [a] dr) (hs : starEach [a] X.env = [(false, eval a X.env)] := by rfl) : PDI X tg (.Call (.Name "range" p) [a] [] pos) (diRng1 dr) :=
  PI.imp (pi_range1 hg hm ha hs) fun σ H RR ⟨F, ρ, μ, kk, R, E, h, C⟩ => ⟨F, ρ, μ, _, R, E, h, fun ds μ1 F1 vs H1 h1 s1 R1 D1 => by
    split at h1
    · rename_i j
      cases D1 with
      | cons q1 q2 => cases q1; cases q2; exact ⟨j, rfl, h1.1.1, h1.1.2, C _ _ μ1 F1 H1 _ h1.2 s1 R1 it_rng⟩
    · exact h1.elim⟩
theorem pdi_range2 {a b : Expr} (hg : Gl X "range") (hm : X.mg "range" = none) (ha : PDA X [a, b] dr) (hs : starEach [a, b] X.env = [(false, eval a X.env), (false, eval b X.env)] := by rfl) (hs2 : starEach [b] X.env = [(false, eval b X.env)] := by rfl) :
    PDI X tg (.Call (.Name "range" p) [a, b] [] pos) (diRng2 dr) :=
  PI.imp (pi_range2 hg hm ha hs hs2) fun σ H RR ⟨F, ρ, μ, kk, R, E, h, C⟩ => ⟨F, ρ, μ, _, R, E, h, fun ds μ1 F1 vs H1 h1 s1 R1 D1 => by
    split at h1
    · rename_i i j
      cases D1 with
      | cons q1 q2 => cases q1; cases q2 with
        | cons q2 q3 => cases q2; cases q3; exact ⟨i, j, rfl, ⟨h1.1.1, h1.1.2, h1.2.1.1, h1.2.1.2⟩, C _ _ μ1 F1 H1 _ h1.2.2 s1 R1 it_rng⟩
    · exact h1.elim⟩
/-- zip, enumerate: pairs -/
def zipD : List D → List D → List D
  | x :: xs, y :: ys => .tup [x, y] :: zipD xs ys
  | _, _ => []
theorem zipD_get : ∀ {xs ys : List D} {i : Nat} {x y : D}, xs[i]? = some x → ys[i]? = some y → (zipD xs ys)[i]? = some (.tup [x, y])
  | [], _, _, _, _, h, _ => by simp at h
  | _ :: _, [], _, _, _, _, h => by simp at h
  | x :: xs, y :: ys, 0, _, _, h, h' => by simp at h h'; subst h h'; rfl
  | x :: xs, y :: ys, i + 1, _, _, h, h' => by
    show (zipD xs ys)[i]? = _
    exact zipD_get (by simpa using h) (by simpa using h')
theorem zipD_length : ∀ xs ys : List D, (zipD xs ys).length = min xs.length ys.length
  | [], ys => by show 0 = min 0 _; omega
  | x :: xs, [] => by show 0 = min _ 0; omega
  | x :: xs, y :: ys => by
    show (zipD xs ys).length + 1 = min (xs.length + 1) (ys.length + 1)
    rw [zipD_length xs ys]; omega
def enumD (n : Nat) : List D → List D
  | [] => []
  | x :: xs => .tup [.int (n : Int), x] :: enumD (n + 1) xs
theorem enumD_get : ∀ {xs : List D} {n i : Nat} {x : D}, xs[i]? = some x → (enumD n xs)[i]? = some (.tup [.int ((n + i : Nat) : Int), x])
  | [], _, _, _, h => by simp at h
  | x :: xs, n, 0, _, h => by simp at h; subst h; rfl
  | x :: xs, n, i + 1, _, h => by
    show (enumD (n + 1) xs)[i]? = _
    rw [enumD_get (xs := xs) (n := n + 1) (i := i) (by simpa using h), show n + 1 + i = n + (i + 1) by omega]
theorem enumD_length : ∀ (xs : List D) (n : Nat), (enumD n xs).length = xs.length
  | [], _ => rfl
  | x :: xs, n => congrArg (· + 1) (enumD_length xs (n + 1))
/-- a list that stands still: what it is, and what is to be kept -/
def still (μ : Mu) (d : D) : Option (List D × (Mu → Prop)) := match d with
  | .lst xs => some (xs, fun _ => True)
  | .scr xs => some (xs, fun _ => True)
  | .ref a => (match μ a with
    | some (.lst xs) => some (xs, fun μ => μ a = some (.lst xs))
    | _ => none)
  | _ => none
theorem still_ok {K : PySem.W.Frag} {F H : Hp} {μ : Mu} {d : D} {v : V} {xs : List D} {keep : Mu → Prop} (R : RepM K F H μ) (h : Den K F v d) (e : still μ d = some (xs, keep)) :
    ∃ a, v = .ref a ∧ (∃ vs, SqL K H a vs ∧ DenL K F vs xs) ∧ ∀ F1 H1 μ1, Same F F1 → RepM K F1 H1 μ1 → keep μ1 → ∃ vs, SqL K H1 a vs ∧ DenL K F1 vs xs := by
  unfold still at e
  split at e
  · cases e
    cases h with
    | lst hs hd => exact ⟨_, rfl, ⟨_, .inl (.inl (R.same _ _ hs)), hd⟩, fun F1 H1 μ1 s R1 _ => ⟨_, .inl (.inl (R1.same _ _ (s _ _ hs))), hd.mono s⟩⟩
  · cases e
    cases h with
    | scr hs hd => exact ⟨_, rfl, ⟨_, R.same.seq hs, hd⟩, fun F1 H1 μ1 s R1 _ => ⟨_, R1.same.seq (s.seq hs), hd.mono s⟩⟩
  · cases h
    split at e
    · rename_i xs q
      cases e
      obtain ⟨n, vs, hs, hd⟩ := R.mu _ _ q
      exact ⟨_, rfl, ⟨vs, .inl (.inl hs), hd⟩, fun F1 H1 μ1 s R1 kp => by
        obtain ⟨n, vs, hs, hd⟩ := R1.mu _ _ kp
        exact ⟨vs, .inl (.inl hs), hd⟩⟩
    · cases e
  · cases e
def diZip (dr : DA) : DI := fun ρ μ kk => dr ρ μ fun ds μ1 => match ds with
  | [.tup xs, .tup ys] => kk (zipD xs ys) (fun _ => True) μ1
  | [d, e] => ∃ p, still μ1 d = some p ∧ ∃ q, still μ1 e = some q ∧ kk (zipD p.1 q.1) (fun μ => p.2 μ ∧ q.2 μ) μ1
  | _ => False
theorem it_zip {K : PySem.W.Frag} {F : Hp} {a b : Addr} {xs ys : List D} {k1 k2 : Mu → Prop} (h1 : ∀ F1 H1 μ1, Same F F1 → RepM K F1 H1 μ1 → k1 μ1 → ∃ vs, SqL K H1 a vs ∧ DenL K F1 vs xs)
    (h2 : ∀ F1 H1 μ1, Same F F1 → RepM K F1 H1 μ1 → k2 μ1 → ∃ vs, SqL K H1 b vs ∧ DenL K F1 vs ys) : ItOk K F (Itz K a b) (zipD xs ys) (fun μ => k1 μ ∧ k2 μ) := fun F1 H1 μ1 s R kp => by
  obtain ⟨vs, q1, d1⟩ := h1 F1 H1 μ1 s R kp.1
  obtain ⟨ws, q2, d2⟩ := h2 F1 H1 μ1 s R kp.2
  rw [zipD_length]
  refine ⟨fun i hi => ?_, vs, ws, q1, q2, ?_⟩
  · have i1 : i < vs.length := by rw [d1.length]; omega
    have i2 : i < ws.length := by rw [d2.length]; omega
    refine ⟨⟨vs, ws, vs[i], ws[i], q1, q2, by simp [i1], by simp [i2]⟩, fun x H2 hy => ?_⟩
    obtain ⟨T, x1, x2, rfl, n, rfl, f1, f2⟩ := hy
    obtain ⟨y1, g1, e1⟩ := d1.get (f1 _ q1)
    obtain ⟨y2, g2, e2⟩ := d2.get (f2 _ q2)
    obtain ⟨sF, R2⟩ := R.frozen n (.tup [x1, x2])
    exact ⟨_, sF, R2, _, zipD_get g1 g2, .tup (.inl (.inl upd_same)) (.cons (e1.ext sF) (.cons (e2.ext sF) .nil))⟩
  · rw [d1.length, d2.length]; omega
theorem it_zipT {K : PySem.W.Frag} {F : Hp} {a b : Addr} {vs ws : List V} {xs ys : List D} (h1 : SqT K F a vs) (d1 : DenL K F vs xs) (h2 : SqT K F b ws) (d2 : DenL K F ws ys) : ItOk K F (RZ.ItzT K a b) (zipD xs ys) (fun _ => True) := fun F1 H1 μ1 s R kp => by
  have q1 := seqT_mono R.same (seqT_mono s h1)
  have q2 := seqT_mono R.same (seqT_mono s h2)
  rw [zipD_length]
  refine ⟨fun i hi => ?_, vs, ws, q1, q2, ?_⟩
  · have i1 : i < vs.length := by rw [d1.length]; omega
    have i2 : i < ws.length := by rw [d2.length]; omega
    refine ⟨⟨vs, ws, vs[i], ws[i], q1, q2, by simp [i1], by simp [i2]⟩, fun x H2 hy => ?_⟩
    obtain ⟨T, x1, x2, rfl, n, rfl, f1, f2⟩ := hy
    obtain ⟨y1, g1, e1⟩ := d1.get (f1 _ q1)
    obtain ⟨y2, g2, e2⟩ := d2.get (f2 _ q2)
    obtain ⟨sF, R2⟩ := R.frozen n (.tup [x1, x2])
    exact ⟨_, sF, R2, _, zipD_get g1 g2, .tup (.inl (.inl upd_same)) (.cons ((e1.mono s).ext sF) (.cons ((e2.mono s).ext sF) .nil))⟩
  · rw [d1.length, d2.length]; omega
theorem pdi_zip {elts : List Expr} {kk : Nat} (hg : Gl X "zip") (hm : X.mg "zip" = none) (ha : PDA X [e, e2] dr)
    (hs : starEach [e, e2] X.env = (false, eval e X.env) :: starEach [e2] X.env := by rfl) (hpl : (backTo pos (starEach [e2] X.env)).any (·.1) = false := by rfl) : PDI X (.Tuple elts kk tpos) (.Call (.Name "zip" p) [e, e2] [] pos) (diZip dr) :=
  PI.imp (RZ.pi_zipA hg hm ha hs hpl) fun σ H RR ⟨F, ρ, μ, kk, R, E, h, C⟩ => ⟨F, ρ, μ, _, R, E, h, fun ds μ1 F1 vs H1 h1 s1 R1 D1 => by
    split at h1
    · cases D1 with
      | cons q1 q2 => cases q1 with
        | tup hs1 hd1 => cases q2 with
          | cons q2 q3 => cases q3; cases q2 with
            | tup hs2 hd2 => exact ⟨_, _, _, _, rfl, .inr ⟨seqT_mono R1.same hs1, seqT_mono R1.same hs2, C _ _ μ1 F1 H1 _ h1 s1 R1 (it_zipT hs1 hd1 hs2 hd2)⟩⟩
    · obtain ⟨⟨xs, k1⟩, e1, ⟨ys, k2⟩, e2, h1⟩ := h1
      cases D1 with
      | cons q1 q2 => cases q2 with
        | cons q2 q3 =>
          cases q3
          obtain ⟨a, rfl, ⟨v1, b1, b2⟩, b3⟩ := still_ok R1 q1 e1
          obtain ⟨b, rfl, ⟨w1, c1, c2⟩, c3⟩ := still_ok R1 q2 e2
          exact ⟨a, b, v1, w1, rfl, .inl ⟨b1, c1, C _ _ μ1 F1 H1 _ h1 s1 R1 (it_zip b3 c3)⟩⟩
    · exact h1.elim⟩
def diEnum (dr : DA) : DI := fun ρ μ kk => dr ρ μ fun ds μ1 => match ds with
  | [d] => ∃ p, still μ1 d = some p ∧ kk (enumD 0 p.1) p.2 μ1
  | _ => False
theorem it_enum {K : PySem.W.Frag} {F : Hp} {a : Addr} {xs : List D} {k1 : Mu → Prop} (h1 : ∀ F1 H1 μ1, Same F F1 → RepM K F1 H1 μ1 → k1 μ1 → ∃ vs, SqL K H1 a vs ∧ DenL K F1 vs xs) : ItOk K F (Ite K a) (enumD 0 xs) k1 := fun F1 H1 μ1 s R kp => by
  obtain ⟨vs, q1, d1⟩ := h1 F1 H1 μ1 s R kp
  rw [enumD_length]
  refine ⟨fun i hi => ?_, vs, q1, Nat.le_of_eq d1.length⟩
  have i1 : i < vs.length := by rw [d1.length]; exact hi
  refine ⟨⟨vs, vs[i], q1, by simp [i1]⟩, fun x H2 hy => ?_⟩
  obtain ⟨T, x1, rfl, n, rfl, f1⟩ := hy
  obtain ⟨y1, g1, e1⟩ := d1.get (f1 _ q1)
  obtain ⟨sF, R2⟩ := R.frozen n (.tup [.int (i : Nat), x1])
  refine ⟨_, sF, R2, _, enumD_get g1, .tup (.inl (.inl upd_same)) (.cons ?_ (.cons (e1.ext sF) .nil))⟩
  rw [Nat.zero_add]
  exact .int _
theorem pdi_enum {elts : List Expr} {kk : Nat} (hg : Gl X "enumerate") (hm : X.mg "enumerate" = none) (ha : PDA X [e] dr) (hs : starEach [e] X.env = [(false, eval e X.env)] := by rfl) : PDI X (.Tuple elts kk tpos) (.Call (.Name "enumerate" p) [e] [] pos) (diEnum dr) :=
  PI.imp (pi_enum hg hm ha hs) fun σ H RR ⟨F, ρ, μ, kk, R, E, h, C⟩ => ⟨F, ρ, μ, _, R, E, h, fun ds μ1 F1 vs H1 h1 s1 R1 D1 => by
    split at h1
    · obtain ⟨⟨xs, k1⟩, e1, h1⟩ := h1
      cases D1 with
      | cons q1 q2 =>
        cases q2
        obtain ⟨a, rfl, ⟨v1, b1, b2⟩, b3⟩ := still_ok R1 q1 e1
        exact ⟨a, v1, rfl, b1, C _ _ μ1 F1 H1 _ h1 s1 R1 (it_enum b3)⟩
    · exact h1.elim⟩

/-! ### for -/
def dForL (keep : Mu → Prop) (g : DG) (tb : DS) (De : DEnds) : List D → Env → Mu → Prop
  | [], ρ, μ => keep μ ∧ De.nx ρ μ
  | x :: xs, ρ, μ => keep μ ∧ g x ρ μ fun ρ' μ' => tb { De with nx := dForL keep g tb De xs, ct := dForL keep g tb De xs, bk := De.nx } ρ' μ'
def dFor (di : DI) (g : DG) (tb : DS) : DS := fun De ρ μ => di ρ μ fun xs keep μ1 => dForL keep g tb De xs ρ μ1
theorem dForL_keep {keep : Mu → Prop} {g : DG} {tb : DS} {De : DEnds} {xs : List D} {ρ : Env} {μ : Mu} (h : dForL keep g tb De xs ρ μ) : keep μ := by
  cases xs with
  | nil => exact h.1
  | cons x xs => exact h.1
theorem pds_for {iter : Expr} {body : List Stmt} {di : DI} {g : DG} {vs : List Nat} {tb : DS} (hp : PassesOwn (model X.prog X.w) X.A X.env X.xe) (hc : X.calm = true) (hi : PDI X tg iter di) (hg : PDG X tg g vs) (hb : PDSs X body tb)
    (hs : ∀ x, foldedSetIterable iter X.env x = pure x := by intro _; rfl) : PDS X (.For tg iter body [] pos) (dFor di g tb) :=
  PS.imp (ps_for hp hc hi hg hb hs) fun D σ H ⟨F, ρ, μ, De, R, E, h, C⟩ => ⟨F, ρ, μ, _, R, E, h, fun xs keep μ1 F1 H1 J h1 s1 R1 hJ => by
    refine ⟨fun i m σ H' => m = xs.length - i ∧ i ≤ xs.length ∧ ∃ F' ρ μ', Ext F1 H1 μ1 F' H' μ' ∧ RepM X.K F' H' μ' ∧ EnvD X.K F' σ ρ ∧ dForL keep g tb De (xs.drop i) ρ μ', ⟨xs.length, by omega, Nat.zero_le _, F1, ρ, μ1, .refl, R1, E.ext s1, by rw [List.drop_zero]; exact h1⟩, ?_⟩
    rintro i m σ2 H2 ⟨rfl, hi, F2, ρ2, μ2, s2, R2, E2, h2⟩
    obtain ⟨q1, q2⟩ := hJ F2 H2 μ2 s2.same R2 (dForL_keep h2)
    have s12 := s1.trans s2
    by_cases hlt : i < xs.length
    · obtain ⟨g1, g2⟩ := q1 i hlt
      rw [List.drop_eq_getElem_cons hlt] at h2
      refine .inr ⟨g1, fun σ' H' => ∃ F' ρ μ', Ext F1 H1 μ1 F' H' μ' ∧ RepM X.K F' H' μ' ∧ EnvD X.K F' σ' ρ ∧ dForL keep g tb De (xs.drop (i + 1)) ρ μ', fun σ' H' z => ⟨xs.length - (i + 1), by omega, rfl, hlt, z⟩, fun x H3 hy => ?_⟩
      obtain ⟨F3, s3, R3, d, hd, dn⟩ := g2 x H3 hy
      have ed : xs[i] = d := by
        rw [List.getElem?_eq_getElem hlt] at hd
        exact Option.some.inj hd
      rw [ed] at h2
      have s123 := s12.trans s3
      refine ⟨F3, ρ2, μ2, d, _, R3, E2.ext s3, dn, h2.2, fun ρ4 μ4 F4 σ4 H4 h4 s4 R4 E4 _ => ⟨F4, ρ4, μ4, _, R4, E4, h4, ⟨?_, C.rt.mono (s123.trans s4), ?_, ?_⟩⟩⟩
      · intro ρ5 μ5 F5 σ5 H5 h5 s5 R5 E5
        exact ⟨F5, ρ5, μ5, ((s2.trans s3).trans s4).trans s5, R5, E5, h5⟩
      · intro ρ5 μ5 F5 σ5 H5 h5 s5 R5 E5
        exact C.nx _ _ F5 _ _ h5 ((s123.trans s4).trans s5) R5 E5
      · intro ρ5 μ5 F5 σ5 H5 h5 s5 R5 E5
        exact ⟨F5, ρ5, μ5, ((s2.trans s3).trans s4).trans s5, R5, E5, h5⟩
    · have e : i = xs.length := by omega
      subst e
      rw [List.drop_length] at h2
      exact .inl ⟨q2, C.nx _ _ F2 _ _ h2.2 s12 R2 E2⟩⟩

/-! ### comprehensions -/
def dYes : DT := fun _ μ k => k true μ
def dLcL (keep : Mu → Prop) (g : DG) (tt : DT) (te : DE) (ρ0 : Env) (fin : List D → Mu → Prop) : List D → List D → Mu → Prop
  | [], acc, μ => keep μ ∧ fin acc μ
  | x :: xs, acc, μ => keep μ ∧ g x ρ0 μ fun ρ1 μ1 => tt ρ1 μ1 fun b μ2 =>
      if b = true then te ρ1 μ2 fun d μ3 => acc.length < sizeLine ∧ dLcL keep g tt te ρ0 fin xs (acc ++ [d]) μ3 else dLcL keep g tt te ρ0 fin xs acc μ2
def dLc (m : Bool) (di : DI) (g : DG) (tt : DT) (te : DE) (vs : List Nat) : DE := fun ρ μ k => di ρ μ fun xs keep μ1 => dLcL keep g tt te (wipeD ρ vs) (fun ds μ2 => mk m ds μ2 k) xs [] μ1
theorem dLcL_keep {keep : Mu → Prop} {g : DG} {tt : DT} {te : DE} {ρ0 : Env} {fin : List D → Mu → Prop} {xs acc : List D} {μ : Mu} (h : dLcL keep g tt te ρ0 fin xs acc μ) : keep μ := by
  cases xs with
  | nil => exact h.1
  | cons x xs => exact h.1
abbrev PDTs (X : Cx) (ifs : List Expr) (dt : DT) : Prop := PTs X ifs (upT X.K dt)
theorem pdts_nil : PDTs X [] dYes := ⟨fun pins s σ H Q I ⟨F, ρ, μ, k, R, E, h, C⟩ => pts_nil.run pins s σ H Q I (C _ _ F _ h .refl R)⟩
theorem pdts_one {c : Expr} {dt : DT} (h : PDT X c dt) : PDTs X [c] dt := pts_one h
theorem lc_ref {K : PySem.W.Frag} {m : Bool} {di : DI} {g : DG} {tt : DT} {te : DE} {vs : List Nat} : ∀ σ H Q, up K (dLc m di g tt te vs) σ H Q → tLc (upI K di) (upG K g vs) (upT K tt) (up K te) vs σ H Q :=
  fun σ H Q ⟨F, ρ, μ, k, R, E, h, C⟩ => ⟨F, ρ, μ, _, R, E, h, fun xs keep μ1 F1 H1 J h1 s1 R1 hJ Dd nD => by
    have h1 : dLcL keep g tt te (wipeD ρ vs) (fun ds μ2 => mk m ds μ2 k) xs [] μ1 := h1
    have nF := R1.freshF nD
    have nM := R1.fresh nD
    refine ⟨fun i m' H' => m' = xs.length - i ∧ i ≤ xs.length ∧ ∃ F' μ' acc vacc, Ext F1 H1 μ1 F' H' μ' ∧ F' Dd = none ∧ μ' Dd = none ∧ RepM K F' H' μ' ∧ H' Dd = some (.lst vacc) ∧ DenL K F' vacc acc ∧ dLcL keep g tt te (wipeD ρ vs) (fun ds μ2 => mk m ds μ2 k) (xs.drop i) acc μ',
      ⟨xs.length, by omega, Nat.zero_le _, F1, μ1, [], [], .drop nD, nF, nM, R1.dropped nD _, upd_same, .nil, by rw [List.drop_zero]; exact h1⟩, ?_⟩
    rintro i m' H2 ⟨rfl, hi, F2, μ2, acc, vacc, s2, nF2, nM2, R2, eD, da, h2⟩
    obtain ⟨q1, q2⟩ := hJ F2 H2 μ2 s2.same R2 (dLcL_keep h2)
    have s12 := s1.trans s2
    have noD : ∀ {F' H' μ'}, Ext F2 H2 μ2 F' H' μ' → F' Dd = none ∧ μ' Dd = none ∧ H' Dd = some (.lst vacc) := fun {F' H' μ'} s =>
      let ⟨z1, z2, z3⟩ := s.fr Dd _ eD nM2
      ⟨z3 nF2, z2, z1⟩
    by_cases hlt : i < xs.length
    · obtain ⟨g1, g2⟩ := q1 i hlt
      rw [List.drop_eq_getElem_cons hlt] at h2
      refine .inr ⟨g1, fun H' => ∃ F' μ' acc vacc, Ext F1 H1 μ1 F' H' μ' ∧ F' Dd = none ∧ μ' Dd = none ∧ RepM K F' H' μ' ∧ H' Dd = some (.lst vacc) ∧ DenL K F' vacc acc ∧ dLcL keep g tt te (wipeD ρ vs) (fun ds μ2 => mk m ds μ2 k) (xs.drop (i + 1)) acc μ', fun H' z => ⟨xs.length - (i + 1), by omega, rfl, hlt, z⟩, fun x H3 hy => ?_⟩
      obtain ⟨F3, s3, R3, d, hd, dn⟩ := g2 x H3 hy
      have ed : xs[i] = d := by
        rw [List.getElem?_eq_getElem hlt] at hd
        exact Option.some.inj hd
      rw [ed] at h2
      refine ⟨F3, wipeD ρ vs, μ2, d, _, R3, (E.ext (s12.trans s3)).wipe vs, dn, h2.2, fun ρ4 μ4 F4 σ4 H4 h4 s4 R4 E4 o4 => ⟨?_, F4, ρ4, μ4, _, R4, E4, h4, fun b μ5 F5 H5 h5 s5 R5 => ?_⟩⟩
      · have o5 := o4.wipe
        rw [← o5]
        exact (wipe_off σ vs).wipe
      · have s35 := (s3.trans s4).trans s5
        cases b with
        | true =>
          rw [if_pos rfl] at h5
          refine iteT ?_
          refine ⟨F5, ρ4, μ5, _, R5, E4.ext s5, h5, fun y μ6 F6 v H6 h6 s6 R6 D6 => ?_⟩
          have s36 := s35.trans s6
          obtain ⟨z1, z2, z3⟩ := noD s36
          obtain ⟨hz, h6⟩ := h6
          have x26 : Ext F1 H1 μ1 F6 (upd H6 Dd (.lst (vacc ++ [v]))) μ6 := by
            have s26 := s2.trans s36
            refine ⟨s26.same, fun b o h h' => ?_⟩
            obtain ⟨x1, x2, x3⟩ := s26.fr b o h h'
            exact ⟨by rw [upd_ne (ne_of_none h nD)]; exact x1, x2, x3⟩
          refine ⟨vacc, z3, by rw [da.length]; exact hz, F6, μ6, acc ++ [y], vacc ++ [v], x26, z1, z2, ?_, upd_same, (da.ext s36).snoc D6, h6⟩
          refine ⟨fun b u e => by rw [upd_ne (ne_of_none e z1)]; exact R6.same b u e, fun b u e => ?_, R1.an.step x26⟩
          obtain ⟨x1, x2⟩ := R6.mu b u e
          exact ⟨x1, x2.at (upd_ne (mu_ne e z2))⟩
        | false =>
          rw [if_neg Bool.false_ne_true] at h5
          refine iteF ?_
          obtain ⟨z1, z2, z3⟩ := noD s35
          exact ⟨F5, μ5, acc, vacc, s2.trans s35, z1, z2, R5, z3, da.ext s35, h5⟩
    · have e : i = xs.length := by omega
      subst e
      rw [List.drop_length] at h2
      have h3 := h2.2
      refine .inl ⟨q2, ?_⟩
      cases m with
      | true =>
        have x2 : Ext F1 H1 μ1 F2 H2 (mset μ2 Dd (.lst acc)) := by
          refine ⟨s2.same, fun b o h h' => ?_⟩
          obtain ⟨x1, x2, x3⟩ := s2.fr b o h h'
          exact ⟨x1, by rw [mset_ne (ne_of_none h nD)]; exact x2, x3⟩
        refine C _ _ F2 _ _ (h3 Dd nM2) (s1.trans x2) ?_ (.ref Dd)
        · refine ⟨R2.same, fun b u z => ?_, R1.an.step x2⟩
          by_cases hb : b = Dd
          · subst hb; rw [mset_same] at z; cases z; exact ⟨nF2, vacc, eD, da⟩
          · rw [mset_ne hb] at z; exact R2.mu b u z
      | false =>
        have sF : Same F2 (upd F2 Dd (.lst vacc)) := fun b u q => by rw [upd_ne (ne_of_none q nF2)]; exact q
        have x2 : Ext F1 H1 μ1 (upd F2 Dd (.lst vacc)) H2 μ2 := by
          refine ⟨s2.same.trans sF, fun b o h h' => ?_⟩
          obtain ⟨x1, x2, x3⟩ := s2.fr b o h h'
          exact ⟨x1, x2, fun z => by rw [upd_ne (ne_of_none h nD)]; exact x3 z⟩
        refine C _ _ (upd F2 Dd (.lst vacc)) _ _ h3 (s1.trans x2) ?_ (.lst upd_same (da.mono sF))
        · refine ⟨fun b u q => ?_, fun b u q => ?_, R1.an.step x2⟩
          · by_cases hb : b = Dd
            · subst hb; rw [upd_same] at q; cases q; exact eD
            · rw [upd_ne hb] at q; exact R2.same b u q
          · obtain ⟨x1, x2⟩ := R2.mu b u q
            have hb : b ≠ Dd := mu_ne q nM2
            exact ⟨by rw [upd_ne hb]; exact x1, x2.monoF sF⟩⟩
theorem pd_lc (m : Bool) {elt iter : Expr} {ifs : List Expr} {scope : Scope} {own : List (Str × Nat)} {di : DI} {g : DG} {tt : DT} {te : DE} {vs : List Nat} (hc : X.calm = true) (hN : X.N.Nodup) (hi : PDI X tg iter di) (ok : BlkOk X.N X.env.scope scope own)
    (hg : ∀ (s : Shared) (H : Hp) (C : Addr) (cl : List (Str × Addr)) (fp : List Addr), PDG (X.blk s H scope (compEnvC scope cl C X.env) fp) tg g vs) (ht : ∀ (s : Shared) (H : Hp) (C : Addr) (cl : List (Str × Addr)) (fp : List Addr), PDTs (X.blk s H scope (compEnvC scope cl C X.env) fp) ifs tt)
    (he : ∀ (s : Shared) (H : Hp) (C : Addr) (cl : List (Str × Addr)) (fp : List Addr), PD (X.blk s H scope (compEnvC scope cl C X.env) fp) elt te) (hv : own.map (·.2) = vs := by rfl) (hs : ∀ x, foldedSetIterable iter X.env x = pure x := by intro _; rfl) :
    PD X (.ListComp elt [⟨tg, iter, ifs, 0⟩] scope pos) (dLc m di g tt te vs) := by
  subst hv
  exact PE.imp (pe_lc (g := upG X.K g (own.map fun (y : Str × Nat) => y.2)) (tt := upT X.K tt) (te := up X.K te) hc hN hi ok hg ht he hs) lc_ref
theorem pds_setLc (m : Bool) (i : Nat) {y : Str} {py : Pos} {elt iter : Expr} {ifs : List Expr} {scope : Scope} {own : List (Str × Nat)} {spos : Pos} {di : DI} {g : DG} {tt : DT} {te : DE} {vs : List Nat} (hc : X.calm = true) (hN : X.N.Nodup) (hi : PDI X tg iter di) (ok : BlkOk X.N X.env.scope scope own)
    (hg : ∀ (s : Shared) (H : Hp) (C : Addr) (cl : List (Str × Addr)) (fp : List Addr), PDG (X.blk s H scope (compEnvC scope cl C X.env) fp) tg g vs) (ht : ∀ (s : Shared) (H : Hp) (C : Addr) (cl : List (Str × Addr)) (fp : List Addr), PDTs (X.blk s H scope (compEnvC scope cl C X.env) fp) ifs tt)
    (he : ∀ (s : Shared) (H : Hp) (C : Addr) (cl : List (Str × Addr)) (fp : List Addr), PD (X.blk s H scope (compEnvC scope cl C X.env) fp) elt te) (hy : X.N[i]? = some y := by rfl) (hyl : X.env.scope.names.lookup y = some .local := by rfl)
    (hsw : swapsWith (.ListComp elt [⟨tg, iter, ifs, 0⟩] scope pos) (some (.Name y py)) spos.line X.env = pure true := by exact sw_true rfl rfl rfl (by decide +kernel)) (hv : own.map (·.2) = vs := by rfl) (hs : ∀ x, foldedSetIterable iter X.env x = pure x := by intro _; rfl) :
    PDS X (.Assign [.Name y py] (.ListComp elt [⟨tg, iter, ifs, 0⟩] scope pos) spos) (dSet i (dLc m di g tt te vs)) := by
  subst hv
  refine PS.imp (ps_setLc (i := i) (g := upG X.K g (own.map fun (y : Str × Nat) => y.2)) (tt := upT X.K tt) (te := up X.K te) hc hN hy hyl hsw hi ok hg ht he hs) fun E σ H ⟨F, ρ, μ, d, R, En, h, C⟩ => ?_
  exact lc_ref σ H _ ⟨F, ρ, μ, _, R, En, h, fun x μ1 F1 v H1 h1 s1 R1 D1 => C.nx _ _ F1 _ _ h1 s1 R1 ((En.ext s1).set i D1)⟩
end
end DL
/-! DLf: defs by contracts over data, their calls. -/
namespace DL
open PySem PySem.Spec L2
open PyProof.Rows hiding St

def Sub (μ' μ : Mu) : Prop := ∀ a o, μ' a = some o → μ a = some o
theorem Sub.refl {μ : Mu} : Sub μ μ := fun _ _ h => h
theorem Sub.new {μ : Mu} {a : Addr} {o : MO} (h : μ a = none) : Sub μ (mset μ a o) := fun b u e => by rw [mset_ne (mu_ne e h)]; exact e
theorem Sub.trans {μ μ' μ'' : Mu} (h : Sub μ μ') (h' : Sub μ' μ'') : Sub μ μ'' := fun a o e => h' a o (h a o e)
theorem Sub.set {μ μ' : Mu} {a : Addr} {o : MO} (h : Sub μ μ') : Sub (mset μ a o) (mset μ' a o) := fun b u e => by
  unfold mset at e ⊢
  split
  · rename_i z; rw [if_pos z] at e; exact e
  · rename_i z; rw [if_neg z] at e; exact h b u e
/-- a def's promise -/
theorem RepM.bare [anc : Anc] {K : PySem.W.Frag} {F H : Hp} {μ : Mu} (R : RepM K F H μ) : @RepM anc0 K F H μ := @RepM.mk anc0 K F H μ R.same R.mu Anc.none_at
theorem RepM.over [anc : Anc] {K : PySem.W.Frag} {F H : Hp} {μ : Mu} (R : @RepM anc0 K F H μ) (h : anc.at F H μ) : RepM K F H μ := ⟨@RepM.same anc0 _ _ _ _ R, @RepM.mu anc0 _ _ _ _ R, h⟩
theorem Cont.bare [anc : Anc] {K : PySem.W.Frag} {F H : Hp} {μ : Mu} {k : KD} {Q : VK} (R : RepM K F H μ) (C : Cont K F H μ k Q) : @Cont anc0 K F H μ k Q := fun d μ' F' v H' hk s R' D' => C d μ' F' v H' hk s (RepM.over R' (R.an.step s)) D'
def liftSp (K : PySem.W.Frag) (n : Nat) (dsp : DCall) : Sp := fun vs H Q _ => ∃ F ds μ k, @RepM anc0 K F H μ ∧ DenL K F vs ds ∧ ds.length = n ∧ dsp ds μ k ∧ @Cont anc0 K F H μ k Q
/-- how a value may be told: as it is, or frozen; some of what is mutable forgotten -/
def wk (k : KD) : KD := fun d μ => (∃ μ', Sub μ' μ ∧ k d μ') ∨ ∃ a xs, d = .ref a ∧ μ a = some (.lst xs) ∧ ∃ μ', Sub μ' (mdel μ a) ∧ k (.lst xs) μ'
theorem wk.id {k : KD} {d : D} {μ : Mu} (h : k d μ) : wk k d μ := .inl ⟨μ, Sub.refl, h⟩
theorem wk.sub {k : KD} {d : D} {μ μ' : Mu} (s : Sub μ' μ) (h : k d μ') : wk k d μ := .inl ⟨μ', s, h⟩
theorem wk.frz {k : KD} {a : Addr} {xs : List D} {μ : Mu} (e : μ a = some (.lst xs)) (h : k (.lst xs) (mdel μ a)) : wk k (.ref a) μ := .inr ⟨a, xs, rfl, e, _, Sub.refl, h⟩
/-- a new list, frozen at the end -/
theorem wk.frzNew {k : KD} {a : Addr} {xs : List D} {μ : Mu} (n : μ a = none) (h : k (.lst xs) μ) : wk k (.ref a) (mset μ a (.lst xs)) := wk.frz mset_same (by rw [mdel_mset n]; exact h)
theorem wk_cont [anc : Anc] {K : PySem.W.Frag} {F H : Hp} {μ : Mu} {k : KD} {Q : VK} (c : Cont K F H μ k Q) : Cont K F H μ (wk k) Q := fun d μ' F' v H' h s R dn => by
  rcases h with ⟨μ2, sb, h⟩ | ⟨a, xs, rfl, e, μ2, sb, h⟩
  · exact c d μ2 F' v H' h (s.trans (.sub sb)) (R.sub sb) dn
  · cases dn
    obtain ⟨F2, s2, R2, dn2⟩ := R.freeze e
    exact c _ μ2 F2 _ H' h ((s.trans s2).trans (.sub sb)) (R2.sub sb) dn2

structure DFn (P : Program) (w : World) (K : PySem.W.Frag) (mg : Str → Option Value) (base : Heap) (x : Str) (k n : Nat) (dsp : DCall) : Prop where
  ex : ∃ f fd ps, ps.length = n ∧ FnOk P w K mg base CX0 k f fd ps (liftSp K n dsp) ∧ mg x = some (.ref f) ∧ PySem.W.keepIn K (.ref f) = true ∧ Binds K fd ps []
section
variable {P : Program} {w : World} {K : PySem.W.Frag} {mg : Str → Option Value} {base : Heap}
theorem DFn.mono {x : Str} {j k n : Nat} {dsp : DCall} (h : DFn P w K mg base x j n dsp) (l : j ≤ k) : DFn P w K mg base x k n dsp := by
  obtain ⟨f, fd, ps, h1, h2, h3⟩ := h.ex
  exact ⟨f, fd, ps, h1, h2.mono l, h3⟩
theorem DFn.imp {x : Str} {k n : Nat} {dsp dsp' : DCall} (h : DFn P w K mg base x k n dsp) (l : ∀ ds μ k, ds.length = n → dsp' ds μ k → dsp ds μ (wk k)) : DFn P w K mg base x k n dsp' := by
  obtain ⟨f, fd, ps, h1, h2, h3⟩ := h.ex
  exact ⟨f, fd, ps, h1, h2.imp fun vs H Q E ⟨F, ds, μ, k, R, Dv, e, q, C⟩ => ⟨F, ds, μ, _, R, Dv, e, l _ _ _ e q, wk_cont C⟩, h3⟩
end
section
variable [anc : Anc]
variable {X : Cx} {x : Str} {p pos : Pos} {e : Expr} {es : List Expr} {da : DA} {k n : Nat} {dsp : DCall}
def dCall (n : Nat) (dsp : DCall) (da : DA) : DE := fun ρ μ k => da ρ μ fun ds μ1 => ds.length = n ∧ dsp ds μ1 k
theorem pd_call (D : DFn X.prog X.w X.K X.mg X.base x k n dsp) (hr : Room k X.A) (hx : Passes CX0 X E0) (ha : PDA X (e :: es) da) (hg : Gl X x := by rfl) (hdb : (x == ("__debug__" : Str)) = false := by decide)
    (he : starEach (e :: es) X.env = (false, eval e X.env) :: starEach es X.env := by rfl) (hpl : (backTo pos (starEach es X.env)).any (·.1) = false := by rfl) : PD X (.Call (.Name x p) (e :: es) [] pos) (dCall n dsp da) := by
  obtain ⟨f, fd, ps, h1, h2, h3, h4, h5⟩ := D.ex
  refine PE.imp (pe_call h2 hr hg h3 h4 h5 .nil hx ha hdb he hpl) fun σ H Q ⟨F, ρ, μ, k, R, E, h, C⟩ => ⟨F, ρ, μ, _, R, E, h, fun ds μ1 F1 vs H1 ⟨h6, h7⟩ s1 R1 D1 => ?_⟩
  show liftSp X.K n dsp (vs ++ []) H1 Q E0
  rw [List.append_nil]
  exact ⟨F1, ds, μ1, k, R1.bare, D1, h6, h7, (C.mono s1).bare R1⟩
theorem pd_call0 (D : DFn X.prog X.w X.K X.mg X.base x k 0 dsp) (hr : Room k X.A) (hx : Passes CX0 X E0) (hg : Gl X x := by rfl) (hdb : (x == ("__debug__" : Str)) = false := by decide) : PD X (.Call (.Name x p) [] [] pos) (dCall 0 dsp dNil) := by
  obtain ⟨f, fd, ps, h1, h2, h3, h4, h5⟩ := D.ex
  refine PE.imp (pe_call0 h2 hr hg h3 h4 h5 .nil hx hdb) fun σ H Q ⟨F, ρ, μ, k, R, E, ⟨h6, h7⟩, C⟩ => ?_
  show liftSp X.K 0 dsp ([] ++ []) H Q E0
  exact ⟨F, [], μ, k, R.bare, .nil, h6, h7, C.bare R⟩
end

/-! ### a def -/
def startD (n : Nat) (ds : List D) : Env := ds.map some ++ List.replicate (n - ds.length) none
theorem env_start {K : PySem.W.Frag} {F : Hp} {N : List Str} : ∀ {vs : List V} {ds : List D}, DenL K F vs ds → EnvD K F (vs.map some) (ds.map some)
  | _, _, .nil => .nil
  | _, _, .cons h t => .cons h (env_start (N := N) t)
theorem env_none {K : PySem.W.Frag} {F : Hp} : ∀ n : Nat, EnvD K F (List.replicate n none) (List.replicate n none)
  | 0 => .nil
  | n + 1 => .cons trivial (env_none n)
theorem paired_append {α β : Type} {G : α → β → Prop} : ∀ {a c : List α} {b d : List β}, Paired G a b → Paired G c d → Paired G (a ++ c) (b ++ d)
  | _, _, _, _, .nil, h => h
  | _, _, _, _, .cons h t, h' => .cons h (paired_append t h')
section
variable {P : Program} {w : World} {K : PySem.W.Frag} {mg : Str → Option Value} {base : Heap}
theorem fnok_of {x : Str} {st : Stmt} {f : Addr} {fd : FuncData} {N ps : List Str} {k : Nat} {dsp : DCall} {d : DS} (F : Fun K x x st f fd) (S : FnScope N ps (defScope st))
    (body : ∀ (cdv : Value) (A : Around) (outer : List PySem.Env) (s : Shared) (H : Hp) (E : XK), Room k (A.deeper (envOfC x (defScope st) s.heap.objs.size f cdv)) →
      PDSs (cxOf CX0 P w K mg base N x (defScope st) f cdv A outer s H E).nox (defBody st) d)
    (spec : ∀ ds μ k, ds.length = ps.length → dsp ds μ k → d { nx := fun _ μ' => wk k .non μ', rt := wk k } (startD N.length ds) μ) : FnOk P w K mg base CX0 (k + 1) f fd ps (liftSp K ps.length dsp) :=
  F.ok S (fun vs H Q E ⟨_, ds, _, _, _, Dv, e, _⟩ => Dv.length.trans e) (fun cdv A outer s H vs Q E hr h => by
    obtain ⟨F0, ds, μ, k0, R, Dv, e, h, C⟩ := h
    refine ⟨_, body cdv A outer s H E hr, F0, startD N.length ds, μ, _, R, ?_, spec ds μ k0 e h, ?_⟩
    · unfold L2.start startD
      rw [Dv.length]
      exact paired_append (env_start (N := N) Dv) (env_none _)
    · have W := wk_cont C
      exact ⟨fun ρ' μ' F' σ' H' h s R' E' => W .non μ' F' .non H' h s R' .non, W, fun _ _ _ _ _ h => h.elim, fun _ _ _ _ _ h => h.elim⟩)
theorem DFn.of {x : Str} {st : Stmt} {f : Addr} {fd : FuncData} {N ps : List Str} {k : Nat} {dsp : DCall} {d : DS} (F : Fun K x x st f fd) (hm : mg x = some (.ref f)) (b : Binds K fd ps []) (S : FnScope N ps (defScope st))
    (body : ∀ (cdv : Value) (A : Around) (outer : List PySem.Env) (s : Shared) (H : Hp) (E : XK), Room k (A.deeper (envOfC x (defScope st) s.heap.objs.size f cdv)) →
      PDSs (cxOf CX0 P w K mg base N x (defScope st) f cdv A outer s H E).nox (defBody st) d)
    (spec : ∀ ds μ k, ds.length = ps.length → dsp ds μ k → d { nx := fun _ μ' => wk k .non μ', rt := wk k } (startD N.length ds) μ) : DFn P w K mg base x (k + 1) ps.length dsp :=
  ⟨f, fd, ps, rfl, fnok_of F S body spec, hm, F.kp, b⟩
/-- a def that calls itself: by a promise for each depth -/
theorem DFn.recur {x : Str} {st : Stmt} {f : Addr} {fd : FuncData} {N ps : List Str} {L : Nat} {spS : Nat → DCall} {d : Nat → DS} (F : Fun K x x st f fd) (hm : mg x = some (.ref f)) (b : Binds K fd ps []) (S : FnScope N ps (defScope st))
    (h0 : ∀ ds μ k, ¬ spS 0 ds μ k)
    (body : ∀ j, DFn P w K mg base x (L + j) ps.length (spS j) → ∀ (cdv : Value) (A : Around) (outer : List PySem.Env) (s : Shared) (H : Hp) (E : XK), Room (L + j) (A.deeper (envOfC x (defScope st) s.heap.objs.size f cdv)) →
      PDSs (cxOf CX0 P w K mg base N x (defScope st) f cdv A outer s H E).nox (defBody st) (d j))
    (spec : ∀ j ds μ k, ds.length = ps.length → spS (j + 1) ds μ k → d j { nx := fun _ μ' => wk k .non μ', rt := wk k } (startD N.length ds) μ) : ∀ j, DFn P w K mg base x (L + j) ps.length (spS j)
  | 0 => ⟨f, fd, ps, rfl, ⟨fun vs H Q E ⟨_, _, _, _, _, _, _, h, _⟩ => (h0 _ _ _ h).elim, fun _ _ _ _ _ _ _ _ _ _ _ _ _ ⟨_, _, _, _, _, _, _, h, _⟩ => (h0 _ _ _ h).elim⟩, hm, F.kp, b⟩
  | j + 1 => DFn.of F hm b S (body j (DFn.recur F hm b S h0 body spec j)) (spec j)
/-- what the law is called with -/
theorem law_sp {H : Hp} {a : Addr} {ns : List Int} {dsp : DCall} {E : XK} (hS : SqL K H a (ns.map V.int)) (h : dsp [.scr (ns.map D.int)] (fun _ => none) (fun d _ => d = .bl true)) :
    liftSp K 1 dsp [.ref a] H (fun v _ => v = .bl true) E :=
  ⟨H, _, fun _ => none, _, ⟨Same.refl H, (fun _ _ e => nomatch e), Anc.none_at⟩, .cons (.scr hS (DenL.ints ns)) .nil, rfl, h, fun d μ F v H' hk _ _ dn => by subst hk; cases dn; rfl⟩
end
end DL
/-! DLg: further rules: list(range(..)), xs[::-1], a, b, c = .. -/
namespace DL
open PySem PySem.Spec L2
open PyProof.Rows hiding St
variable [anc : Anc]
theorem room65 {A : Around} {k : Nat} (hr : Room k A) : A.units + 65 < cLine := by have := hr.un; omega
theorem den_upto {K : PySem.W.Frag} {F : Hp} (a b : Int) : DenL K F (rgV a b) (upto a (b - a).toNat) := by
  unfold rgV upto
  generalize List.range (b - a).toNat = l
  induction l with
  | nil => exact .nil
  | cons x xs ih => exact .cons (.int _) ih
section
variable {X : Cx} {e a b : Expr} {da db : DE} {p p2 pos pos2 : Pos}
def dListRg1 (m : Bool) (da : DE) : DE := fun ρ μ k => da ρ μ fun d μ1 => match d with
  | .int n => RgOk 0 n ∧ mk m (upto 0 n.toNat) μ1 k
  | _ => False
def dListRg2 (m : Bool) (da db : DE) : DE := fun ρ μ k => da ρ μ fun d μ1 => db ρ μ1 fun e μ2 => match d with
  | .int i => (match e with
    | .int j => RgOk i j ∧ mk m (upto i (j - i).toNat) μ2 k
    | _ => False)
  | _ => False
theorem pd_listRg1 (m : Bool) (hc : X.calm = true) (hg : Gl X "list") (hm : X.mg "list" = none) (hg2 : Gl X "range") (hm2 : X.mg "range" = none) (ha : PD X a da) (na : starEach [a] X.env = (false, eval a X.env) :: starEach [] X.env := by rfl)
    (na2 : starEach [.Call (.Name "range" p) [a] [] pos] X.env = (false, eval (.Call (.Name "range" p) [a] [] pos) X.env) :: starEach [] X.env := by rfl) :
    PD X (.Call (.Name "list" p2) [.Call (.Name "range" p) [a] [] pos] [] pos2) (dListRg1 m da) :=
  PE.imp (pe_listRg hc hg hm (prg_1 hg2 hm2 ha na) na2) fun σ H Q ⟨F, ρ, μ, k, R, E, h, C⟩ => ⟨F, ρ, μ, _, R, E, h, fun d μ1 F1 v H1 h1 s1 R1 D1 => by
    cases d with
    | int n =>
      cases D1
      refine ⟨n, rfl, h1.1, fun q nq => ?_⟩
      have h2 := h1.2
      rw [show n.toNat = (n - 0).toNat by rw [Int.sub_zero]] at h2
      exact mk_ok R1 (den_upto 0 n) h2 (C.mono s1) nq
    | _ => exact (show False from h1).elim⟩
theorem pd_listRg2 (m : Bool) (hc : X.calm = true) (hg : Gl X "list") (hm : X.mg "list" = none) (hg2 : Gl X "range") (hm2 : X.mg "range" = none) (ha : PD X a da) (hb : PD X b db) (na : starEach [a, b] X.env = (false, eval a X.env) :: starEach [b] X.env := by rfl)
    (nb : starEach [b] X.env = (false, eval b X.env) :: starEach [] X.env := by rfl) (hp : (backTo pos (starEach [b] X.env)).any (·.1) = false := by rfl)
    (na2 : starEach [.Call (.Name "range" p) [a, b] [] pos] X.env = (false, eval (.Call (.Name "range" p) [a, b] [] pos) X.env) :: starEach [] X.env := by rfl) :
    PD X (.Call (.Name "list" p2) [.Call (.Name "range" p) [a, b] [] pos] [] pos2) (dListRg2 m da db) :=
  PE.imp (pe_listRg hc hg hm (prg_2 hg2 hm2 ha hb na nb hp) na2) fun σ H Q ⟨F, ρ, μ, k, R, E, h, C⟩ => ⟨F, ρ, μ, _, R, E, h, fun d μ1 F1 v H1 h1 s1 R1 D1 => ⟨F1, ρ, μ1, _, R1, E.ext s1, h1, fun e μ2 F2 w H2 h2 s2 R2 D2 => by
    cases d with
    | int i =>
      cases e with
      | int j =>
        cases D1
        cases D2
        exact ⟨i, j, rfl, rfl, h2.1, fun q nq => mk_ok R2 (den_upto i j) h2.2 (C.mono (s1.trans s2)) nq⟩
      | _ => exact (show False from h2).elim
    | _ => exact (show False from h2).elim⟩⟩
/-- xs[::-1] -/
def dRev (m : Bool) (da : DE) : DE := fun ρ μ k => da ρ μ fun d μ1 => ∃ xs, lsR μ1 d = some xs ∧ mk m xs.reverse μ1 k
theorem pd_rev (m : Bool) {k : Nat} {p1 p2 p3 : Pos} (ha : PD X e da) : PD X (.Subscript e (.Slice none none (some (.UnaryOp .USub (.Constant (.int 1) k p1) p2)) p3) pos) (dRev m da) :=
  PE.imp (pe_revL ha) fun σ H Q ⟨F, ρ, μ, k, R, E, h, C⟩ => ⟨F, ρ, μ, _, R, E, h, fun d μ1 F1 v H1 ⟨xs, q, h1⟩ s1 R1 D1 => by
    obtain ⟨p, vs, rfl, hs, hd⟩ := lsR_seq R1 D1 q
    exact ⟨p, vs, rfl, hs, fun p n => mk_ok R1 hd.reverse h1 (C.mono s1) n⟩⟩
def dPar3 (i j l : Nat) (da : DA) : DS := fun D ρ μ => da ρ μ fun ds μ1 => match ds with
  | [d, e, f] => D.nx (((ρ.set i (some d)).set j (some e)).set l (some f)) μ1
  | _ => False
theorem pds_par3 (i j l : Nat) {x y z : Str} {a b c : Expr} {dr : DA} {px py pz pt : Pos} {kt k2 pt2} (hc : X.calm = true) (hN : X.N.Nodup) (ha : PDA X [a, b, c] dr) (hi : X.N[i]? = some x := by rfl) (hj : X.N[j]? = some y := by rfl) (hl : X.N[l]? = some z := by rfl)
    (hij : i ≠ j := by decide) (hil : i ≠ l := by decide) (hjl : j ≠ l := by decide)
    (hx : X.env.scope.names.lookup x = some .local := by rfl) (hy : X.env.scope.names.lookup y = some .local := by rfl) (hz : X.env.scope.names.lookup z = some .local := by rfl)
    (hw : swappedStores [.Tuple [.Name x px, .Name y py, .Name z pz] kt pt] (.Tuple [a, b, c] k2 pt2) X.env = pure (some [x, y, z]) := by rfl)
    (hs : swapsWithSole [.Tuple [.Name x px, .Name y py, .Name z pz] kt pt] (.Tuple [a, b, c] k2 pt2) pos.line X.env = pure false := by rfl) :
    PDS X (.Assign [.Tuple [.Name x px, .Name y py, .Name z pz] kt pt] (.Tuple [a, b, c] k2 pt2) pos) (dPar3 i j l dr) :=
  PS.imp (ps_par3 (i := i) (j := j) (l := l) hc hN hi hj hl hij hil hjl hx hy hz ha hw hs) fun E σ H ⟨F, ρ, μ, d, R, En, h, C⟩ => ⟨F, ρ, μ, _, R, En, h, fun ds μ1 F1 vs H1 h1 s1 R1 D1 => by
    split at h1
    · cases D1 with
      | cons q1 q2 => cases q2 with
        | cons q2 q3 => cases q3 with
          | cons q3 q4 => cases q4; exact ⟨_, _, _, rfl, C.nx _ _ F1 _ _ h1 s1 R1 ((((En.ext s1).set i q1).set j q2).set l q3)⟩
    · exact h1.elim⟩
/-- a ghost step: the list at a name is frozen from here on -/
def dPre (i : Nat) (d : DS) : DS := fun De ρ μ => match ρ[i]? with
  | some (some (.ref a)) => (match μ a with
    | some (.lst xs) => d De (ρ.set i (some (.lst xs))) (mdel μ a)
    | _ => False)
  | _ => False
theorem set_self {α : Type} {l : List α} {i : Nat} {x : α} (h : l[i]? = some x) : l.set i x = l := by
  refine List.ext_getElem? fun j => ?_
  by_cases e : i = j
  · subst e; rw [h]; exact List.getElem?_set_self (List.getElem?_eq_some_iff.mp h).1
  · rw [List.getElem?_set_ne e]
theorem pds_pre (i : Nat) {st : Stmt} {d : DS} (h : PDS X st d) : PDS X st (dPre i d) :=
  PS.imp h fun E σ H ⟨F, ρ, μ, De, R, En, h, C⟩ => by
    unfold dPre at h
    split at h
    · rename_i a q
      split at h
      · rename_i xs q2
        obtain ⟨F', s, R', dn⟩ := R.freeze q2
        obtain ⟨v, hv, dv⟩ := EnvD.get (i := i) En q
        cases dv
        refine ⟨F', _, _, De, R', ?_, h, C.mono s⟩
        have e2 := (En.ext s).set i dn
        rw [set_self hv] at e2
        exact e2
      · exact h.elim
    · exact h.elim
end
end DL
namespace DL
open PySem PySem.Spec L2
theorem bb_len : bootBuiltins "len" = some (.builtin "len") := by decide +kernel
theorem bb_abs : bootBuiltins "abs" = some (.builtin "abs") := by decide +kernel
theorem bb_min : bootBuiltins "min" = some (.builtin "min") := by decide +kernel
theorem bb_max : bootBuiltins "max" = some (.builtin "max") := by decide +kernel
theorem bb_all : bootBuiltins "all" = some (.builtin "all") := by decide +kernel
theorem bb_any : bootBuiltins "any" = some (.builtin "any") := by decide +kernel
theorem bb_sum : bootBuiltins "sum" = some (.builtin "sum") := by decide +kernel
theorem bb_sorted : bootBuiltins "sorted" = some (.builtin "sorted") := by decide +kernel
theorem bb_int : bootBuiltins "int" = some (.type "int") := by decide +kernel
theorem bb_list : bootBuiltins "list" = some (.type "list") := by decide +kernel
theorem bb_tuple : bootBuiltins "tuple" = some (.type "tuple") := by decide +kernel
end DL
/-! DLh: lemmas for proofs over data: tapes, maps. -/
namespace DL
open PySem PySem.Spec L2
open PyProof.Rows hiding St

theorem mset_swap {μ : Mu} {a b : Addr} {x y z : MO} (h : a ≠ b) : mset (mset (mset μ b x) a y) b z = mset (mset μ b z) a y := by
  rw [mset_comm h, mset_mset]
theorem ifc {c A B : Prop} [Decidable c] (h1 : c → A) (h2 : ¬ c → B) : if c then A else B := ite2 h1 h2
theorem atI_0 {α : Type} {x0 : α} {l : List α} : L2.atI (x0 :: l) 0 = some x0 := atI_nat (j := 0) rfl
theorem ixN_0 {n : Nat} : ixN (n + 1) 0 = some 0 := by unfold ixN; rw [if_pos (by decide), if_pos (by omega)]; rfl
theorem atI_1 {α : Type} {x0 x1 : α} {l : List α} : L2.atI (x0 :: x1 :: l) 1 = some x1 := atI_nat (j := 1) rfl
theorem ixN_1 {n : Nat} : ixN (n + 1 + 1) 1 = some 1 := by unfold ixN; rw [if_pos (by decide), if_pos (by omega)]; rfl
theorem atI_2 {α : Type} {x0 x1 x2 : α} {l : List α} : L2.atI (x0 :: x1 :: x2 :: l) 2 = some x2 := atI_nat (j := 2) rfl
theorem ixN_2 {n : Nat} : ixN (n + 1 + 1 + 1) 2 = some 2 := by unfold ixN; rw [if_pos (by decide), if_pos (by omega)]; rfl
theorem atI_3 {α : Type} {x0 x1 x2 x3 : α} {l : List α} : L2.atI (x0 :: x1 :: x2 :: x3 :: l) 3 = some x3 := atI_nat (j := 3) rfl
theorem ixN_3 {n : Nat} : ixN (n + 1 + 1 + 1 + 1) 3 = some 3 := by unfold ixN; rw [if_pos (by decide), if_pos (by omega)]; rfl
theorem atI_4 {α : Type} {x0 x1 x2 x3 x4 : α} {l : List α} : L2.atI (x0 :: x1 :: x2 :: x3 :: x4 :: l) 4 = some x4 := atI_nat (j := 4) rfl
theorem ixN_4 {n : Nat} : ixN (n + 1 + 1 + 1 + 1 + 1) 4 = some 4 := by unfold ixN; rw [if_pos (by decide), if_pos (by omega)]; rfl
theorem atI_5 {α : Type} {x0 x1 x2 x3 x4 x5 : α} {l : List α} : L2.atI (x0 :: x1 :: x2 :: x3 :: x4 :: x5 :: l) 5 = some x5 := atI_nat (j := 5) rfl
theorem ixN_5 {n : Nat} : ixN (n + 1 + 1 + 1 + 1 + 1 + 1) 5 = some 5 := by unfold ixN; rw [if_pos (by decide), if_pos (by omega)]; rfl
theorem atI_6 {α : Type} {x0 x1 x2 x3 x4 x5 x6 : α} {l : List α} : L2.atI (x0 :: x1 :: x2 :: x3 :: x4 :: x5 :: x6 :: l) 6 = some x6 := atI_nat (j := 6) rfl
theorem ixN_6 {n : Nat} : ixN (n + 1 + 1 + 1 + 1 + 1 + 1 + 1) 6 = some 6 := by unfold ixN; rw [if_pos (by decide), if_pos (by omega)]; rfl
theorem atI_7 {α : Type} {x0 x1 x2 x3 x4 x5 x6 x7 : α} {l : List α} : L2.atI (x0 :: x1 :: x2 :: x3 :: x4 :: x5 :: x6 :: x7 :: l) 7 = some x7 := atI_nat (j := 7) rfl
theorem ixN_7 {n : Nat} : ixN (n + 1 + 1 + 1 + 1 + 1 + 1 + 1 + 1) 7 = some 7 := by unfold ixN; rw [if_pos (by decide), if_pos (by omega)]; rfl
theorem atI_neg1 {α : Type} {x : α} : L2.atI [x] (-1) = some x := atI_last [] x
theorem atI_snoc {α : Type} {x : α} {l : List α} : L2.atI (l ++ [x]) (-1) = some x := atI_last l x
theorem atI_of {α : Type} {l : List α} {i : Int} {x : α} (h0 : 0 ≤ i) (h : l[i.toNat]? = some x) : L2.atI l i = some x := by
  have e : i = (i.toNat : Int) := by omega
  rw [e]; exact atI_nat h
theorem ixN_of {n : Nat} {i : Int} (h0 : 0 ≤ i) (h : i < n) : ixN n i = some i.toNat := by unfold ixN; rw [if_pos h0, if_pos h]
theorem ifb {c : Prop} [Decidable c] {A B : Prop} : (if decide c = true then A else B) ↔ if c then A else B := by
  by_cases h : c <;> simp [h]
/-- data without references and bools, of texts that can be, nested to n at most -/
def pl : Nat → D → Prop
  | _, .non => True
  | _, .bl _ => False
  | _, .int _ => True
  | _, .str x => PyData.strOk x = true
  | 0, .tup _ => False
  | 0, .lst _ => False
  | n + 1, .tup xs => ∀ d ∈ xs, pl n d
  | n + 1, .lst xs => ∀ d ∈ xs, pl n d
  | _, .ref _ => False
  | _, .ty _ => False
  | _, .scr _ => False
  | _, .obj _ _ _ => False
theorem pl_spec : ∀ (n : Nat) (d : D), pl n d → d.pure = true ∧ d.py.canLay0 = true ∧ d.py.depth ≤ n := by
  intro n
  induction n with
  | zero =>
    intro d h
    cases d with
    | non => exact ⟨rfl, rfl, Nat.le_refl _⟩
    | int i => exact ⟨rfl, rfl, Nat.le_refl _⟩
    | str x => exact ⟨rfl, h, Nat.le_refl _⟩
    | _ => exact (show False from h).elim
  | succ n ih =>
    have lists : ∀ xs : List D, (∀ d ∈ xs, pl n d) → D.pures xs = true ∧ PyData.canLayAll0 (D.pys xs) = true ∧ PyData.depthAll (D.pys xs) ≤ n := by
      intro xs
      induction xs with
      | nil => intro _; exact ⟨rfl, rfl, Nat.zero_le _⟩
      | cons x xs ih2 =>
        intro h
        obtain ⟨a1, a2, a3⟩ := ih x (h x (by simp))
        obtain ⟨b1, b2, b3⟩ := ih2 fun d hd => h d (by simp [hd])
        refine ⟨?_, ?_, ?_⟩
        · show (x.pure && D.pures xs) = true
          rw [a1, b1]; rfl
        · show (x.py.canLay0 && PyData.canLayAll0 (D.pys xs)) = true
          rw [a2, b2]; rfl
        · show max x.py.depth (PyData.depthAll (D.pys xs)) ≤ n
          omega
    intro d h
    cases d with
    | non => exact ⟨rfl, rfl, Nat.zero_le _⟩
    | int i => exact ⟨rfl, rfl, Nat.zero_le _⟩
    | str x => exact ⟨rfl, h, Nat.zero_le _⟩
    | tup xs => obtain ⟨a, b, c⟩ := lists xs h; exact ⟨a, b, Nat.succ_le_succ c⟩
    | lst xs => obtain ⟨a, b, c⟩ := lists xs h; exact ⟨a, b, Nat.succ_le_succ c⟩
    | _ => exact (show False from h).elim
theorem pl_okD {n : Nat} {d : D} (h : pl n d) (l : n ≤ 64 := by decide) : okD d := by
  obtain ⟨a, b, c⟩ := pl_spec n d h
  refine ⟨a, ?_⟩
  unfold SeqAt.shaped
  rw [b, decide_eq_true (Nat.le_trans c l)]; rfl
theorem pl_mono : ∀ (n m : Nat) (d : D), n ≤ m → pl n d → pl m d := by
  intro n
  induction n with
  | zero =>
    intro m d _ h
    cases d with
    | non => cases m <;> trivial
    | int i => cases m <;> trivial
    | str x => cases m <;> exact h
    | _ => exact (show False from h).elim
  | succ n ih =>
    intro m d l h
    obtain ⟨m, rfl⟩ : ∃ k, m = k + 1 := ⟨m - 1, by omega⟩
    cases d with
    | non => trivial
    | int i => trivial
    | str x => exact h
    | tup xs => exact fun d hd => ih m d (by omega) (h d hd)
    | lst xs => exact fun d hd => ih m d (by omega) (h d hd)
    | _ => exact (show False from h).elim
theorem okD_bl (b : Bool) : okD (.bl b) := ⟨rfl, rfl⟩
theorem okD_int (i : Int) : okD (.int i) := ⟨rfl, rfl⟩
theorem okD_non : okD .non := ⟨rfl, rfl⟩
theorem eqD_bl (a b : Bool) : eqD (.bl a) (.bl b) = (a == b) := rfl
theorem eqD_int (a b : Int) : eqD (.int a) (.int b) = (a == b) := rfl
theorem eqD_str (a b : Str) : eqD (.str a) (.str b) = (a == b) := rfl
theorem eqD_non_int (b : Int) : eqD .non (.int b) = false := rfl
theorem eqD_int_non (b : Int) : eqD (.int b) .non = false := rfl
theorem eqD_non : eqD .non .non = true := rfl
theorem eqD_non_lst (xs : List D) : eqD .non (.lst xs) = false := rfl
theorem eqD_non_tup (xs : List D) : eqD .non (.tup xs) = false := rfl
theorem eqD_lst (xs ys : List D) : eqD (.lst xs) (.lst ys) = PyData.eqvAll (D.pys xs) (D.pys ys) := rfl
theorem eqD_pl : ∀ (n : Nat) (d e : D), pl n d → pl n e → (eqD d e = true ↔ d = e) := by
  intro n
  induction n with
  | zero =>
    intro d e hd he
    cases d <;> (first | exact (show False from hd).elim | skip) <;> cases e <;> (first | exact (show False from he).elim | skip) <;>
      first
      | exact ⟨fun _ => rfl, fun _ => rfl⟩
      | exact ⟨fun z => absurd (show false = true from z) Bool.false_ne_true, fun z => nomatch z⟩
      | (rw [eqD_int]; simp)
      | (rw [eqD_str]; simp)
  | succ n ih =>
    have lists : ∀ xs ys : List D, (∀ d ∈ xs, pl n d) → (∀ d ∈ ys, pl n d) → (PyData.eqvAll (D.pys xs) (D.pys ys) = true ↔ xs = ys) := by
      intro xs
      induction xs with
      | nil =>
        intro ys _ _
        cases ys with
        | nil => exact ⟨fun _ => rfl, fun _ => rfl⟩
        | cons y ys => exact ⟨fun z => absurd (show false = true from z) Bool.false_ne_true, fun z => nomatch z⟩
      | cons x xs ih2 =>
        intro ys hx hy
        cases ys with
        | nil => exact ⟨fun z => absurd (show false = true from z) Bool.false_ne_true, fun z => nomatch z⟩
        | cons y ys =>
          show (eqD x y && PyData.eqvAll (D.pys xs) (D.pys ys)) = true ↔ _
          rw [Bool.and_eq_true, ih x y (hx x (by simp)) (hy y (by simp)), ih2 ys (fun d hd => hx d (by simp [hd])) (fun d hd => hy d (by simp [hd])), List.cons.injEq]
    intro d e hd he
    cases d <;> (first | exact (show False from hd).elim | skip) <;> cases e <;> (first | exact (show False from he).elim | skip) <;>
      first
      | exact ⟨fun _ => rfl, fun _ => rfl⟩
      | exact ⟨fun z => absurd (show false = true from z) Bool.false_ne_true, fun z => nomatch z⟩
      | (rw [eqD_int]; simp)
      | (rw [eqD_str]; simp)
      | (rename_i xs ys; exact (lists xs ys hd he).trans ⟨fun z => by rw [z], fun z => by injection z⟩)
theorem eqD_same {n : Nat} {d : D} (h : pl n d) : eqD d d = true := (eqD_pl n d d h h).mpr rfl
theorem eqD_ne {n : Nat} {d e : D} (h : pl n d) (h' : pl n e) (ne : d ≠ e) : eqD d e = false := by
  cases q : eqD d e with
  | false => rfl
  | true => exact absurd ((eqD_pl n d e h h').mp q) ne
/-- data with bools, too -/
def sm : Nat → D → Prop
  | _, .non => True
  | _, .bl _ => True
  | _, .int _ => True
  | _, .str x => PyData.strOk x = true
  | 0, .tup _ => False
  | 0, .lst _ => False
  | n + 1, .tup xs => xs.length ≤ 1000000 ∧ ∀ d ∈ xs, sm n d
  | n + 1, .lst xs => xs.length ≤ 1000000 ∧ ∀ d ∈ xs, sm n d
  | _, .ref _ => False
  | _, .ty _ => False
  | _, .scr _ => False
  | _, .obj _ _ _ => False
theorem sm_spec : ∀ (n : Nat) (d : D), sm n d → d.pure = true ∧ d.py.canLay0 = true ∧ d.py.depth ≤ n ∧ eqD d d = true := by
  intro n
  induction n with
  | zero =>
    intro d h
    cases d with
    | non => exact ⟨rfl, rfl, Nat.le_refl _, rfl⟩
    | bl b => exact ⟨rfl, rfl, Nat.le_refl _, by cases b <;> rfl⟩
    | int i => exact ⟨rfl, rfl, Nat.le_refl _, by rw [eqD_int]; simp⟩
    | str x => exact ⟨rfl, h, Nat.le_refl _, by rw [eqD_str]; simp⟩
    | _ => exact (show False from h).elim
  | succ n ih =>
    have lists : ∀ xs : List D, (∀ d ∈ xs, sm n d) → D.pures xs = true ∧ PyData.canLayAll0 (D.pys xs) = true ∧ PyData.depthAll (D.pys xs) ≤ n ∧ PyData.eqvAll (D.pys xs) (D.pys xs) = true := by
      intro xs
      induction xs with
      | nil => intro _; exact ⟨rfl, rfl, Nat.zero_le _, rfl⟩
      | cons x xs ih2 =>
        intro h
        obtain ⟨a1, a2, a3, a4⟩ := ih x (h x (by simp))
        obtain ⟨b1, b2, b3, b4⟩ := ih2 fun d hd => h d (by simp [hd])
        refine ⟨?_, ?_, ?_, ?_⟩
        · show (x.pure && D.pures xs) = true
          rw [a1, b1]; rfl
        · show (x.py.canLay0 && PyData.canLayAll0 (D.pys xs)) = true
          rw [a2, b2]; rfl
        · show max x.py.depth (PyData.depthAll (D.pys xs)) ≤ n
          omega
        · show (eqD x x && PyData.eqvAll (D.pys xs) (D.pys xs)) = true
          rw [a4, b4]; rfl
    intro d h
    cases d with
    | non => exact ⟨rfl, rfl, Nat.zero_le _, rfl⟩
    | bl b => exact ⟨rfl, rfl, Nat.zero_le _, by cases b <;> rfl⟩
    | int i => exact ⟨rfl, rfl, Nat.zero_le _, by rw [eqD_int]; simp⟩
    | str x => exact ⟨rfl, h, Nat.zero_le _, by rw [eqD_str]; simp⟩
    | tup xs => obtain ⟨a, b, c, e⟩ := lists xs h.2; exact ⟨a, b, Nat.succ_le_succ c, e⟩
    | lst xs => obtain ⟨a, b, c, e⟩ := lists xs h.2; exact ⟨a, b, Nat.succ_le_succ c, e⟩
    | _ => exact (show False from h).elim
theorem sm_okD {n : Nat} {d : D} (h : sm n d) (l : n ≤ 64 := by decide) : okD d := by
  obtain ⟨a, b, c, _⟩ := sm_spec n d h
  refine ⟨a, ?_⟩
  unfold SeqAt.shaped
  rw [b, decide_eq_true (Nat.le_trans c l)]; rfl
theorem sm_same {n : Nat} {d : D} (h : sm n d) : eqD d d = true := (sm_spec n d h).2.2.2
abbrev nD (n : Nat) : D := .int (n : Int)
theorem pl_ints {n : Nat} (l : List Nat) : pl (n + 1) (.lst (l.map nD)) := fun d hd => by
  obtain ⟨x, _, rfl⟩ := List.mem_map.mp hd
  cases n <;> trivial
theorem nD_inj {a b : Nat} (h : nD a = nD b) : a = b := by injection h with h; omega
theorem map_nD_inj {l l' : List Nat} (h : l.map nD = l'.map nD) : l = l' := by
  induction l generalizing l' with
  | nil => cases l' with
    | nil => rfl
    | cons y ys => cases h
  | cons x xs ih => cases l' with
    | nil => cases h
    | cons y ys =>
      rw [List.map_cons, List.map_cons, List.cons.injEq] at h
      rw [nD_inj h.1, ih h.2]
theorem memD_nD (x : Nat) (l : List Nat) : memD (nD x) (l.map nD) = decide (x ∈ l) := by
  unfold memD
  rw [Bool.eq_iff_iff, List.any_eq_true, decide_eq_true_eq]
  constructor
  · rintro ⟨d, hd, e⟩
    obtain ⟨y, hy, rfl⟩ := List.mem_map.mp hd
    have e2 : ((y : Int) == (x : Int)) = true := e
    have e3 : (y : Int) = x := by simpa using e2
    have : y = x := by omega
    rw [← this]; exact hy
  · intro h
    refine ⟨nD x, List.mem_map.mpr ⟨x, h, rfl⟩, ?_⟩
    show ((x : Int) == (x : Int)) = true
    simp
/-! ### loops by an invariant over the turn -/
theorem lc_ind {keep : Mu → Prop} {g : DG} {tt : DT} {te : DE} {ρ0 : Env} {fin : List D → Mu → Prop} {xs : List D} {acc : List D} {μ : Mu} (I : Nat → List D → Mu → Prop) (h0 : I 0 acc μ)
    (step : ∀ i x acc μ (K : List D → Mu → Prop), xs[i]? = some x → I i acc μ → (∀ acc' μ', I (i + 1) acc' μ' → K acc' μ') → keep μ ∧ g x ρ0 μ fun ρ1 μ1 => tt ρ1 μ1 fun b μ2 =>
      if b = true then te ρ1 μ2 fun d μ3 => acc.length < sizeLine ∧ K (acc ++ [d]) μ3 else K acc μ2)
    (hfin : ∀ acc μ, I xs.length acc μ → keep μ ∧ fin acc μ) : dLcL keep g tt te ρ0 fin xs acc μ := by
  have go : ∀ (ys : List D) (i : Nat) (acc : List D) (μ : Mu), xs.drop i = ys → i ≤ xs.length → I i acc μ → dLcL keep g tt te ρ0 fin ys acc μ := by
    intro ys
    induction ys with
    | nil =>
      intro i acc μ e hi h
      have : i = xs.length := by
        have := List.drop_eq_nil_iff.mp e
        omega
      subst this
      exact hfin acc μ h
    | cons y ys ih =>
      intro i acc μ e hi h
      have hlt : i < xs.length := by
        rcases Nat.lt_or_ge i xs.length with q | q
        · exact q
        · rw [List.drop_eq_nil_of_le q] at e; cases e
      rw [List.drop_eq_getElem_cons hlt] at e
      injection e with e1 e2
      exact step i y acc μ (fun acc' μ' => dLcL keep g tt te ρ0 fin ys acc' μ') (by rw [List.getElem?_eq_getElem hlt, e1]) h fun acc' μ' h' => ih (i + 1) acc' μ' e2 hlt h'
  exact go xs 0 acc μ (List.drop_zero) (Nat.zero_le _) h0
theorem for_ind {keep : Mu → Prop} {g : DG} {tb : DS} {De : DEnds} {xs : List D} {ρ : Env} {μ : Mu} (I : Nat → Env → Mu → Prop) (h0 : I 0 ρ μ)
    (step : ∀ i x ρ μ (K : Env → Mu → Prop), xs[i]? = some x → I i ρ μ → (∀ ρ' μ', I (i + 1) ρ' μ' → K ρ' μ') → keep μ ∧ g x ρ μ fun ρ' μ' => tb { nx := K, rt := De.rt, bk := De.nx, ct := K } ρ' μ')
    (hfin : ∀ ρ μ, I xs.length ρ μ → keep μ ∧ De.nx ρ μ) : dForL keep g tb De xs ρ μ := by
  have go : ∀ (ys : List D) (i : Nat) (ρ : Env) (μ : Mu), xs.drop i = ys → i ≤ xs.length → I i ρ μ → dForL keep g tb De ys ρ μ := by
    intro ys
    induction ys with
    | nil =>
      intro i ρ μ e hi h
      have : i = xs.length := by
        have := List.drop_eq_nil_iff.mp e
        omega
      subst this
      exact hfin ρ μ h
    | cons y ys ih =>
      intro i ρ μ e hi h
      have hlt : i < xs.length := by
        rcases Nat.lt_or_ge i xs.length with q | q
        · exact q
        · rw [List.drop_eq_nil_of_le q] at e; cases e
      rw [List.drop_eq_getElem_cons hlt] at e
      injection e with e1 e2
      exact step i y ρ μ (fun ρ' μ' => dForL keep g tb De ys ρ' μ') (by rw [List.getElem?_eq_getElem hlt, e1]) h fun ρ' μ' h' => ih (i + 1) ρ' μ' e2 hlt h'
  exact go xs 0 ρ μ (List.drop_zero) (Nat.zero_le _) h0
theorem upto_some {lo : Int} {n i : Nat} {x : D} (h : (upto lo n)[i]? = some x) : i < n ∧ x = .int (lo + i) := by
  have hi : i < n := by
    have := (List.getElem?_eq_some_iff.mp h).1
    rw [upto_length] at this; exact this
  rw [upto_get hi] at h
  exact ⟨hi, (Option.some.inj h).symm⟩
/-- an item of a written list at a place that is drawn -/
theorem atI_any {α : Type} {xs : List α} {v : Int} {P : α → Prop} (h0 : 0 ≤ v) (h1 : v < xs.length) (h : ∀ x ∈ xs, P x) : ∃ x, L2.atI xs v = some x ∧ P x := by
  have hi : v.toNat < xs.length := by omega
  exact ⟨xs[v.toNat], atI_of h0 (List.getElem?_eq_getElem hi), h _ (List.getElem_mem hi)⟩
/-- a comprehension whose element only reads -/
theorem lc_map {α : Type} {keep : Mu → Prop} {g : DG} {tt : DT} {te : DE} {ρ0 : Env} {fin : List D → Mu → Prop} {ys : List α} {enc : α → D} {μ : Mu} (f : α → D) (hk : keep μ) (hz : ys.length ≤ 1000000)
    (step : ∀ y, y ∈ ys → ∀ (k : KD) (e : Mu → Prop), k (f y) μ → g (enc y) ρ0 μ fun ρ1 μ1 => tt ρ1 μ1 fun b μ2 => if b = true then te ρ1 μ2 k else e μ2)
    (hfin : fin (ys.map f) μ) : dLcL keep g tt te ρ0 fin (ys.map enc) [] μ := by
  refine lc_ind (fun i acc μ' => μ' = μ ∧ acc = (ys.take i).map f) ⟨rfl, rfl⟩ ?_ ?_
  · rintro i x acc μ' K hx ⟨rfl, rfl⟩ hK
    rw [List.getElem?_map] at hx
    cases q : ys[i]? with
    | none => rw [q] at hx; cases hx
    | some y =>
      rw [q] at hx
      cases hx
      refine ⟨hk, step y (List.mem_of_getElem? q) _ _ ⟨?_, hK _ _ ⟨rfl, ?_⟩⟩⟩
      · rw [List.length_map, List.length_take]
        exact Nat.lt_of_le_of_lt (Nat.le_trans (Nat.min_le_right _ _) hz) (by decide)
      · rw [List.take_add_one, q, List.map_append]; rfl
  · rintro acc μ' ⟨rfl, rfl⟩
    rw [List.length_map, List.take_length]
    exact ⟨hk, hfin⟩
theorem blsOf_mapf {α : Type} (f : α → Bool) : ∀ ys : List α, blsOf (ys.map fun y => D.bl (f y)) = some (ys.map f)
  | [] => rfl
  | y :: ys => by
    show (blsOf (ys.map fun y => D.bl (f y))).map (f y :: ·) = _
    rw [blsOf_mapf f ys]; rfl
theorem sIx_le {n : Nat} {i : Nat} : HT.sIx n n (some (i : Int)) = min i n := by rw [HT.sIx_nat]
theorem cutD_take {α : Type} (xs : List α) (i : Nat) : cutD xs none (some (i : Int)) = xs.take i := by
  unfold cutD
  rw [HT.sIx_nat, HT.sIx_none, Nat.sub_zero, List.drop_zero]
  rcases Nat.le_total i xs.length with h | h
  · rw [Nat.min_eq_left h]
  · rw [Nat.min_eq_right h, List.take_length, List.take_of_length_le h]
theorem cutD_drop {α : Type} (xs : List α) (i : Nat) : cutD xs (some (i : Int)) none = xs.drop i := by
  unfold cutD
  rw [HT.sIx_nat, HT.sIx_none]
  rcases Nat.le_total i xs.length with h | h
  · rw [Nat.min_eq_left h]
    exact List.take_of_length_le (by rw [List.length_drop]; omega)
  · rw [Nat.min_eq_right h, Nat.sub_self, List.take_zero, List.drop_eq_nil_of_le h]
theorem enumD_some {xs : List D} {i : Nat} {z : D} (h : (enumD 0 xs)[i]? = some z) : ∃ x, xs[i]? = some x ∧ z = .tup [.int (i : Int), x] := by
  have hi := (List.getElem?_eq_some_iff.mp h).1
  rw [enumD_length] at hi
  rw [enumD_get (List.getElem?_eq_getElem hi)] at h
  refine ⟨xs[i], List.getElem?_eq_getElem hi, ?_⟩
  rw [Nat.zero_add] at h
  exact (Option.some.inj h).symm
theorem map_some {α β : Type} {f : α → β} {xs : List α} {i : Nat} {z : β} (h : (xs.map f)[i]? = some z) : ∃ x, xs[i]? = some x ∧ z = f x := by
  rw [List.getElem?_map] at h
  cases q : xs[i]? with
  | none => rw [q] at h; cases h
  | some x => rw [q] at h; exact ⟨x, rfl, (Option.some.inj h).symm⟩
theorem take_succ_some {α : Type} {xs : List α} {i : Nat} {x : α} (h : xs[i]? = some x) : xs.take (i + 1) = xs.take i ++ [x] := by
  rw [List.take_add_one, h]; rfl
/-- a law's tape: what is left of a great number, the mixed one, how many were taken; n more may be taken -/
def tapeL (a b c : Int) (r : List D) : MO := .lst (.int a :: .int b :: .int c :: r)
def Tp (n : Nat) (r : List D) (o : MO) : Prop := ∃ a b c : Int, o = tapeL a b c r ∧ 0 ≤ a ∧ 0 ≤ b ∧ b < 2147483629 ∧ 0 ≤ c ∧ c + n ≤ 2 ^ 60
theorem Tp.mono {n m : Nat} {r : List D} {o : MO} (h : Tp n r o) (l : m ≤ n) : Tp m r o := by
  obtain ⟨a, b, c, e, h1, h2, h3, h4, h5⟩ := h
  exact ⟨a, b, c, e, h1, h2, h3, h4, by omega⟩
/-- a draw: at most C takes off the tape, something that P holds of is told -/
def Drawn (C : Nat) (P : D → Prop) (t : Addr) (μ : Mu) (k : KD) : Prop := ∃ n r o, μ t = some o ∧ Tp (n + C) r o ∧ ∀ d o', P d → Tp n r o' → k d (mset μ t o')
/-- what _law_take promises -/
def spTake : DCall := fun ds μ k => ∃ t many, ds = [.ref t, .int many] ∧ 0 < many ∧ many < 1073741824 ∧ Drawn 1 (fun d => ∃ v : Int, d = .int v ∧ 0 ≤ v ∧ v < many) t μ k
end DL
/-! DLi: enumerate of a tuple. -/
namespace DL
open PySem PySem.Spec L2
open PyProof.Rows hiding St
variable [anc : Anc]
section
variable {prog : Program} {w : World} {A : Around} {E : Value → Shared → Prop} {s : Shared}
theorem enum1_meets {v : Value} {o : Obj} {G : Heap → Prop} (B : Begins v o G) :
    Meets (Builtin.«enumerate.__new__» ⟨[.type "enumerate", v], []⟩) (fun _ R s => G s.heap ∧
      R (.ok (.ret (.ref (s.heap.push o).objs.size))) { s with heap := (s.heap.push o).push { cls := .type "enumerate", data := .fields #[.none, .bool false, .ref s.heap.objs.size, rawInt 0, .none, .none] } }) :=
  .of_wp fun prog w A R s h => by
    obtain ⟨hp, gs, dr, tk, os⟩ := s
    obtain ⟨hG, h⟩ := h
    have isSub := sub_enumerate
    have it0 : ∀ {A' : Around} {E' : Value → Shared → Prop} {Q' : Value → Shared → Prop}, Q' (.ref hp.objs.size) ⟨hp.push o, gs, dr, tk, os⟩ → wpAny (model prog w) A' (pyIter v) Q' E' ⟨hp, gs, dr, tk, os⟩ :=
      fun q => B.iter prog w _ _ ⟨hp, gs, dr, tk, os⟩ _ hG q
    wp_walk using it0
    refine wpAny_stack_any fun st => wpAny_pure ?_
    split
    · rename_i c _ _ _ _ _
      cases (c == Value.type "enumerate") <;> (wp_walk using it0; exact ⟨_, rfl, h⟩)
    · wp_walk using it0
      exact ⟨_, rfl, h⟩
theorem enum1_begins {v : Value} {o : Obj} {G : Heap → Prop} {Q : Value → Shared → Prop} (B : Begins v o G) (hG : G s.heap)
    (h : ∀ h', IsEnum h' (s.heap.objs.size + 1) s.heap.objs.size 0 .none → h'.get? s.heap.objs.size = some o →
      (∀ b u, s.heap.get? b = some u → h'.get? b = some u) → Q (.ref (s.heap.objs.size + 1)) { s with heap := h' }) :
    wpAny (model prog w) A (call (.type "enumerate") [v]) Q E s := by
  have hz : (s.heap.push o).objs.size = s.heap.objs.size + 1 := Heap.size_push ..
  have he : IsEnum ((s.heap.push o).push { cls := .type "enumerate", data := .fields #[.none, .bool false, .ref s.heap.objs.size, rawInt 0, .none, .none] }) (s.heap.objs.size + 1) s.heap.objs.size 0 .none := by
    have q := Heap.get?_push_size (s.heap.push o) (o := { cls := .type "enumerate", data := .fields #[.none, .bool false, .ref s.heap.objs.size, rawInt 0, .none, .none] }) rfl
    rw [hz] at q
    exact q
  refine callType_new F.called_enumerate (by decide) (F.typeCall_enumerate_1 _) (F.newCall_enumerate_1 _) (fun obj => F.args_object_init_2 obj _) F.entry_enumerate_new (enum1_meets B) ⟨hG, ?_⟩
  rw [hz]
  exact ⟨⟨_, he, rfl⟩, h _ he (Heap.get?_push_of_some _ (Heap.get?_push_size _ B.free)) fun b u x => Heap.get?_push_of_some _ (Heap.get?_push_of_some _ x)⟩
end
/-- a tuple's items with their numbers, each pair a new tuple -/
def IteT (K : PySem.W.Frag) (a : Addr) : It :=
  ⟨fun i H => ∃ xs x, SqT K H a xs ∧ xs[i]? = some x, fun i H v H' => ∃ T x, v = .ref T ∧ H T = none ∧ H' = upd H T (.tup [.int (i : Nat), x]) ∧ ∀ xs, SqT K H a xs → xs[i]? = some x, fun i H => ∃ xs, SqT K H a xs ∧ xs.length = i⟩
theorem turn_enumT {P : Program} {w : World} {K : PySem.W.Frag} {elts : List Expr} {j : Nat} {tpos : Pos} (a e it : Addr) :
    Turn P w K (.Tuple elts j tpos) (IteT K a) [e, it] e (fun i h => (∃ old, IsEnum h e it ((i : Nat) : Int) old) ∧ h.IsTupleIter it a i ∧ e ≠ it ∧ a ≠ it ∧ e ≠ a) where
  mem := List.mem_cons_self ..
  obj := fun i h st b hb => by
    obtain ⟨⟨old, he⟩, ⟨o, ho, _, hd⟩, _⟩ := st
    rcases List.mem_cons.mp hb with q | q
    · rw [q]
      exact ⟨_, he, fun v z => nomatch z⟩
    · rw [List.mem_singleton.mp q]
      exact ⟨o, ho, fun v z => by rw [hd] at z; cases z⟩
  keep := fun i h h' ⟨⟨old, he⟩, hi, n⟩ k => ⟨⟨old, k e (List.mem_cons_self ..) _ he⟩, hi.at fun o q => k it (List.mem_cons_of_mem _ (List.mem_singleton.mpr rfl)) o q, n⟩
  item := fun X hP hw hK hc i pins s σ H E I hf ⟨⟨old, he⟩, hit, n1, n2, n3⟩ ⟨xs, x, hq, hx⟩ => by
    subst hP hw hK
    obtain ⟨its, rv, pt, _⟩ := I.tuple hq
    obtain ⟨u, hu, ru⟩ := rv.get hx
    have hi : i < its.toArray.size := by
      rw [List.size_toArray]
      exact (List.getElem?_eq_some_iff.mp hu).1
    have Dr := Draws.tuple (prog := X.prog) (w := X.w) (A := X.A.in1) (I.ok.hd hc) it a n2 its.toArray
    have le : e < s.heap.objs.size := Heap.lt_size he
    have li : it < s.heap.objs.size := by
      obtain ⟨_, q, _⟩ := hit
      exact Heap.lt_size q
    refine wpAny_pyNext_enum_itemD Dr he ⟨hit, pt⟩ hi n1 (fun z => ?_) fun y h1 tk hy hout hst hT _ hk => ⟨_, rfl, wpAny_letOwnedTupleGo_enum (s := { s with heap := h1, toks := tk + 1 }) hout fun h2 he2 sb => ?_⟩
    · rcases List.mem_cons.mp z with z | z
      · exact n1 z
      · exact n3 (List.mem_singleton.mp z)
    have ey : y = u := by
      have hu2 : its.toArray[i]? = some u := by simpa using hu
      exact Option.some.inj (hy.symm.trans hu2)
    subst ey
    have new : ObjOk X.prog X.w (upd H s.heap.objs.size (.tup [.int (i : Nat), x])) h2 s.heap.objs.size (.tup [.int (i : Nat), x]) :=
      ⟨by show 2 ≤ sizeLine; decide, [.int i tk, y], .cons ⟨_, rfl⟩ (.cons ru .nil), ⟨_, (sb.2 _ (Nat.ne_of_gt le)).trans hT, rfl, _, rfl⟩⟩
    have I2 : Inv X pins σ (upd H s.heap.objs.size (.tup [.int (i : Nat), x])) { s with heap := h2, toks := tk + 1 } :=
      I.turnedNew (ch := [e, it]) (fun b ob hb q => (sb.2 b fun z => hb (by simp [z])).trans (hk b ob (fun z => hb (by simp [z])) (fun z => hb (by simp [z])) q)) hf (Nat.le_refl _) new
    refine ⟨.ref s.heap.objs.size, _, I2, rfl, ⟨_, x, rfl, I.hok.fresh (Nat.le_refl _), rfl, fun ys hy => by rw [I.tuple_inj hy hq]; exact hx⟩, ⟨⟨y, by rw [show ((i + 1 : Nat) : Int) = (i : Int) + 1 by omega]; exact he2⟩, hst.1.at fun o q => (sb.2 it (Ne.symm n1)).trans q, n1, n2, n3⟩, fun b hb => ?_⟩
    have lb : b < s.heap.objs.size := by
      rcases List.mem_cons.mp hb with z | z
      · rw [z]; exact le
      · rw [List.mem_singleton.mp z]; exact li
    rw [upd_ne (Nat.ne_of_lt lb)]
    exact (hf b hb).1
  done := fun X hP hw hK hc i pins s σ H E I hf ⟨⟨old, he⟩, hit, n1, n2, n3⟩ ⟨xs, hq, hx⟩ => by
    subst hP hw hK
    obtain ⟨its, rv, pt, _⟩ := I.tuple hq
    have Dr := Draws.tuple (prog := X.prog) (w := X.w) (A := X.A.in1) (I.ok.hd hc) it a n2 its.toArray
    obtain ⟨f0, f1, f2, f3, f4, f5⟩ := hf it (List.mem_cons_of_mem _ (List.mem_singleton.mpr rfl))
    have hi : i = its.toArray.size := by rw [List.size_toArray, ← rv.length]; exact hx.symm
    subst hi
    exact wpAny_pyNext_enum_endD Dr he ⟨hit, pt⟩ fun h' eb => ⟨rfl, I.turned (t' := s.toks) (fun b o hb q => eb b o hb q) f0 f1 f3 f4 f5⟩
  self := fun A i s Q E ⟨⟨_, he⟩, _⟩ h => wpAny_pyIter_enum he h
def iEnumT (K : PySem.W.Frag) (ta : TA) : TI := fun σ H R => ta σ H fun vs H1 => ∃ a xs, vs = [.ref a] ∧ SqT K H1 a xs ∧ R (IteT K a) H1
section
variable {X : Cx} {e : Expr} {p pos tpos : Pos} {elts : List Expr} {kk : Nat}
/-- enumerate of a list or a tuple -/
def iEnumA (K : PySem.W.Frag) (ta : TA) : TI := fun σ H R => ta σ H fun vs H1 => ∃ a xs, vs = [.ref a] ∧ ((SqL K H1 a xs ∧ R (Ite K a) H1) ∨ (SqT K H1 a xs ∧ R (IteT K a) H1))
theorem pi_enumA {ta : TA} (hg : Gl X "enumerate") (hm : X.mg "enumerate" = none) (ha : PA X [e] ta) (hs : starEach [e] X.env = [(false, eval e X.env)] := by rfl) :
    PI X (.Tuple elts kk tpos) (.Call (.Name "enumerate" p) [e] [] pos) (iEnumA X.K ta) :=
  ⟨fun pins s σ H R I h => Call_ (ld_blt I hg hm boot_enumerate (PyProof.Rows.callWith_type1 (thn (ha.run pos pins s σ H _ I h) fun us s' ⟨vs, H', J, rv, a, xs, ex, q⟩ => by
    subst ex
    cases rv with
    | cons r0 rr =>
      cases rr
      cases r0
      have fp : ∀ b ∈ [s'.heap.objs.size + 1, s'.heap.objs.size], FpOk X pins H' b := fun b hb => by
        have lb : s'.heap.objs.size ≤ b := by
          rcases List.mem_cons.mp hb with z | z
          · rw [z]; exact Nat.le_succ _
          · rw [List.mem_singleton.mp z]; exact Nat.le_refl _
        exact J.fpOk lb (J.hok.fresh lb)
      rcases q with ⟨hq, q⟩ | ⟨hq, q⟩
      · obtain ⟨its, _, pl, _⟩ := J.list hq
        exact call_enumerate_list pl.isList fun h' he hit _ hk => wpAny_pyIter_enum he
          ⟨_, _, _, _, H', rfl, J.kept (t' := s'.toks) hk, turn_enum a _ _, ⟨⟨.none, he⟩, hit, Nat.succ_ne_self _⟩, fp, q⟩
      · obtain ⟨its, _, pt, _⟩ := J.tuple hq
        have la : a < s'.heap.objs.size := pt.lt
        exact enum1_begins (begins_tuple a its.toArray) pt fun h' he hit hk => wpAny_pyIter_enum he
          ⟨_, _, _, _, H', rfl, J.kept (t' := s'.toks) hk, turn_enumT a _ _, ⟨⟨.none, he⟩, ⟨_, hit, rfl, rfl⟩, Nat.succ_ne_self _, Nat.ne_of_lt la, Nat.ne_of_gt (Nat.lt_succ_of_lt la)⟩, fp, q⟩) hs rfl))⟩
theorem it_enumT {K : PySem.W.Frag} {F : Hp} {a : Addr} {vs : List V} {xs : List D} (h : SqT K F a vs) (d : DenL K F vs xs) : ItOk K F (IteT K a) (enumD 0 xs) (fun _ => True) := fun F1 H1 μ1 s R kp => by
  have q := seqT_mono R.same (seqT_mono s h)
  rw [enumD_length]
  refine ⟨fun i hi => ?_, vs, q, d.length⟩
  have i1 : i < vs.length := by rw [d.length]; exact hi
  refine ⟨⟨vs, vs[i], q, by simp [i1]⟩, fun x H2 hy => ?_⟩
  obtain ⟨T, x1, rfl, n, rfl, f1⟩ := hy
  obtain ⟨y1, g1, e1⟩ := d.get (f1 _ q)
  obtain ⟨sF, R2⟩ := R.frozen n (.tup [.int (i : Nat), x1])
  refine ⟨_, sF, R2, _, enumD_get g1, .tup (.inl (.inl upd_same)) (.cons ?_ (.cons ((e1.mono s).ext sF) .nil))⟩
  rw [Nat.zero_add]
  exact .int _
def diEnumA (dr : DA) : DI := fun ρ μ kk => dr ρ μ fun ds μ1 => match ds with
  | [.tup xs] => kk (enumD 0 xs) (fun _ => True) μ1
  | [d] => ∃ p, still μ1 d = some p ∧ kk (enumD 0 p.1) p.2 μ1
  | _ => False
theorem pdi_enumA {dr : DA} (hg : Gl X "enumerate") (hm : X.mg "enumerate" = none) (ha : PDA X [e] dr) (hs : starEach [e] X.env = [(false, eval e X.env)] := by rfl) : PDI X (.Tuple elts kk tpos) (.Call (.Name "enumerate" p) [e] [] pos) (diEnumA dr) :=
  PI.imp (pi_enumA hg hm ha hs) fun σ H RR ⟨F, ρ, μ, kk, R, E, h, C⟩ => ⟨F, ρ, μ, _, R, E, h, fun ds μ1 F1 vs H1 h1 s1 R1 D1 => by
    split at h1
    · cases D1 with
      | cons q1 q2 =>
        cases q2
        cases q1 with
        | tup hs hd => exact ⟨_, _, rfl, .inr ⟨seqT_mono R1.same hs, C _ _ μ1 F1 H1 _ h1 s1 R1 (it_enumT hs hd)⟩⟩
    · obtain ⟨⟨xs, k1⟩, e1, h1⟩ := h1
      cases D1 with
      | cons q1 q2 =>
        cases q2
        obtain ⟨a, rfl, ⟨v1, b1, b2⟩, b3⟩ := still_ok R1 q1 e1
        exact ⟨a, v1, rfl, .inl ⟨b1, C _ _ μ1 F1 H1 _ h1 s1 R1 (it_enum b3)⟩⟩
    · exact h1.elim⟩
end
end DL
/-! DLj: bit_length. -/
namespace DL
open PySem PySem.Spec L2
open PyProof.Rows hiding St
variable [anc : Anc]
section
variable {X : Cx} {o : Expr} {da : DE}
/-- x.bit_length() -/
def rdBits : D1 := fun d μ k => match d with
  | .int i => k (.int (Builtin.Int.intBits i : Nat)) μ
  | _ => False
theorem pd_bits {apos pos : Pos} (ho : PD X o da) (hbase : attributeBase o "bit_length" X.env (eval o X.env) = eval o X.env := by rfl) (hline : (apos.endLine == pos.line) = true := by rfl) : PD X (.Call (.Attribute o "bit_length" apos) [] [] pos) (dUn rdBits da) :=
  PE.imp (pe_bits ho hbase hline) fun σ H Q ⟨F, ρ, μ, k, R, E, h, C⟩ => ⟨F, ρ, μ, _, R, E, h, fun d μ1 F1 v H1 h1 s1 R1 D1 => by
    cases d with
    | int i => cases D1; exact ⟨i, rfl, (C.mono s1) _ _ F1 _ _ h1 .refl R1 (.int _)⟩
    | _ => exact (show False from h1).elim⟩
/-- a is True, a is not True -/
def rdIsB : D2 := fun d e μ k => match d, e with
  | .bl a, .bl b => k (.bl (decide (a = b))) μ
  | _, _ => False
def rdIsNotB : D2 := fun d e μ k => match d, e with
  | .bl a, .bl b => k (.bl (!decide (a = b))) μ
  | _, _ => False
theorem opd_isB : OpD X (compareOp .Is) rdIsB := ⟨_, op_is_bl, fun F H μ x y d e k Q R Dx Dy h Cn => by
  cases d with
  | bl a =>
    cases e with
    | bl b => cases Dx; cases Dy; exact ⟨a, b, rfl, rfl, Cn _ _ F _ _ h .refl R (.bl _)⟩
    | _ => exact (show False from h).elim
  | _ => exact (show False from h).elim⟩
theorem opd_isNotB : OpD X (compareOp .IsNot) rdIsNotB := ⟨_, op_isnot_bl, fun F H μ x y d e k Q R Dx Dy h Cn => by
  cases d with
  | bl a =>
    cases e with
    | bl b => cases Dx; cases Dy; exact ⟨a, b, rfl, rfl, Cn _ _ F _ _ h .refl R (.bl _)⟩
    | _ => exact (show False from h).elim
  | _ => exact (show False from h).elim⟩
end
/-- the block of a list comprehension that is the whole value of a top statement -/
def lcSc (d : Scope) : List Stmt → Nat → Scope
  | .Assign _ (.ListComp _ _ sc _) _ :: _, 0 => sc
  | _ :: l, n + 1 => lcSc d l n
  | _, _ => d
/-- its names as they are in the block -/
def reSc (outer sc : Scope) : Scope := { sc with names := sc.names.map fun (n, k) => if (k == NameKind.free && outer.kind == .function && outer.names.lookup n == some .cell) then (n, NameKind.cell) else (n, k) }
theorem lt_bits (n : Nat) : n < 2 ^ Builtin.Int.intBits (n : Int) := by
  have b := PyProof.Rows.natAbs_lt_pow_bits (n : Int)
  rw [Int.natAbs_natCast] at b
  exact b
end DL
/-! DLk: a list unpacked; sum, max, min, sorted of a list; count and index by data. -/
namespace DL
open PySem PySem.Spec L2
open PyProof.Rows hiding St
variable [anc : Anc]
section
variable {X : Cx} {pos : Pos}
theorem PG.or {tg : Expr} {t t' : TG} (h : PG X tg t) (h' : PG X tg t') : PG X tg (fun v σ H Q => t v σ H Q ∨ t' v σ H Q) :=
  ⟨fun pins s σ H v u Q I r q => q.elim (h.run pins s σ H v u Q I r) (h'.run pins s σ H v u Q I r)⟩
/-- a, b, .. = a tuple or a list -/
def dgUnp (n : Nat) (gs : DGs) : DG := fun d ρ μ k => match d with
  | .tup ds => ds.length = n ∧ gs ds ρ μ k
  | _ => ∃ ds, lsR μ d = some ds ∧ ds.length = n ∧ gs ds ρ μ k
theorem pdg_unp {es : List Expr} {j : Nat} {gs : DGs} {n : Nat} {vs : List Nat} (hc : X.calm = true) (h : PDGs X es gs vs)
    (hn : (assignEach es X.env).length = n := by rfl) (hst : (assignEach es X.env).findIdx? (·.1) = none := by rfl) : PDG X (.Tuple es j pos) (dgUnp n gs) vs :=
  PG.imp (PG.or (pg_tup hc h hn hst) (pg_unl hc h hn hst)) fun v σ H Q ⟨F, ρ, μ, d, kk, R, E, Dx, h, C⟩ => by
    have ls : (∃ ds, lsR μ d = some ds ∧ ds.length = n ∧ gs ds ρ μ kk) → gUnl X.K n (upGs X.K gs vs) v σ H Q := fun ⟨ds, q, hl, h⟩ => by
      obtain ⟨p, us, rfl, hs, hd⟩ := lsR_seq R Dx q
      exact ⟨p, us, rfl, hs, by rw [hd.length]; exact hl, F, ρ, μ, ds, kk, R, E, hd, h, C⟩
    cases d with
    | tup ds =>
      obtain ⟨hl, h⟩ := h
      cases Dx with
      | tup hs hd => exact .inl ⟨_, _, rfl, seqT_mono R.same hs, by rw [hd.length]; exact hl, F, ρ, μ, ds, kk, R, E, hd, h, C⟩
    | _ => exact .inr (ls h)
/-- of a list of ints -/
def rdSum : DCall := fun ds μ k => match ds with
  | [d] => ∃ ns : List Int, lsR μ d = some (ns.map D.int) ∧ k (.int ns.sum) μ
  | _ => False
theorem cd_sum (hc : X.calm = true) : CallD X (.builtin "sum") rdSum := ⟨_, cr_sum hc, fun F H μ xs ds k Q R Dx h C => by
  unfold rdSum at h
  split at h
  · cases Dx with
    | cons h1 h2 =>
      cases h2
      obtain ⟨ns, q, h⟩ := h
      obtain ⟨p, vs, rfl, hs, hd⟩ := lsR_seq R h1 q
      rw [hd.ofInts] at hs
      exact ⟨p, ns, rfl, hs, C _ _ F _ _ h .refl R (.int _)⟩
  · exact h.elim⟩
def rdMaxL : DCall := fun ds μ k => match ds with
  | [d] => ∃ ns : List Int, lsR μ d = some (ns.map D.int) ∧ 0 < ns.length ∧ ∀ m, m ∈ ns → (∀ y ∈ ns, y ≤ m) → k (.int m) μ
  | _ => False
theorem cd_maxL (hc : X.calm = true) : CallD X (.builtin "max") rdMaxL := ⟨_, cr_max hc, fun F H μ xs ds k Q R Dx h C => by
  unfold rdMaxL at h
  split at h
  · cases Dx with
    | cons h1 h2 =>
      cases h2
      obtain ⟨ns, q, hl, h⟩ := h
      obtain ⟨p, vs, rfl, hs, hd⟩ := lsR_seq R h1 q
      rw [hd.ofInts] at hs
      exact ⟨p, ns, rfl, hs, hl, fun m h3 h4 => C _ _ F _ _ (h m h3 h4) .refl R (.int _)⟩
  · exact h.elim⟩
def rdMinL : DCall := fun ds μ k => match ds with
  | [d] => ∃ ns : List Int, lsR μ d = some (ns.map D.int) ∧ 0 < ns.length ∧ ∀ m, m ∈ ns → (∀ y ∈ ns, m ≤ y) → k (.int m) μ
  | _ => False
theorem cd_minL (hc : X.calm = true) : CallD X (.builtin "min") rdMinL := ⟨_, cr_min hc, fun F H μ xs ds k Q R Dx h C => by
  unfold rdMinL at h
  split at h
  · cases Dx with
    | cons h1 h2 =>
      cases h2
      obtain ⟨ns, q, hl, h⟩ := h
      obtain ⟨p, vs, rfl, hs, hd⟩ := lsR_seq R h1 q
      rw [hd.ofInts] at hs
      exact ⟨p, ns, rfl, hs, hl, fun m h3 h4 => C _ _ F _ _ (h m h3 h4) .refl R (.int _)⟩
  · exact h.elim⟩
def rdSortI (m : Bool) : DCall := fun ds μ k => match ds with
  | [d] => ∃ ns : List Int, lsR μ d = some (ns.map D.int) ∧ ∀ ns' : List Int, ns'.Perm ns → ns'.Pairwise (· ≤ ·) → mk m (ns'.map D.int) μ k
  | _ => False
theorem cd_sortI (m : Bool) : CallD X (.builtin "sorted") (rdSortI m) := ⟨_, cr_sortedI, fun F H μ xs ds k Q R Dx h C => by
  unfold rdSortI at h
  split at h
  · cases Dx with
    | cons h1 h2 =>
      cases h2
      obtain ⟨ns, q, h⟩ := h
      obtain ⟨p, vs, rfl, hs, hd⟩ := lsR_seq R h1 q
      rw [hd.ofInts] at hs
      exact ⟨p, ns, rfl, hs, fun ns' p h3 h4 n => mk_ok R (DenL.ints ns') (h ns' h3 h4) C n⟩
  · exact h.elim⟩
/-- l.count(x) by data -/
def rCountD (K : PySem.W.Frag) : V → List V → Hp → VK → Prop := fun x xs H Q => ∃ (a : Addr) (y : V) (d : PyData) (ds : List PyData), x = V.ref a ∧ xs = [y] ∧ Dp K H (V.ref a) (.list ds) ∧ Dp K H y d ∧
  SeqAt.shaped (.list ds) = true ∧ SeqAt.shaped d = true ∧ Q (.int ((ds.countP fun z => PyData.eqv z d : Nat) : Int)) H
theorem mt_countD (hu : X.A.units + 65 < cLine) : MtR X "list.count" (rCountD X.K) := by
  intro pins s σ H x xs v us Q I rx rxs h
  obtain ⟨a, y, d, ds, rfl, rfl, hl, hy, sl, sd, q⟩ := h
  cases rx
  cases rxs with
  | cons ry rt =>
    rename_i uy ut
    cases rt
    obtain ⟨bs, r1⟩ := Dp.reads I d y uy hy ry
    have hxs : PyData.canLayAll0 ds = true := SeqAt.canLay_of_shaped sl
    have hroom : X.A.units + 1 + min (PyData.depthAll ds) d.depth < cLine := room_in_shaped sd hu
    cases hl with
    | lst hs ha =>
      obtain ⟨its, rv, ⟨⟨cls, dd, data, sls⟩, n, ho, hc, hdn, hdt⟩, hlen⟩ := I.list hs
      simp only at hc hdt
      subst hc hdt
      obtain ⟨as, h4⟩ := Dp.readsAll I ds _ its ha rv
      have hmap : its.map (SeqAt.readOf s.heap) = ds := SeqAt.readsAll_map ds its as hxs h4
      refine call_meets PySem.F.slot_list_count ⟨_, ho, rfl⟩ PySem.F.entry_list_count (PySem.F.args_list_count_2 _ _)
        (SeqAt.list_countAt a its.toArray n dd sls uy (fun u => PyData.eqv (SeqAt.readOf s.heap u) d)) ⟨ho, SeqAt.items_eqAt (vs := its.toArray) (show ReadsAll s.heap its.toArray.toList ds as from h4) r1 hxs (SeqAt.canLay_of_shaped sd) hroom, ?_⟩
      have ec : its.toArray.toList.countP (fun u => PyData.eqv (SeqAt.readOf s.heap u) d) = ds.countP fun z => PyData.eqv z d := by
        rw [← hmap, List.countP_map]; rfl
      refine ⟨.int ((ds.countP fun z => PyData.eqv z d : Nat) : Int), H, I.tok _, ⟨s.toks, ?_⟩, q⟩
      show Value.int ((its.toArray.toList.countP (fun u => PyData.eqv (SeqAt.readOf s.heap u) d) : Nat) : Int) s.toks = Value.int ((ds.countP fun z => PyData.eqv z d : Nat) : Int) s.toks
      rw [ec]
def cntD (d : D) (ds : List D) : Nat := ds.countP fun z => eqD z d
theorem pys_count (d : D) : ∀ ds : List D, ((D.pys ds).countP fun z => PyData.eqv z d.py) = cntD d ds
  | [] => rfl
  | e :: ds => by
    show (e.py :: D.pys ds).countP _ = _
    unfold cntD
    rw [List.countP_cons, List.countP_cons, pys_count d ds]
    rfl
def rdCount : DMt := fun d ds μ k => match ds with
  | [e] => ∃ xs, lsR μ d = some xs ∧ okD (der μ e) ∧ okD (.lst xs) ∧ k (.int ((cntD (der μ e) xs : Nat) : Int)) μ
  | _ => False
theorem lst_dp {K : PySem.W.Frag} {F H : Hp} {μ : Mu} {p : Addr} {vs : List V} {xs : List D} (R : RepM K F H μ) (hs : SqL K H p vs) (hd : DenL K F vs xs) (ok : okD (.lst xs)) : Dp K H (.ref p) (.list (D.pys xs)) :=
  .lst hs (DenL.dp R.same (by have := ok.1; simpa [D.pure] using this) hd)
theorem md_count (hu : X.A.units + 65 < cLine) : MtD X "list.count" rdCount := ⟨_, mt_countD hu, fun F H μ x d xs ds k Q R Dx Ds h C => by
  unfold rdCount at h
  split at h
  · rename_i e
    obtain ⟨ys, q, o1, o2, h⟩ := h
    obtain ⟨p, vs, rfl, hs, hd⟩ := lsR_seq R Dx q
    cases Ds with
    | cons h1 h2 =>
      cases h2
      refine ⟨p, _, _, _, rfl, rfl, lst_dp R hs hd o2, der_dp R h1 o1.1, o2.2, o1.2, ?_⟩
      rw [pys_count]
      exact C _ _ F _ _ h .refl R (.int _)
  · exact h.elim⟩
theorem pys_get : ∀ (ds : List D) (j : Nat), (D.pys ds)[j]? = (ds[j]?).map D.py
  | [], j => by simp [D.pys]
  | d :: ds, 0 => by simp [D.pys]
  | d :: ds, j + 1 => by simp [D.pys, pys_get ds j]
/-- l.index(x) by data: the first equal one -/
def rdIndex : DMt := fun d ds μ k => match ds with
  | [e] => ∃ xs, lsR μ d = some xs ∧ okD (der μ e) ∧ okD (.lst xs) ∧ ∃ (j : Nat) (z : D), xs[j]? = some z ∧ eqD z (der μ e) = true ∧ (∀ (m : Nat) (z' : D), m < j → xs[m]? = some z' → eqD z' (der μ e) = false) ∧ k (.int (j : Int)) μ
  | _ => False
theorem md_index (hu : X.A.units + 65 < cLine) : MtD X "list.index" rdIndex := ⟨_, mt_indexD hu, fun F H μ x d xs ds k Q R Dx Ds h C => by
  unfold rdIndex at h
  split at h
  · rename_i e
    obtain ⟨ys, q, o1, o2, j, z, hz, hzj, hno, h⟩ := h
    obtain ⟨p, vs, rfl, hs, hd⟩ := lsR_seq R Dx q
    cases Ds with
    | cons h1 h2 =>
      cases h2
      refine ⟨p, _, _, _, j, z.py, rfl, rfl, lst_dp R hs hd o2, der_dp R h1 o1.1, o2.2, o1.2, by rw [pys_get, hz]; rfl, hzj, fun m z' hm hz' => ?_, C _ _ F _ _ h .refl R (.int _)⟩
      rw [pys_get] at hz'
      cases e2 : ys[m]? with
      | none => rw [e2] at hz'; cases hz'
      | some y =>
        rw [e2] at hz'
        cases hz'
        exact hno m y hm e2
  · exact h.elim⟩
end
end DL
/-! DLl: constants of the module. -/
namespace DL
open PySem PySem.Spec L2
open PyProof.Rows hiding St
variable [anc : Anc]
section
variable {X : Cx} {pos : Pos}
theorem pd_globC {x : Str} {i : Int} (hg : Gl X x) (hm : ∃ t : Tok, X.mg x = some (.int i t)) (hd : (x == ("__debug__" : Str)) = false := by decide) : PD X (.Name x pos) (dC (.int i)) :=
  let ⟨t, h⟩ := hm
  pd_globI hg h ⟨t, rfl⟩ hd
theorem pd_globS {x : Str} {z : Str} (hg : Gl X x) (hm : ∃ t : Tok, X.mg x = some (.str z t)) (hd : (x == ("__debug__" : Str)) = false := by decide) : PD X (.Name x pos) (dC (.str z)) :=
  let ⟨t, h⟩ := hm
  pd_globD (v := .str z) hg h ⟨t, rfl⟩ (fun _ => .str z) hd
end
end DL
/-! DLm: objects of the program's own classes: fields, methods, making. -/
namespace DL
open PySem PySem.Spec L2
open PyProof.Rows hiding St
def putFD (f : Str) (v : D) : List (Str × D) → List (Str × D)
  | [] => [(f, v)]
  | (g, x) :: r => if g = f then (g, v) :: r else (g, x) :: putFD f v r
theorem put_nil {f : Str} {v : D} : putFD f v [] = [(f, v)] := rfl
theorem put_eq {f : Str} {v x : D} {r : List (Str × D)} : putFD f v ((f, x) :: r) = (f, v) :: r := by unfold putFD; rw [if_pos rfl]
theorem put_ne {f g : Str} {v x : D} {r : List (Str × D)} (h : g ≠ f) : putFD f v ((g, x) :: r) = (g, x) :: putFD f v r := by
  show (if g = f then (g, v) :: r else (g, x) :: putFD f v r) = _
  rw [if_neg h]
theorem lk_eq {f : Str} {x : D} {r : List (Str × D)} : ((f, x) :: r).lookup f = some x := by simp
theorem lk_ne {f g : Str} {x : D} {r : List (Str × D)} (h : g ≠ f) : ((g, x) :: r).lookup f = r.lookup f := by
  have : (f == g) = false := beq_eq_false_iff_ne.mpr h.symm
  simp [List.lookup, this]
theorem lk_nil {f : Str} : ([] : List (Str × D)).lookup f = none := rfl
theorem len_putFD (f : Str) (v : D) : ∀ fs : List (Str × D), (putFD f v fs).length ≤ fs.length + 1
  | [] => Nat.le_refl _
  | (g, x) :: r => by
    unfold putFD
    split
    · simp
    · have := len_putFD f v r
      simp only [List.length_cons]
      omega
abbrev FP (K : PySem.W.Frag) (F : Hp) : List (Str × V) → List (Str × D) → Prop := Paired (fun (p : Str × V) (q : Str × D) => p.1 = q.1 ∧ Den K F p.2 q.2)
section
variable {K : PySem.W.Frag} {F : Hp}
theorem FP.lookup : ∀ {vs : List (Str × V)} {fs : List (Str × D)} {f : Str}, FP K F vs fs → ∀ {d : D}, fs.lookup f = some d → ∃ v, vs.lookup f = some v ∧ Den K F v d
  | _, _, _, .nil, _, e => by cases e
  | _, _, f, .cons (a := a) (b := b) ⟨h1, h2⟩ t, d, e => by
    obtain ⟨ga, va⟩ := a
    obtain ⟨gb, db⟩ := b
    simp only at h1 h2
    subst h1
    by_cases c : ga = f
    · subst c
      rw [lk_eq] at e
      cases e
      exact ⟨va, by simp, h2⟩
    · rw [lk_ne c] at e
      obtain ⟨v, h3, h4⟩ := FP.lookup t e
      have : (f == ga) = false := beq_eq_false_iff_ne.mpr fun z => c z.symm
      exact ⟨v, by simp [List.lookup, this, h3], h4⟩
theorem FP.none : ∀ {vs : List (Str × V)} {fs : List (Str × D)} {f : Str}, FP K F vs fs → fs.lookup f = none → vs.lookup f = none
  | _, _, _, .nil, _ => rfl
  | _, _, f, .cons (a := a) (b := b) ⟨h1, h2⟩ t, e => by
    obtain ⟨ga, va⟩ := a
    obtain ⟨gb, db⟩ := b
    simp only at h1 h2
    subst h1
    by_cases c : ga = f
    · subst c
      rw [lk_eq] at e
      cases e
    · rw [lk_ne c] at e
      have : (f == ga) = false := beq_eq_false_iff_ne.mpr fun z => c z.symm
      simp [List.lookup, this, FP.none t e]
theorem FP.put {f : Str} {v : V} {d : D} (r : Den K F v d) : ∀ {vs : List (Str × V)} {fs : List (Str × D)}, FP K F vs fs → FP K F (putF f v vs) (putFD f d fs)
  | _, _, .nil => .cons ⟨rfl, r⟩ .nil
  | _, _, .cons (a := a) (b := b) ⟨h1, h2⟩ t => by
    obtain ⟨ga, va⟩ := a
    obtain ⟨gb, db⟩ := b
    simp only at h1 h2
    subst h1
    unfold putF putFD
    by_cases c : ga = f
    · rw [if_pos c, if_pos c]; exact .cons ⟨rfl, r⟩ t
    · rw [if_neg c, if_neg c]; exact .cons ⟨rfl, h2⟩ (FP.put r t)
theorem FP.length : ∀ {vs : List (Str × V)} {fs : List (Str × D)}, FP K F vs fs → vs.length = fs.length
  | _, _, .nil => rfl
  | _, _, .cons _ t => congrArg (· + 1) (FP.length t)
theorem obj_lookup : ∀ {fs : List (Str × V)} {ds : List D} {f : Str} {d : D}, DenL K F (fs.map (·.2)) ds → ((fs.map (·.1)).zip ds).lookup f = some d → ∃ v, fs.lookup f = some v ∧ Den K F v d
  | [], _, _, _, _, e => by simp at e
  | (g, v) :: fs, _, f, d, .cons h t, e => by
    simp only [List.map_cons, List.zip_cons_cons] at e
    by_cases c : g = f
    · subst c
      rw [lk_eq] at e
      cases e
      exact ⟨v, by simp, h⟩
    · rw [lk_ne c] at e
      obtain ⟨u, h3, h4⟩ := obj_lookup t e
      have : (f == g) = false := beq_eq_false_iff_ne.mpr fun z => c z.symm
      exact ⟨u, by simp [List.lookup, this, h3], h4⟩
end
/-- an object that may change -/
def onI (d : D) (μ : Mu) (f : Addr → Addr → List (Str × D) → Prop) : Prop := match d with
  | .ref a => (match μ a with
    | some (.ins C fs) => f a C fs
    | _ => False)
  | _ => False
theorem onI_ok [anc : Anc] {K : PySem.W.Frag} {F H : Hp} {μ : Mu} {d : D} {v : V} {f : Addr → Addr → List (Str × D) → Prop} (R : RepM K F H μ) (h : Den K F v d) (q : onI d μ f) :
    ∃ a C fs dx vs, v = .ref a ∧ d = .ref a ∧ μ a = some (.ins C fs) ∧ F a = none ∧ H a = some (.ins C dx vs) ∧ FP K F vs fs ∧ f a C fs := by
  unfold onI at q
  split at q
  · rename_i a
    split at q
    · rename_i C fs e
      cases h
      obtain ⟨n, dx, vs, hH, hp⟩ := R.mu a _ e
      exact ⟨a, C, fs, dx, vs, rfl, rfl, e, n, hH, hp, q⟩
    · exact q.elim
  · exact q.elim
section
variable [anc : Anc]
variable {X : Cx} {o e value : Expr} {es : List Expr} {f m : Str} {pos pos' tpos apos : Pos} {da dv : DE} {dr : DA} {Cs : List Addr}
/-- the classes that have a field, and none of whose own has its name -/
def FldOk (K : PySem.W.Frag) (Cs : List Addr) (f : Str) : Prop := ∀ C ∈ Cs, Cls K C ∧ NoAttr K C f
theorem FldOk.nil {K : PySem.W.Frag} {f : Str} : FldOk K [] f := fun _ h => nomatch h
theorem FldOk.cons {K : PySem.W.Frag} {C : Addr} {Cs : List Addr} {f : Str} (c : Cls K C) (n : NoAttr K C f) (t : FldOk K Cs f) : FldOk K (C :: Cs) f := fun D h => by
  rcases List.mem_cons.mp h with rfl | h
  · exact ⟨c, n⟩
  · exact t D h
def dFld (Cs : List Addr) (f : Str) (da : DE) : DE := fun ρ μ k => da ρ μ fun d μ1 => match d with
  | .obj C ns ds => C ∈ Cs ∧ ∃ v, (ns.zip ds).lookup f = some v ∧ k v μ1
  | _ => onI d μ1 fun _ C fs => C ∈ Cs ∧ ∃ v, fs.lookup f = some v ∧ k v μ1
theorem pd_fld (hf : FldOk X.K Cs f) (he : PD X e da) (hb : attributeBase e f X.env (eval e X.env) = eval e X.env := by rfl) : PD X (.Attribute e f pos) (dFld Cs f da) :=
  PE.imp (pe_fld he hb) fun σ H Q ⟨F, ρ, μ, k, R, E, h, C⟩ => ⟨F, ρ, μ, _, R, E, h, fun d μ1 F1 v H1 h1 s1 R1 D1 => by
    have ls : (onI d μ1 fun _ C fs => C ∈ Cs ∧ ∃ v, fs.lookup f = some v ∧ k v μ1) → ∃ a C dx fs u, v = .ref a ∧ H1 a = some (.ins C dx fs) ∧ Cls X.K C ∧ NoAttr X.K C f ∧ fs.lookup f = some u ∧ Q u H1 := fun q => by
      obtain ⟨a, C0, fs, dx, vs, rfl, _, _, _, hH, hp, hc, d2, hl, hk⟩ := onI_ok R1 D1 q
      obtain ⟨u, hu, du⟩ := hp.lookup hl
      exact ⟨a, C0, dx, vs, u, rfl, hH, (hf C0 hc).1, (hf C0 hc).2, hu, C _ _ F1 _ _ hk s1 R1 du⟩
    cases d with
    | obj C0 ns ds =>
      obtain ⟨hc, d2, hl, hk⟩ := h1
      cases D1 with
      | obj hs hd =>
        obtain ⟨u, hu, du⟩ := obj_lookup hd hl
        exact ⟨_, C0, _, _, u, rfl, R1.same _ _ hs, (hf C0 hc).1, (hf C0 hc).2, hu, C _ _ F1 _ _ hk s1 R1 du⟩
    | _ => exact ls h1⟩
/-- o.f = value -/
def dFSet (Cs : List Addr) (f : Str) (da dv : DE) : DS := fun De ρ μ => dv ρ μ fun v μ1 => da ρ μ1 fun d μ2 => onI d μ2 fun a C fs => C ∈ Cs ∧ fs.length < 1000 ∧ De.nx ρ (mset μ2 a (.ins C (putFD f v fs)))
theorem pds_fset (hf : FldOk X.K Cs f) (ho : PD X o da) (hv : PD X value dv) (hs : swapsWith value (some (.Attribute o f pos')) pos.line X.env = pure false := by rfl) : PDS X (.Assign [.Attribute o f pos'] value pos) (dFSet Cs f da dv) :=
  PS.imp (ps_fld ho hv hs) fun E σ H ⟨F, ρ, μ, d, R, En, h, C⟩ => ⟨F, ρ, μ, _, R, En, h, fun v μ1 F1 u H1 h1 s1 R1 D1 => ⟨F1, ρ, μ1, _, R1, En.ext s1, h1, fun d2 μ2 F2 w H2 h2 s2 R2 D2 => by
    obtain ⟨a, C0, fs, dx, vs, rfl, _, ea, n, hH, hp, hc, hl, hn⟩ := onI_ok R2 D2 h2
    refine ⟨a, C0, dx, vs, rfl, hH, (hf C0 hc).1, (hf C0 hc).2, by rw [hp.length]; exact hl, ?_⟩
    have s3 : Ext F2 H2 μ2 F2 (upd H2 a (.ins C0 dx (putF f u vs))) (mset μ2 a (.ins C0 (putFD f v fs))) := .put ea
    exact C.nx _ _ F2 _ _ hn ((s1.trans s2).trans s3) (R2.store n ⟨dx, _, upd_same, hp.put (D1.ext s2)⟩ s3) (((En.ext s1).ext s2).ext s3)⟩⟩
/-- o.f += value, ints -/
def dFAug (Cs : List Addr) (op : Operator) (f : Str) (da dv : DE) : DS := fun De ρ μ => da ρ μ fun d μ1 => onI d μ1 fun a C fs => C ∈ Cs ∧ ∃ x, fs.lookup f = some x ∧ dv ρ μ1 fun y μ2 => rdAug op x y μ2 fun z μ3 =>
  (match μ3 a with
    | some (.ins C' fs') => C' = C ∧ fs'.length < 1000 ∧ De.nx ρ (mset μ3 a (.ins C (putFD f z fs')))
    | _ => False)
theorem pds_faug {op : Operator} (hf : FldOk X.K Cs f) (ho : PD X o da) (hv : PD X value dv) (hop : op = .Add ∨ op = .Sub := by first | exact .inl rfl | exact .inr rfl) : PDS X (.AugAssign (.Attribute o f tpos) op value pos) (dFAug Cs op f da dv) := by
  have core : ∀ (g : Int → Int → Int) (rd : V → V → Hp → VK → Prop), (∀ x y H Q i j, x = .int i → y = .int j → Q (.int (g i j)) H → rd x y H Q) → (∀ x y μ k, rdAug op x y μ k → ∃ i j, x = .int i ∧ y = .int j ∧ k (.int (g i j)) μ) → ∀ E σ H, upS X.K (dFAug Cs op f da dv) E σ H → sFldAug X.K (up X.K da) (up X.K dv) rd f E σ H :=
    fun g rd hrd hrx E σ H ⟨F, ρ, μ, d, R, En, h, C⟩ => ⟨F, ρ, μ, _, R, En, h, fun d2 μ1 F1 w H1 h1 s1 R1 D1 => by
      obtain ⟨a, C0, fs, dx, vs, rfl, _, ea, n, hH, hp, hc, x, hl, hn⟩ := onI_ok R1 D1 h1
      obtain ⟨u, hu, du⟩ := hp.lookup hl
      refine ⟨a, C0, dx, vs, u, rfl, hH, (hf C0 hc).1, (hf C0 hc).2, hu, F1, ρ, μ1, _, R1, En.ext s1, hn, fun y μ2 F2 v H2 h2 s2 R2 D2 => ?_⟩
      obtain ⟨i, j, rfl, rfl, h3⟩ := hrx _ _ _ _ h2
      clear h2
      cases du
      cases D2
      refine hrd _ _ _ _ i j rfl rfl ?_
      revert h3
      cases e3 : μ2 a with
      | none => intro z; exact z.elim
      | some ob =>
        cases ob with
        | ins C' fs' =>
          rintro ⟨rfl, hl', hx⟩
          obtain ⟨n2, dx', vs', hH', hp'⟩ := R2.mu a _ e3
          have s3 : Ext F2 H2 μ2 F2 (upd H2 a (.ins C' dx' (putF f (.int (g i j)) vs'))) (mset μ2 a (.ins C' (putFD f (.int (g i j)) fs'))) := .put e3
          exact ⟨dx', vs', hH', by rw [FP.length hp']; exact hl', C.nx _ _ F2 _ _ hx ((s1.trans s2).trans s3) (R2.store n2 ⟨dx', _, upd_same, FP.put (.int _) hp'⟩ s3) (((En.ext s1).ext s2).ext s3)⟩
        | _ => intro z; exact z.elim⟩
  rcases hop with rfl | rfl
  · exact PS.imp (ps_fldaug ho hv in_add) fun E σ H h => core (fun i j => i + j) _ (fun x y H Q i j e1 e2 q => ⟨i, j, e1, e2, q⟩) (fun x y μ k q => by
      cases x <;> first | exact (show False from q).elim | (cases y <;> first | exact (show False from q).elim | exact ⟨_, _, rfl, rfl, q⟩)) E σ H h
  · exact PS.imp (ps_fldaug ho hv in_sub) fun E σ H h => core (fun i j => i - j) _ (fun x y H Q i j e1 e2 q => ⟨i, j, e1, e2, q⟩) (fun x y μ k q => by
      cases x <;> first | exact (show False from q).elim | (cases y <;> first | exact (show False from q).elim | exact ⟨_, _, rfl, rfl, q⟩)) E σ H h
end
/-! ### methods -/
structure DMeth (P : Program) (w : World) (K : PySem.W.Frag) (mg : Str → Option Value) (base : Heap) (C : Addr) (m : Str) (k n : Nat) (dsp : DCall) : Prop where
  ex : ∃ f fd ps, ps.length = n ∧ FnOk P w K mg base CX0 k f fd ps (liftSp K n dsp) ∧ Meth K C m f ∧ Cls K C ∧ Binds K fd ps []
structure DInit (P : Program) (w : World) (K : PySem.W.Frag) (mg : Str → Option Value) (base : Heap) (C : Addr) (k n : Nat) (dsp : DCall) : Prop where
  ex : ∃ f fd ps, ps.length = n ∧ FnOk P w K mg base CX0 k f fd ps (liftSp K n dsp) ∧ Mk K C f ∧ Binds K fd ps []
section
variable {P : Program} {w : World} {K : PySem.W.Frag} {mg : Str → Option Value} {base : Heap}
theorem DMeth.mono {C : Addr} {m : Str} {j k n : Nat} {dsp : DCall} (h : DMeth P w K mg base C m j n dsp) (l : j ≤ k) : DMeth P w K mg base C m k n dsp := by
  obtain ⟨f, fd, ps, h1, h2, h3⟩ := h.ex
  exact ⟨f, fd, ps, h1, h2.mono l, h3⟩
theorem DInit.mono {C : Addr} {j k n : Nat} {dsp : DCall} (h : DInit P w K mg base C j n dsp) (l : j ≤ k) : DInit P w K mg base C k n dsp := by
  obtain ⟨f, fd, ps, h1, h2, h3⟩ := h.ex
  exact ⟨f, fd, ps, h1, h2.mono l, h3⟩
end
section
variable [anc : Anc]
variable {X : Cx} {x m : Str} {p pos apos : Pos} {e o : Expr} {es : List Expr} {da : DA} {dq : DE} {k n : Nat} {dsp : DCall} {C : Addr}
/-- an object of just this class -/
def isI (C : Addr) (m : Str) (d : D) (μ : Mu) : Prop := match d with
  | .obj C' ns ds => C' = C ∧ (ns.zip ds).lookup m = none ∧ ns.length = ds.length
  | _ => onI d μ fun _ C' fs => C' = C ∧ fs.lookup m = none
theorem obj_none {K : PySem.W.Frag} {F : Hp} : ∀ {fs : List (Str × V)} {ds : List D} {f : Str}, DenL K F (fs.map (·.2)) ds → ((fs.map (·.1)).zip ds).lookup f = none → fs.lookup f = none
  | [], _, _, _, _ => rfl
  | (g, v) :: fs, _, f, .cons h t, e => by
    simp only [List.map_cons, List.zip_cons_cons] at e
    by_cases c : g = f
    · subst c
      rw [lk_eq] at e
      cases e
    · rw [lk_ne c] at e
      have : (f == g) = false := beq_eq_false_iff_ne.mpr fun z => c z.symm
      simp [List.lookup, this, obj_none t e]
theorem isI_ok {K : PySem.W.Frag} {F H : Hp} {μ : Mu} {d : D} {v : V} (R : RepM K F H μ) (h : Den K F v d) (q : isI C m d μ) : ∃ a dx fs, v = .ref a ∧ H a = some (.ins C dx fs) ∧ fs.lookup m = none := by
  have ls : (onI d μ fun _ C' fs => C' = C ∧ fs.lookup m = none) → ∃ a dx fs, v = .ref a ∧ H a = some (.ins C dx fs) ∧ fs.lookup m = none := fun q => by
    obtain ⟨a, C0, fs, dx, vs, rfl, _, _, _, hH, hp, rfl, hl⟩ := onI_ok R h q
    exact ⟨a, dx, vs, rfl, hH, hp.none hl⟩
  cases d with
  | obj C0 ns ds =>
    obtain ⟨rfl, hl, _⟩ := q
    cases h with
    | obj hs hd => exact ⟨_, _, _, rfl, R.same _ _ hs, obj_none hd hl⟩
  | _ => exact ls q
def dMeth (C : Addr) (m : Str) (n : Nat) (dsp : DCall) (dq : DE) (da : DA) : DE := fun ρ μ k => dq ρ μ fun d μ1 => isI C m d μ1 ∧ da ρ μ1 fun ds μ2 => ds.length + 1 = n ∧ dsp (d :: ds) μ2 k
theorem pd_meth {pl : Sem Bool} (D : DMeth X.prog X.w X.K X.mg X.base C m k n dsp) (hr : Room k X.A) (hx : Passes CX0 X E0) (ho : PD X o dq) (ha : PDA X (e :: es) da)
    (hst : starEach (e :: es) X.env = (false, eval e X.env) :: starEach es X.env := by rfl) (hpl : (backTo pos (starEach es X.env)).any (·.1) = false := by rfl)
    (ht : eval (.Call (.Attribute o m apos) (e :: es) [] pos) X.env = (do
      let ov ← eval o X.env
      standAt apos.atName
      let (f, first) ← holding [ov] (getMethod ov m pl)
      callWith pos f first (backTo pos (starEach (e :: es) X.env)) (backToKw pos (keywordEach [] X.env))) := by rfl) : PD X (.Call (.Attribute o m apos) (e :: es) [] pos) (dMeth C m n dsp dq da) := by
  obtain ⟨f, fd, ps, h1, h2, h3, h4, h5⟩ := D.ex
  refine PE.imp (pe_meth (pl := pl) ho h4 h3 h2 hr h5 .nil hx ha hst hpl ht) fun σ H Q ⟨F, ρ, μ, k, R, E, h, Cn⟩ => ⟨F, ρ, μ, _, R, E, h, fun d μ1 F1 v H1 ⟨hI, h6⟩ s1 R1 D1 => ?_⟩
  obtain ⟨a, dx, fs, rfl, hH, hl⟩ := isI_ok R1 D1 hI
  refine ⟨a, dx, fs, rfl, hH, hl, F1, ρ, μ1, _, R1, E.ext s1, h6, fun ds μ2 F2 vs H2 ⟨h7, h8⟩ s2 R2 D2 => ?_⟩
  show liftSp X.K n dsp (V.ref a :: (vs ++ [])) H2 Q E0
  rw [List.append_nil]
  exact ⟨F2, d :: ds, μ2, k, R2.bare, .cons (D1.ext s2) D2, h7, h8, (Cn.mono (s1.trans s2)).bare R2⟩
def dMeth0 (C : Addr) (m : Str) (dsp : DCall) (dq : DE) : DE := fun ρ μ k => dq ρ μ fun d μ1 => isI C m d μ1 ∧ dsp [d] μ1 k
theorem pd_meth0 {pl : Sem Bool} (D : DMeth X.prog X.w X.K X.mg X.base C m k 1 dsp) (hr : Room k X.A) (hx : Passes CX0 X E0) (ho : PD X o dq)
    (ht : eval (.Call (.Attribute o m apos) [] [] pos) X.env = (do
      let ov ← eval o X.env
      standAt apos.atName
      let (f, first) ← holding [ov] (getMethod ov m pl)
      callWith pos f first (backTo pos (starEach [] X.env)) (backToKw pos (keywordEach [] X.env))) := by rfl) : PD X (.Call (.Attribute o m apos) [] [] pos) (dMeth0 C m dsp dq) := by
  obtain ⟨f, fd, ps, h1, h2, h3, h4, h5⟩ := D.ex
  refine PE.imp (pe_meth0 (pl := pl) ho h4 h3 h2 hr h5 .nil hx ht) fun σ H Q ⟨F, ρ, μ, k, R, E, h, Cn⟩ => ⟨F, ρ, μ, _, R, E, h, fun d μ1 F1 v H1 ⟨hI, h6⟩ s1 R1 D1 => ?_⟩
  obtain ⟨a, dx, fs, rfl, hH, hl⟩ := isI_ok R1 D1 hI
  refine ⟨a, dx, fs, rfl, hH, hl, ?_⟩
  show liftSp X.K 1 dsp (V.ref a :: ([] ++ [])) H1 Q E0
  exact ⟨F1, [d], μ1, k, R1.bare, .cons D1 .nil, rfl, h6, (Cn.mono s1).bare R1⟩
/-- C(..) -/
def dMakeK (C : Addr) (dsp : DCall) (ds : List D) (μ : Mu) (k : KD) : Prop := ∀ a, μ a = none → dsp (.ref a :: ds) (mset μ a (.ins C [])) fun d μ2 => d = .non ∧ k (.ref a) μ2
def dMake (C : Addr) (n : Nat) (dsp : DCall) (da : DA) : DE := fun ρ μ k => da ρ μ fun ds μ1 => ds.length + 1 = n ∧ dMakeK C dsp ds μ1 k
theorem make_ok {K : PySem.W.Frag} {F H : Hp} {μ : Mu} {ds : List D} {vs : List V} {k : KD} {Q : VK} (R : RepM K F H μ) (Dv : DenL K F vs ds) (hn : ds.length + 1 = n) (h : dMakeK C dsp ds μ k) (Cn : Cont K F H μ k Q) :
    ∀ x dx, H x = none → H dx = none → dx ≠ x → liftSp K n dsp (.ref x :: (vs ++ [])) (upd (upd H dx (.own x)) x (.ins C dx [])) (fun v H2 => v = .non ∧ Q (.ref x) H2) E0 := fun x dx hx hdx hne => by
  rw [List.append_nil]
  have R1 := R.dropped hdx (.own x)
  have hx1 : upd H dx (.own x) x = none := by rw [upd_ne hne.symm]; exact hx
  have s1 : Ext F H μ F (upd H dx (.own x)) μ := .drop hdx
  have s2 : Ext F (upd H dx (.own x)) μ F (upd (upd H dx (.own x)) x (.ins C dx [])) (mset μ x (.ins C [])) := .new hx1
  refine ⟨F, .ref x :: ds, mset μ x (.ins C []), _, (R1.store (o := .ins C []) (u := .ins C dx []) (R1.freshF hx1) ⟨dx, [], upd_same, .nil⟩ s2).bare, .cons (.ref x) Dv, hn, h x (R.fresh hx), fun d μ2 F2 v H2 ⟨e, hk⟩ s3 R2 D2 => ?_⟩
  subst e
  cases D2
  exact ⟨rfl, Cn _ _ F2 _ _ hk ((s1.trans s2).trans s3) (RepM.over R2 (R.an.step ((s1.trans s2).trans s3))) (.ref x)⟩
theorem pd_make (D : DInit X.prog X.w X.K X.mg X.base C k n dsp) (hr : Room (k + 1) X.A) (hx : Passes CX0 X E0) (hm : X.mg x = some (.ref C)) (ha : PDA X (e :: es) da) (hg : Gl X x := by rfl) (hdb : (x == ("__debug__" : Str)) = false := by decide)
    (he : starEach (e :: es) X.env = (false, eval e X.env) :: starEach es X.env := by rfl) (hpl : (backTo pos (starEach es X.env)).any (·.1) = false := by rfl) : PD X (.Call (.Name x p) (e :: es) [] pos) (dMake C n dsp da) := by
  obtain ⟨f, fd, ps, h1, h2, h3, h4⟩ := D.ex
  exact PE.imp (pe_make h3 h2 hr hg hm h4 .nil hx ha hdb he hpl) fun σ H Q ⟨F, ρ, μ, k, R, E, h, Cn⟩ => ⟨F, ρ, μ, _, R, E, h, fun ds μ1 F1 vs H1 ⟨h5, h6⟩ s1 R1 D1 => make_ok R1 D1 h5 h6 (Cn.mono s1)⟩
theorem pd_make0 (D : DInit X.prog X.w X.K X.mg X.base C k 1 dsp) (hr : Room (k + 1) X.A) (hx : Passes CX0 X E0) (hm : X.mg x = some (.ref C)) (hg : Gl X x := by rfl) (hdb : (x == ("__debug__" : Str)) = false := by decide) : PD X (.Call (.Name x p) [] [] pos) (dMake C 1 dsp dNil) := by
  obtain ⟨f, fd, ps, h1, h2, h3, h4⟩ := D.ex
  exact PE.imp (pe_make0 h3 h2 hr hg hm h4 .nil hx hdb) fun σ H Q ⟨F, ρ, μ, k, R, E, ⟨h5, h6⟩, Cn⟩ => make_ok (vs := []) R .nil h5 h6 Cn
end
/-- an object that is changed no more -/
def frzO (d : D) (μ : Mu) (k : KD) : Prop := onI d μ fun a C fs => k (.obj C (fs.map (·.1)) (fs.map (·.2))) (mdel μ a)
theorem FP.den {K : PySem.W.Frag} {F : Hp} : ∀ {vs : List (Str × V)} {fs : List (Str × D)}, FP K F vs fs → vs.map (·.1) = fs.map (·.1) ∧ DenL K F (vs.map (·.2)) (fs.map (·.2))
  | _, _, .nil => ⟨rfl, .nil⟩
  | _, _, .cons ⟨h1, h2⟩ t => ⟨by rw [List.map_cons, List.map_cons, h1, (FP.den t).1], .cons h2 (FP.den t).2⟩
theorem RepM.freezeO [anc : Anc] {K : PySem.W.Frag} {F H : Hp} {μ : Mu} {a C : Addr} {fs : List (Str × D)} (R : RepM K F H μ) (e : μ a = some (.ins C fs)) : ∃ F', Ext F H μ F' H (mdel μ a) ∧ RepM K F' H (mdel μ a) ∧ Den K F' (.ref a) (.obj C (fs.map (·.1)) (fs.map (·.2))) := by
  obtain ⟨n, dx, vs, h, r⟩ := R.mu a _ e
  have s : Same F (upd F a (.ins C dx vs)) := fun b u q => by rw [upd_ne (ne_of_none q n)]; exact q
  refine ⟨upd F a (.ins C dx vs), .del e s, ⟨fun b u q => ?_, fun b u q => ?_, R.an.step (.del e s)⟩, ?_⟩
  · by_cases hb : b = a
    · subst hb; rw [upd_same] at q; cases q; exact h
    · rw [upd_ne hb] at q; exact R.same b u q
  · unfold mdel at q
    split at q
    · cases q
    · rename_i hb
      obtain ⟨h1, h2⟩ := R.mu b u q
      exact ⟨by rw [upd_ne hb]; exact h1, h2.monoF s⟩
  · obtain ⟨e1, e2⟩ := FP.den r
    rw [← e1]
    exact .obj upd_same (e2.mono s)
/-- e, frozen: an object just made -/
def dFrzO (da : DE) : DE := fun ρ μ k => da ρ μ fun d μ1 => frzO d μ1 k
theorem pd_frzO [anc : Anc] {X : Cx} {e : Expr} {da : DE} (h : PD X e da) : PD X e (dFrzO da) :=
  PE.imp h fun σ H Q ⟨F, ρ, μ, k, R, E, h, C⟩ => ⟨F, ρ, μ, _, R, E, h, fun d μ1 F1 v H1 h1 s1 R1 D1 => by
    obtain ⟨a, C0, fs, dx, vs, rfl, rfl, ea, _, _, _, hk⟩ := onI_ok R1 D1 h1
    obtain ⟨F2, s2, R2, dn⟩ := RepM.freezeO R1 ea
    exact C _ _ F2 _ _ hk (s1.trans s2) R2 dn⟩
/-! ### defs and methods by any full name -/
section
variable {P : Program} {w : World} {K : PySem.W.Frag} {mg : Str → Option Value} {base : Heap}
theorem fnokQ {x q : Str} {st : Stmt} {f : Addr} {fd : FuncData} {N ps : List Str} {k : Nat} {dsp : DCall} {d : DS} (F : Fun K x q st f fd) (S : FnScope N ps (defScope st))
    (body : ∀ (cdv : Value) (A : Around) (outer : List PySem.Env) (s : Shared) (H : Hp) (E : XK), Room k (A.deeper (envOfC q (defScope st) s.heap.objs.size f cdv)) →
      PDSs (cxOf CX0 P w K mg base N q (defScope st) f cdv A outer s H E).nox (defBody st) d)
    (spec : ∀ ds μ k, ds.length = ps.length → dsp ds μ k → d { nx := fun _ μ' => wk k .non μ', rt := wk k } (startD N.length ds) μ) : FnOk P w K mg base CX0 (k + 1) f fd ps (liftSp K ps.length dsp) :=
  F.ok S (fun vs H Q E ⟨_, ds, _, _, _, Dv, e, _⟩ => Dv.length.trans e) (fun cdv A outer s H vs Q E hr h => by
    obtain ⟨F0, ds, μ, k0, R, Dv, e, h, C⟩ := h
    refine ⟨_, body cdv A outer s H E hr, F0, startD N.length ds, μ, _, R, ?_, spec ds μ k0 e h, ?_⟩
    · unfold L2.start startD
      rw [Dv.length]
      exact paired_append (env_start (N := N) Dv) (env_none _)
    · have W := wk_cont C
      exact ⟨fun ρ' μ' F' σ' H' h s R' E' => W .non μ' F' .non H' h s R' .non, W, fun _ _ _ _ _ h => h.elim, fun _ _ _ _ _ h => h.elim⟩)
theorem DMeth.of {m q : Str} {st : Stmt} {f C : Addr} {fd : FuncData} {N ps : List Str} {k : Nat} {dsp : DCall} {d : DS} (F : Fun K m q st f fd) (c : Cls K C) (hm : Meth K C m f) (b : Binds K fd ps []) (S : FnScope N ps (defScope st))
    (body : ∀ (cdv : Value) (A : Around) (outer : List PySem.Env) (s : Shared) (H : Hp) (E : XK), Room k (A.deeper (envOfC q (defScope st) s.heap.objs.size f cdv)) →
      PDSs (cxOf CX0 P w K mg base N q (defScope st) f cdv A outer s H E).nox (defBody st) d)
    (spec : ∀ ds μ k, ds.length = ps.length → dsp ds μ k → d { nx := fun _ μ' => wk k .non μ', rt := wk k } (startD N.length ds) μ) : DMeth P w K mg base C m (k + 1) ps.length dsp :=
  ⟨f, fd, ps, rfl, fnokQ F S body spec, hm, c, b⟩
theorem DInit.of {q : Str} {st : Stmt} {f C : Addr} {fd : FuncData} {N ps : List Str} {k : Nat} {dsp : DCall} {d : DS} (F : Fun K "__init__" q st f fd) (M : Mk K C f) (b : Binds K fd ps []) (S : FnScope N ps (defScope st))
    (body : ∀ (cdv : Value) (A : Around) (outer : List PySem.Env) (s : Shared) (H : Hp) (E : XK), Room k (A.deeper (envOfC q (defScope st) s.heap.objs.size f cdv)) →
      PDSs (cxOf CX0 P w K mg base N q (defScope st) f cdv A outer s H E).nox (defBody st) d)
    (spec : ∀ ds μ k, ds.length = ps.length → dsp ds μ k → d { nx := fun _ μ' => wk k .non μ', rt := wk k } (startD N.length ds) μ) : DInit P w K mg base C (k + 1) ps.length dsp :=
  ⟨f, fd, ps, rfl, fnokQ F S body spec, M, b⟩
/-- nothing is promised -/
def spNo : DCall := fun _ _ _ => False
theorem DMeth.no {m q : Str} {st : Stmt} {f C : Addr} {fd : FuncData} {ps : List Str} {k : Nat} {dsp : DCall} (F : Fun K m q st f fd) (c : Cls K C) (hm : Meth K C m f) (b : Binds K fd ps []) (h0 : ∀ ds μ k, ¬ dsp ds μ k) : DMeth P w K mg base C m k ps.length dsp :=
  ⟨f, fd, ps, rfl, ⟨fun vs H Q E ⟨_, _, _, _, _, _, _, h, _⟩ => (h0 _ _ _ h).elim, fun _ _ _ _ _ _ _ _ _ _ _ _ _ ⟨_, _, _, _, _, _, _, h, _⟩ => (h0 _ _ _ h).elim⟩, hm, c, b⟩
theorem DFn.no {x : Str} {st : Stmt} {f : Addr} {fd : FuncData} {ps : List Str} {k : Nat} {dsp : DCall} (F : Fun K x x st f fd) (hm : mg x = some (.ref f)) (b : Binds K fd ps []) (h0 : ∀ ds μ k, ¬ dsp ds μ k) : DFn P w K mg base x k ps.length dsp :=
  ⟨f, fd, ps, rfl, ⟨fun vs H Q E ⟨_, _, _, _, _, _, _, h, _⟩ => (h0 _ _ _ h).elim, fun _ _ _ _ _ _ _ _ _ _ _ _ _ ⟨_, _, _, _, _, _, _, h, _⟩ => (h0 _ _ _ h).elim⟩, hm, F.kp, b⟩
end
/-- a statement that is never reached -/
def dNever : DS := fun _ _ _ => False
theorem pds_never [anc : Anc] {X : Cx} {st : Stmt} : PDS X st dNever := ⟨fun pins s σ H D I q => by
  obtain ⟨_, _, _, _, _, _, h, _⟩ := q
  exact (show False from h).elim⟩
end DL
/-! DLn: the same where it is known that no repr is under way; repr of data. -/
namespace DL
open PySem PySem.Spec L2
open PyProof.Rows hiding St
/-- room, and nothing is being shown -/
structure RoomG (k : Nat) (A : Around) : Prop where
  rm : Room k A
  gd : A.guards = some []
theorem RoomG.mono {j k : Nat} {A : Around} (r : RoomG k A) (h : j ≤ k) : RoomG j A := ⟨r.rm.mono h, r.gd⟩
theorem RoomG.deeper {k : Nat} {A : Around} (r : RoomG (k + 1) A) (env : PySem.Env) : RoomG k (A.deeper env) := ⟨r.rm.deeper env, r.gd⟩
theorem RoomG.units {k : Nat} {A : Around} (r : RoomG k A) : A.units + 64 < cLine := r.rm.units
theorem RoomG.make {k : Nat} {A : Around} (r : RoomG (k + 1) A) (C : Addr) (us : List Value) (kw : List (Str × Value)) : RoomG k (A.under (.builtin "type.__call__" ⟨.ref C :: us, kw⟩)) :=
  ⟨r.rm.make C us kw, by
    have e : guardIds.contains "type.__call__" = false := by decide +kernel
    have e2 : (Code.builtin "type.__call__" ⟨.ref C :: us, kw⟩).isGuard = false := e
    simp [Around.under, Code.guards, e2, pushGuards, r.gd]⟩
structure FnG (P : Program) (w : World) (K : PySem.W.Frag) (mg : Str → Option Value) (base : Heap) (k : Nat) (f : Addr) (fd : FuncData) (ps : List Str) (sp : Sp) : Prop where
  len : ∀ vs H Q E, sp vs H Q E → vs.length = ps.length
  run : ∀ (A : Around) (outer : List PySem.Env) (s : Shared) (H : Hp) (args : Args) (us : List Value) (vs : List V) (Q : VK) (E : XK), RoomG k A → Env0 P w K mg base A outer s H → BindsTo s fd args (ps.zip us) → Vals vs us → sp vs H Q E →
    codeAny (model P w) A (.call (.ref f) args) (CR CX0 outer P w H s Q E) s
section
variable {P : Program} {w : World} {K : PySem.W.Frag} {mg : Str → Option Value} {base : Heap}
theorem FnG.mono {j k : Nat} {f : Addr} {fd : FuncData} {ps : List Str} {sp : Sp} (F : FnG P w K mg base j f fd ps sp) (h : j ≤ k) : FnG P w K mg base k f fd ps sp :=
  ⟨F.len, fun A outer s H args us vs Q E hr => F.run A outer s H args us vs Q E (hr.mono h)⟩
/-- a def of the text, its body by data -/
theorem fng_of {x q : Str} {st : Stmt} {f : Addr} {fd : FuncData} {N ps : List Str} {k : Nat} {dsp : DCall} {d : DS} (F : Fun K x q st f fd) (S : FnScope N ps (defScope st))
    (body : ∀ (cdv : Value) (A : Around) (outer : List PySem.Env) (s : Shared) (H : Hp) (E : XK), RoomG k (A.deeper (envOfC q (defScope st) s.heap.objs.size f cdv)) →
      PDSs (cxOf CX0 P w K mg base N q (defScope st) f cdv A outer s H E).nox (defBody st) d)
    (spec : ∀ ds μ k, ds.length = ps.length → dsp ds μ k → d { nx := fun _ μ' => wk k .non μ', rt := wk k } (startD N.length ds) μ) : FnG P w K mg base (k + 1) f fd ps (liftSp K ps.length dsp) := by
  have len : ∀ vs H Q E, liftSp K ps.length dsp vs H Q E → vs.length = ps.length := fun vs H Q E ⟨_, ds, _, _, _, Dv, e, _⟩ => Dv.length.trans e
  obtain ⟨oc, od, kV, doc, pm, an, cdv, ct, osl, rfl, lk, hcd⟩ := F.ex
  refine ⟨len, fun A outer s H args us vs Q E hr e0 hb r hsp => ?_⟩
  have hl := len _ _ _ _ hsp
  have inK : K.In s.heap := e0.mod.kin.keeps fun b o e => (e0.bs b o e).1
  have noL : s.heap.NoLimit := e0.mod.nolimit.keeps fun b o e => (e0.bs b o e).1
  refine codeAny_call_function hr.rm.depth (inK _ _ lk) rfl S.co S.gen rfl (PySem.W.codeRec_of inK hcd) (hb _ _ _ _ ?_)
  refine wpAny_newFunctionEnv_cells S.kind (fun ⟨n, v⟩ hy => ?_) fun env he s1 x => ?_
  · rcases S.par n (List.of_mem_zip hy).1 with z | z
    · exact .inl z
    · exact .inr ⟨z, PySem.W.cellsFrom_some _ _ _ (.inl z)⟩
  subst he
  refine ⟨noL.keeps x.toInCall.keep, codeAny_func ?_⟩
  obtain ⟨F0, ds, μ, k0, R, Dv, e, h, C⟩ := hsp
  have I : Inv (cxOf CX0 P w K mg base N q (defScope st) f cdv A outer s H E) [] (L2.start N vs) H s1 := inv_start S hr.rm.hd e0 hl r x
  have W := wk_cont C
  have up : upS K d { nx := fun _ H' => Q .non H', rt := Q } (L2.start N vs) H := by
    refine ⟨F0, startD N.length ds, μ, _, R, ?_, spec ds μ k0 e h, ?_⟩
    · unfold L2.start startD
      rw [Dv.length]
      exact paired_append (env_start (N := N) Dv) (env_none _)
    · exact ⟨fun ρ' μ' F' σ' H' h s R' E' => W .non μ' F' .non H' h s R' .non, W, fun _ _ _ _ _ h => h.elim, fun _ _ _ _ _ h => h.elim⟩
  refine wpAny_mono ((body cdv A outer s H E (hr.deeper _)).nox.run [] s1 (L2.start N vs) H _ I up) (fun fl s' hs => ?_) fun e s' hs => hs
  cases fl with
  | ret u =>
    obtain ⟨v, σ', H', J, rv, z⟩ := hs
    exact ⟨v, H', J.os, J.bare, J.base, J.hok, rv, z⟩
  | next =>
    obtain ⟨σ', H', J, z⟩ := hs
    exact ⟨V.non, H', J.os, J.bare, J.base, J.hok, rfl, z⟩
  | brk =>
    obtain ⟨_, _, _, z⟩ := hs
    exact False.elim z
  | cont =>
    obtain ⟨_, _, _, z⟩ := hs
    exact False.elim z
end
section
variable {X : Cx} {k : Nat} {f C : Addr} {fd : FuncData} {ps : List Str} {sp : Sp} {x m : Str} {p pos apos : Pos} {e o : Expr} {es : List Expr} {ta : TE} {t : TA}
theorem run_fng {pins : List (Addr × Obj)} {σ : St} {H : Hp} {s : Shared} {Q : VK} {us : List Value} {vs : List V} (F : FnG X.prog X.w X.K X.mg X.base k f fd ps sp) (hr : RoomG k X.A) (hb : Binds X.K fd ps [])
    (I : Inv X pins σ H s) (r : Vals vs us) (h : sp vs H Q E0) : wpAny (model X.prog X.w) X.A (call (.ref f) us) (EP X pins σ Q) X.xe s := by
  have hl : us.length = ps.length := by rw [← r.length]; exact F.len _ _ _ _ h
  have hb' := hb s us I.kIn (by rw [List.append_nil]; exact hl)
  rw [List.append_nil] at hb'
  refine wpAny_call (codeAny_mono (F.run X.A X.stack s H ⟨us, []⟩ us vs Q E0 hr I.env0 hb' r h) fun r s' hq => ?_)
  match r, hq with
  | .error e, hq => exact False.elim hq
  | .ok (.ret u), hq => exact I.after hq
  | .ok .next, hq => exact False.elim hq
  | .ok .brk, hq => exact False.elim hq
  | .ok .cont, hq => exact False.elim hq
/-- f(e, ..) -/
def tCallG (sp : Sp) (t : TA) : TE := fun σ H Q => t σ H fun vs H1 => sp vs H1 Q E0
theorem pe_callG (F : FnG X.prog X.w X.K X.mg X.base k f fd ps sp) (hr : RoomG k X.A) (hg : Gl X x) (hm : X.mg x = some (.ref f)) (hk : PySem.W.keepIn X.K (.ref f) = true) (hb : Binds X.K fd ps [])
    (ha : PA X (e :: es) t) (hdb : (x == ("__debug__" : Str)) = false := by decide) (he : starEach (e :: es) X.env = (false, eval e X.env) :: starEach es X.env := by rfl) (hpl : (backTo pos (starEach es X.env)).any (·.1) = false := by rfl) :
    PE X (.Call (.Name x p) (e :: es) [] pos) (tCallG sp t) :=
  ⟨fun pins s σ H Q I h => wpAny_Call_Name_kw (ld_glob I hg hm (PySem.W.callWith_K (h₀ := X.base) I.ok.mod.kin hk (thn (ha.run pos pins s σ H _ I h) fun us s1 ⟨vs, H1, I1, r, q⟩ => ⟨I1.kIn, run_fng F hr hb I1 r q⟩) he hpl) hdb)⟩
theorem pe_callG0 (F : FnG X.prog X.w X.K X.mg X.base k f fd ps sp) (hr : RoomG k X.A) (hg : Gl X x) (hm : X.mg x = some (.ref f)) (hk : PySem.W.keepIn X.K (.ref f) = true) (hb : Binds X.K fd ps [])
    (hdb : (x == ("__debug__" : Str)) = false := by decide) : PE X (.Call (.Name x p) [] [] pos) (tCallG sp tNil) :=
  ⟨fun pins s σ H Q I h => wpAny_Call_Name_kw (ld_glob I hg hm (PySem.W.callWith_K0 I.kIn hk (run_fng (us := []) F hr hb I .nil h)) hdb)⟩
def tMethG (C : Addr) (m : Str) (sp : Sp) (ta : TE) (t : TA) : TE := fun σ H Q => ta σ H fun x H1 => ∃ a dx fs, x = .ref a ∧ H1 a = some (.ins C dx fs) ∧ fs.lookup m = none ∧ t σ H1 fun vs H2 => sp (x :: vs) H2 Q E0
theorem pe_methG {pl : Sem Bool} (he : PE X o ta) (c : Cls X.K C) (hm : Meth X.K C m f) (F : FnG X.prog X.w X.K X.mg X.base k f fd ps sp) (hr : RoomG k X.A) (hb : Binds X.K fd ps []) (ha : PA X (e :: es) t)
    (hst : starEach (e :: es) X.env = (false, eval e X.env) :: starEach es X.env := by rfl) (hpl : (backTo pos (starEach es X.env)).any (·.1) = false := by rfl)
    (ht : eval (.Call (.Attribute o m apos) (e :: es) [] pos) X.env = (do
      let ov ← eval o X.env
      standAt apos.atName
      let (f, first) ← holding [ov] (getMethod ov m pl)
      callWith pos f first (backTo pos (starEach (e :: es) X.env)) (backToKw pos (keywordEach [] X.env))) := by rfl) :
    PE X (.Call (.Attribute o m apos) (e :: es) [] pos) (tMethG C m sp ta t) := by
  refine ⟨fun pins s σ H Q I h => PySem.W.methodCall_KW (pl := pl) (thn (he.run pins s σ H _ I h) fun u s1 ⟨x, H1, I1, rx, a, dx, fs, ex, ea, l, q⟩ => ?_) ht⟩
  subst ex
  obtain rfl : u = Value.ref a := rx
  exact getmeth_ok I1 ea c hm l (PySem.W.callWith_K (first := [.ref a]) (h₀ := X.base) I.ok.mod.kin hm.kp (thn (ha.run pos pins s1 σ H1 _ I1 q) fun us s2 ⟨vs, H2, I2, r, q2⟩ =>
    ⟨I2.kIn, run_fng (us := .ref a :: us) (vs := .ref a :: vs) F hr hb I2 (.cons rfl r) q2⟩) hst hpl)
theorem pe_methG0 {pl : Sem Bool} (he : PE X o ta) (c : Cls X.K C) (hm : Meth X.K C m f) (F : FnG X.prog X.w X.K X.mg X.base k f fd ps sp) (hr : RoomG k X.A) (hb : Binds X.K fd ps [])
    (ht : eval (.Call (.Attribute o m apos) [] [] pos) X.env = (do
      let ov ← eval o X.env
      standAt apos.atName
      let (f, first) ← holding [ov] (getMethod ov m pl)
      callWith pos f first (backTo pos (starEach [] X.env)) (backToKw pos (keywordEach [] X.env))) := by rfl) :
    PE X (.Call (.Attribute o m apos) [] [] pos) (tMethG C m sp ta tNil) := by
  refine ⟨fun pins s σ H Q I h => PySem.W.methodCall_KW (pl := pl) (thn (he.run pins s σ H _ I h) fun u s1 ⟨x, H1, I1, rx, a, dx, fs, ex, ea, l, q⟩ => ?_) ht⟩
  subst ex
  obtain rfl : u = Value.ref a := rx
  exact getmeth_ok I1 ea c hm l (PySem.W.callWith_K0 (first := [.ref a]) I1.kIn hm.kp (run_fng (us := [.ref a]) (vs := [.ref a]) F hr hb I1 (.cons rfl .nil) q))
def tMakeG (C : Addr) (sp : Sp) (t : TA) : TE := fun σ H Q => t σ H fun vs H1 => ∀ x dx, H1 x = none → H1 dx = none → dx ≠ x → sp (.ref x :: vs) (upd (upd H1 dx (.own x)) x (.ins C dx [])) (fun v H2 => v = .non ∧ Q (.ref x) H2) E0
theorem run_makeG {pins : List (Addr × Obj)} {σ : St} {H : Hp} {s : Shared} {Q : VK} {us : List Value} {vs : List V} (M : Mk X.K C f) (F : FnG X.prog X.w X.K X.mg X.base k f fd ps sp) (hr : RoomG (k + 1) X.A) (hb : Binds X.K fd ps [])
    (I : Inv X pins σ H s) (r : Vals vs us) (h : ∀ x dx, H x = none → H dx = none → dx ≠ x → sp (.ref x :: vs) (upd (upd H dx (.own x)) x (.ins C dx [])) (fun v H2 => v = .non ∧ Q (.ref x) H2) E0) :
    wpAny (model X.prog X.w) X.A (call (.ref C) us) (EP X pins σ Q) X.xe s := by
  have hq := h (s.heap.objs.size + 1) s.heap.objs.size (I.hok.fresh (Nat.le_succ _)) (I.hok.fresh (Nat.le_refl _)) (Nat.ne_of_lt (Nat.lt_succ_self _))
  have I2 := Inv.made (C := C) I
  have r2 : Vals (V.ref (s.heap.objs.size + 1) :: vs) (Value.ref (s.heap.objs.size + 1) :: us) := .cons rfl r
  have hl : (Value.ref (s.heap.objs.size + 1) :: us).length = ps.length := by rw [← r2.length]; exact F.len _ _ _ _ hq
  have hb' := hb _ (Value.ref (s.heap.objs.size + 1) :: us) I2.kIn (by rw [List.append_nil]; exact hl)
  rw [List.append_nil] at hb'
  refine wpAny_call (make_map (f := f) I.kIn M.makes M.init (beq_iff_eq.mp M.fn) (codeAny_mono (F.run _ X.stack _ _ ⟨Value.ref (s.heap.objs.size + 1) :: us, []⟩ _ _ _ E0 (hr.make C us []) (I2.env0.make C us []) hb' r2 hq) fun r s' hq' => ?_))
  match r, hq' with
  | .error e, hq' => exact False.elim hq'
  | .ok (.ret u), hq' =>
    obtain ⟨v, H', I3, rv, ev, q3⟩ := I2.after hq'
    subst ev
    exact ⟨rv, ⟨V.ref (s.heap.objs.size + 1), H', I3, rfl, q3⟩⟩
  | .ok .next, hq' => exact False.elim hq'
  | .ok .brk, hq' => exact False.elim hq'
  | .ok .cont, hq' => exact False.elim hq'
theorem pe_makeG (M : Mk X.K C f) (F : FnG X.prog X.w X.K X.mg X.base k f fd ps sp) (hr : RoomG (k + 1) X.A) (hg : Gl X x) (hm : X.mg x = some (.ref C)) (hb : Binds X.K fd ps [])
    (ha : PA X (e :: es) t) (hdb : (x == ("__debug__" : Str)) = false := by decide) (he : starEach (e :: es) X.env = (false, eval e X.env) :: starEach es X.env := by rfl) (hpl : (backTo pos (starEach es X.env)).any (·.1) = false := by rfl) :
    PE X (.Call (.Name x p) (e :: es) [] pos) (tMakeG C sp t) :=
  ⟨fun pins s σ H Q I h => wpAny_Call_Name_kw (ld_glob I hg hm (PySem.W.callWith_K (h₀ := X.base) I.ok.mod.kin M.kp (thn (ha.run pos pins s σ H _ I h) fun us s1 ⟨vs, H1, I1, r, q⟩ => ⟨I1.kIn, run_makeG M F hr hb I1 r q⟩) he hpl) hdb)⟩
theorem pe_makeG0 (M : Mk X.K C f) (F : FnG X.prog X.w X.K X.mg X.base k f fd ps sp) (hr : RoomG (k + 1) X.A) (hg : Gl X x) (hm : X.mg x = some (.ref C)) (hb : Binds X.K fd ps [])
    (hdb : (x == ("__debug__" : Str)) = false := by decide) : PE X (.Call (.Name x p) [] [] pos) (tMakeG C sp tNil) :=
  ⟨fun pins s σ H Q I h => wpAny_Call_Name_kw (ld_glob I hg hm (PySem.W.callWith_K0 I.kIn M.kp (run_makeG (us := []) M F hr hb I .nil h)) hdb)⟩
end
/-! ### by data -/
structure DFnG (P : Program) (w : World) (K : PySem.W.Frag) (mg : Str → Option Value) (base : Heap) (x : Str) (k n : Nat) (dsp : DCall) : Prop where
  ex : ∃ f fd ps, ps.length = n ∧ FnG P w K mg base k f fd ps (liftSp K n dsp) ∧ mg x = some (.ref f) ∧ PySem.W.keepIn K (.ref f) = true ∧ Binds K fd ps []
structure DMethG (P : Program) (w : World) (K : PySem.W.Frag) (mg : Str → Option Value) (base : Heap) (C : Addr) (m : Str) (k n : Nat) (dsp : DCall) : Prop where
  ex : ∃ f fd ps, ps.length = n ∧ FnG P w K mg base k f fd ps (liftSp K n dsp) ∧ Meth K C m f ∧ Cls K C ∧ Binds K fd ps []
structure DInitG (P : Program) (w : World) (K : PySem.W.Frag) (mg : Str → Option Value) (base : Heap) (C : Addr) (k n : Nat) (dsp : DCall) : Prop where
  ex : ∃ f fd ps, ps.length = n ∧ FnG P w K mg base k f fd ps (liftSp K n dsp) ∧ Mk K C f ∧ Binds K fd ps []
section
variable {P : Program} {w : World} {K : PySem.W.Frag} {mg : Str → Option Value} {base : Heap}
theorem DFnG.mono {x : Str} {j k n : Nat} {dsp : DCall} (h : DFnG P w K mg base x j n dsp) (l : j ≤ k) : DFnG P w K mg base x k n dsp := by
  obtain ⟨f, fd, ps, h1, h2, h3⟩ := h.ex
  exact ⟨f, fd, ps, h1, h2.mono l, h3⟩
theorem DMethG.mono {C : Addr} {m : Str} {j k n : Nat} {dsp : DCall} (h : DMethG P w K mg base C m j n dsp) (l : j ≤ k) : DMethG P w K mg base C m k n dsp := by
  obtain ⟨f, fd, ps, h1, h2, h3⟩ := h.ex
  exact ⟨f, fd, ps, h1, h2.mono l, h3⟩
theorem DInitG.mono {C : Addr} {j k n : Nat} {dsp : DCall} (h : DInitG P w K mg base C j n dsp) (l : j ≤ k) : DInitG P w K mg base C k n dsp := by
  obtain ⟨f, fd, ps, h1, h2, h3⟩ := h.ex
  exact ⟨f, fd, ps, h1, h2.mono l, h3⟩
theorem DFnG.of {x : Str} {st : Stmt} {f : Addr} {fd : FuncData} {N ps : List Str} {k : Nat} {dsp : DCall} {d : DS} (F : Fun K x x st f fd) (hm : mg x = some (.ref f)) (b : Binds K fd ps []) (S : FnScope N ps (defScope st))
    (body : ∀ (cdv : Value) (A : Around) (outer : List PySem.Env) (s : Shared) (H : Hp) (E : XK), RoomG k (A.deeper (envOfC x (defScope st) s.heap.objs.size f cdv)) →
      PDSs (cxOf CX0 P w K mg base N x (defScope st) f cdv A outer s H E).nox (defBody st) d)
    (spec : ∀ ds μ k, ds.length = ps.length → dsp ds μ k → d { nx := fun _ μ' => wk k .non μ', rt := wk k } (startD N.length ds) μ) : DFnG P w K mg base x (k + 1) ps.length dsp :=
  ⟨f, fd, ps, rfl, fng_of F S body spec, hm, F.kp, b⟩
theorem FnG.no {f : Addr} {fd : FuncData} {ps : List Str} {k : Nat} {dsp : DCall} (h0 : ∀ ds μ k, ¬ dsp ds μ k) : FnG P w K mg base k f fd ps (liftSp K ps.length dsp) :=
  ⟨fun vs H Q E ⟨_, _, _, _, _, _, _, h, _⟩ => (h0 _ _ _ h).elim, fun _ _ _ _ _ _ _ _ _ _ _ _ _ ⟨_, _, _, _, _, _, _, h, _⟩ => (h0 _ _ _ h).elim⟩
theorem DFnG.recur {x : Str} {st : Stmt} {f : Addr} {fd : FuncData} {N ps : List Str} {L : Nat} {spS : Nat → DCall} {d : Nat → DS} (F : Fun K x x st f fd) (hm : mg x = some (.ref f)) (b : Binds K fd ps []) (S : FnScope N ps (defScope st))
    (h0 : ∀ ds μ k, ¬ spS 0 ds μ k)
    (body : ∀ j, DFnG P w K mg base x (L + j) ps.length (spS j) → ∀ (cdv : Value) (A : Around) (outer : List PySem.Env) (s : Shared) (H : Hp) (E : XK), RoomG (L + j) (A.deeper (envOfC x (defScope st) s.heap.objs.size f cdv)) →
      PDSs (cxOf CX0 P w K mg base N x (defScope st) f cdv A outer s H E).nox (defBody st) (d j))
    (spec : ∀ j ds μ k, ds.length = ps.length → spS (j + 1) ds μ k → d j { nx := fun _ μ' => wk k .non μ', rt := wk k } (startD N.length ds) μ) : ∀ j, DFnG P w K mg base x (L + j) ps.length (spS j)
  | 0 => ⟨f, fd, ps, rfl, FnG.no h0, hm, F.kp, b⟩
  | j + 1 => DFnG.of F hm b S (body j (DFnG.recur F hm b S h0 body spec j)) (spec j)
theorem DFnG.no {x : Str} {st : Stmt} {f : Addr} {fd : FuncData} {ps : List Str} {k : Nat} {dsp : DCall} (F : Fun K x x st f fd) (hm : mg x = some (.ref f)) (b : Binds K fd ps []) (h0 : ∀ ds μ k, ¬ dsp ds μ k) : DFnG P w K mg base x k ps.length dsp :=
  ⟨f, fd, ps, rfl, FnG.no h0, hm, F.kp, b⟩
theorem DMethG.no {m q : Str} {st : Stmt} {f C : Addr} {fd : FuncData} {ps : List Str} {k : Nat} {dsp : DCall} (F : Fun K m q st f fd) (c : Cls K C) (hm : Meth K C m f) (b : Binds K fd ps []) (h0 : ∀ ds μ k, ¬ dsp ds μ k) : DMethG P w K mg base C m k ps.length dsp :=
  ⟨f, fd, ps, rfl, FnG.no h0, hm, c, b⟩
theorem DMethG.of {m q : Str} {st : Stmt} {f C : Addr} {fd : FuncData} {N ps : List Str} {k : Nat} {dsp : DCall} {d : DS} (F : Fun K m q st f fd) (c : Cls K C) (hm : Meth K C m f) (b : Binds K fd ps []) (S : FnScope N ps (defScope st))
    (body : ∀ (cdv : Value) (A : Around) (outer : List PySem.Env) (s : Shared) (H : Hp) (E : XK), RoomG k (A.deeper (envOfC q (defScope st) s.heap.objs.size f cdv)) →
      PDSs (cxOf CX0 P w K mg base N q (defScope st) f cdv A outer s H E).nox (defBody st) d)
    (spec : ∀ ds μ k, ds.length = ps.length → dsp ds μ k → d { nx := fun _ μ' => wk k .non μ', rt := wk k } (startD N.length ds) μ) : DMethG P w K mg base C m (k + 1) ps.length dsp :=
  ⟨f, fd, ps, rfl, fng_of F S body spec, hm, c, b⟩
theorem DInitG.of {q : Str} {st : Stmt} {f C : Addr} {fd : FuncData} {N ps : List Str} {k : Nat} {dsp : DCall} {d : DS} (F : Fun K "__init__" q st f fd) (M : Mk K C f) (b : Binds K fd ps []) (S : FnScope N ps (defScope st))
    (body : ∀ (cdv : Value) (A : Around) (outer : List PySem.Env) (s : Shared) (H : Hp) (E : XK), RoomG k (A.deeper (envOfC q (defScope st) s.heap.objs.size f cdv)) →
      PDSs (cxOf CX0 P w K mg base N q (defScope st) f cdv A outer s H E).nox (defBody st) d)
    (spec : ∀ ds μ k, ds.length = ps.length → dsp ds μ k → d { nx := fun _ μ' => wk k .non μ', rt := wk k } (startD N.length ds) μ) : DInitG P w K mg base C (k + 1) ps.length dsp :=
  ⟨f, fd, ps, rfl, fng_of F S body spec, M, b⟩
end
section
variable [anc : Anc]
variable {X : Cx} {x m : Str} {p pos apos : Pos} {e o : Expr} {es : List Expr} {da : DA} {dq : DE} {k n : Nat} {dsp : DCall} {C : Addr}
theorem pd_callG (D : DFnG X.prog X.w X.K X.mg X.base x k n dsp) (hr : RoomG k X.A) (hx : Passes CX0 X E0) (ha : PDA X (e :: es) da) (hg : Gl X x := by rfl) (hdb : (x == ("__debug__" : Str)) = false := by decide)
    (he : starEach (e :: es) X.env = (false, eval e X.env) :: starEach es X.env := by rfl) (hpl : (backTo pos (starEach es X.env)).any (·.1) = false := by rfl) : PD X (.Call (.Name x p) (e :: es) [] pos) (dCall n dsp da) := by
  obtain ⟨f, fd, ps, h1, h2, h3, h4, h5⟩ := D.ex
  exact PE.imp (pe_callG h2 hr hg h3 h4 h5 ha hdb he hpl) fun σ H Q ⟨F, ρ, μ, k, R, E, h, C⟩ => ⟨F, ρ, μ, _, R, E, h, fun ds μ1 F1 vs H1 ⟨h6, h7⟩ s1 R1 D1 => ⟨F1, ds, μ1, k, R1.bare, D1, h6, h7, (C.mono s1).bare R1⟩⟩
theorem pd_callG0 (D : DFnG X.prog X.w X.K X.mg X.base x k 0 dsp) (hr : RoomG k X.A) (hx : Passes CX0 X E0) (hg : Gl X x := by rfl) (hdb : (x == ("__debug__" : Str)) = false := by decide) : PD X (.Call (.Name x p) [] [] pos) (dCall 0 dsp dNil) := by
  obtain ⟨f, fd, ps, h1, h2, h3, h4, h5⟩ := D.ex
  exact PE.imp (pe_callG0 h2 hr hg h3 h4 h5 hdb) fun σ H Q ⟨F, ρ, μ, k, R, E, ⟨h6, h7⟩, C⟩ => ⟨F, [], μ, k, R.bare, .nil, h6, h7, C.bare R⟩
theorem pd_methG {pl : Sem Bool} (D : DMethG X.prog X.w X.K X.mg X.base C m k n dsp) (hr : RoomG k X.A) (hx : Passes CX0 X E0) (ho : PD X o dq) (ha : PDA X (e :: es) da)
    (hst : starEach (e :: es) X.env = (false, eval e X.env) :: starEach es X.env := by rfl) (hpl : (backTo pos (starEach es X.env)).any (·.1) = false := by rfl)
    (ht : eval (.Call (.Attribute o m apos) (e :: es) [] pos) X.env = (do
      let ov ← eval o X.env
      standAt apos.atName
      let (f, first) ← holding [ov] (getMethod ov m pl)
      callWith pos f first (backTo pos (starEach (e :: es) X.env)) (backToKw pos (keywordEach [] X.env))) := by rfl) : PD X (.Call (.Attribute o m apos) (e :: es) [] pos) (dMeth C m n dsp dq da) := by
  obtain ⟨f, fd, ps, h1, h2, h3, h4, h5⟩ := D.ex
  refine PE.imp (pe_methG (pl := pl) ho h4 h3 h2 hr h5 ha hst hpl ht) fun σ H Q ⟨F, ρ, μ, k, R, E, h, Cn⟩ => ⟨F, ρ, μ, _, R, E, h, fun d μ1 F1 v H1 ⟨hI, h6⟩ s1 R1 D1 => ?_⟩
  obtain ⟨a, dx, fs, rfl, hH, hl⟩ := isI_ok R1 D1 hI
  exact ⟨a, dx, fs, rfl, hH, hl, F1, ρ, μ1, _, R1, E.ext s1, h6, fun ds μ2 F2 vs H2 ⟨h7, h8⟩ s2 R2 D2 => ⟨F2, d :: ds, μ2, k, R2.bare, .cons (D1.ext s2) D2, h7, h8, (Cn.mono (s1.trans s2)).bare R2⟩⟩
theorem pd_methG0 {pl : Sem Bool} (D : DMethG X.prog X.w X.K X.mg X.base C m k 1 dsp) (hr : RoomG k X.A) (hx : Passes CX0 X E0) (ho : PD X o dq)
    (ht : eval (.Call (.Attribute o m apos) [] [] pos) X.env = (do
      let ov ← eval o X.env
      standAt apos.atName
      let (f, first) ← holding [ov] (getMethod ov m pl)
      callWith pos f first (backTo pos (starEach [] X.env)) (backToKw pos (keywordEach [] X.env))) := by rfl) : PD X (.Call (.Attribute o m apos) [] [] pos) (dMeth0 C m dsp dq) := by
  obtain ⟨f, fd, ps, h1, h2, h3, h4, h5⟩ := D.ex
  refine PE.imp (pe_methG0 (pl := pl) ho h4 h3 h2 hr h5 ht) fun σ H Q ⟨F, ρ, μ, k, R, E, h, Cn⟩ => ⟨F, ρ, μ, _, R, E, h, fun d μ1 F1 v H1 ⟨hI, h6⟩ s1 R1 D1 => ?_⟩
  obtain ⟨a, dx, fs, rfl, hH, hl⟩ := isI_ok R1 D1 hI
  exact ⟨a, dx, fs, rfl, hH, hl, F1, [d], μ1, k, R1.bare, .cons D1 .nil, rfl, h6, (Cn.mono s1).bare R1⟩
theorem make_okG {K : PySem.W.Frag} {F H : Hp} {μ : Mu} {ds : List D} {vs : List V} {k : KD} {Q : VK} (R : RepM K F H μ) (Dv : DenL K F vs ds) (hn : ds.length + 1 = n) (h : dMakeK C dsp ds μ k) (Cn : Cont K F H μ k Q) :
    ∀ x dx, H x = none → H dx = none → dx ≠ x → liftSp K n dsp (.ref x :: vs) (upd (upd H dx (.own x)) x (.ins C dx [])) (fun v H2 => v = .non ∧ Q (.ref x) H2) E0 := fun x dx hx hdx hne => by
  have q := make_ok R Dv hn h Cn x dx hx hdx hne
  rw [List.append_nil] at q
  exact q
theorem pd_makeG (D : DInitG X.prog X.w X.K X.mg X.base C k n dsp) (hr : RoomG (k + 1) X.A) (hx : Passes CX0 X E0) (hm : X.mg x = some (.ref C)) (ha : PDA X (e :: es) da) (hg : Gl X x := by rfl) (hdb : (x == ("__debug__" : Str)) = false := by decide)
    (he : starEach (e :: es) X.env = (false, eval e X.env) :: starEach es X.env := by rfl) (hpl : (backTo pos (starEach es X.env)).any (·.1) = false := by rfl) : PD X (.Call (.Name x p) (e :: es) [] pos) (dMake C n dsp da) := by
  obtain ⟨f, fd, ps, h1, h2, h3, h4⟩ := D.ex
  exact PE.imp (pe_makeG h3 h2 hr hg hm h4 ha hdb he hpl) fun σ H Q ⟨F, ρ, μ, k, R, E, h, Cn⟩ => ⟨F, ρ, μ, _, R, E, h, fun ds μ1 F1 vs H1 ⟨h5, h6⟩ s1 R1 D1 => make_okG R1 D1 h5 h6 (Cn.mono s1)⟩
theorem pd_makeG0 (D : DInitG X.prog X.w X.K X.mg X.base C k 1 dsp) (hr : RoomG (k + 1) X.A) (hx : Passes CX0 X E0) (hm : X.mg x = some (.ref C)) (hg : Gl X x := by rfl) (hdb : (x == ("__debug__" : Str)) = false := by decide) : PD X (.Call (.Name x p) [] [] pos) (dMake C 1 dsp dNil) := by
  obtain ⟨f, fd, ps, h1, h2, h3, h4⟩ := D.ex
  exact PE.imp (pe_makeG0 h3 h2 hr hg hm h4 hdb) fun σ H Q ⟨F, ρ, μ, k, R, E, ⟨h5, h6⟩, Cn⟩ => make_okG (vs := []) R .nil h5 h6 Cn
end
end DL
/-! DLo: repr of data; the law's call. -/
namespace DL
open PySem PySem.Spec L2
open PyProof.Rows hiding St
mutual
theorem D.py_noDict : ∀ d : D, d.py.hasDict = false
  | .non => rfl
  | .bl _ => rfl
  | .int _ => rfl
  | .str _ => rfl
  | .tup xs => D.pys_noDict xs
  | .lst xs => D.pys_noDict xs
  | .ref _ => rfl
  | .ty _ => rfl
  | .scr xs => D.pys_noDict xs
  | .obj _ _ _ => rfl
theorem D.pys_noDict : ∀ ds : List D, PyData.hasDictAll (D.pys ds) = false
  | [] => rfl
  | d :: ds => by
    show (d.py.hasDict || PyData.hasDictAll (D.pys ds)) = false
    rw [D.py_noDict d, D.pys_noDict ds]
    rfl
end
theorem call_reprD {X : Cx} (hg : X.A.guards = some []) : CallR X (.builtin "repr") (fun xs H Q => ∃ v d, xs = [v] ∧ Dp X.K H v d ∧ d.showable = true ∧ d.hasDict = false ∧ d.shown.length ≤ sizeLine ∧ X.A.units + (d.depth + 1) < cLine ∧ Q (.str d.shown) H) := by
  intro pins s σ H xs us Q I r h
  obtain ⟨v, d, rfl, hd, h1, h2, h3, h4, q⟩ := h
  obtain ⟨u, rfl, rv⟩ := L2.vals1 r
  obtain ⟨as, rd⟩ := Dp.reads I d v u hd rv
  have big : ∀ a, u = .ref a → wpAny (model X.prog X.w) X.A (call (.builtin "repr") [u]) (EP X pins σ Q) X.xe s := fun a e => by
    subst e
    exact repr_of_reads' rd h1 (PyData.noDict_hsm h2) hg h4 (fun _ _ e => e) (fun h' u tk hk => ⟨.str d.shown, H, I.kept hk, ⟨u, rfl⟩, q⟩) h3
  cases d with
  | none => cases rd; exact PySem.P.repr_of_none ⟨.str _, H, I.tok _, ⟨_, rfl⟩, q⟩
  | bool b => cases rd; exact PySem.P.repr_of_bool ⟨.str _, H, I.tok _, ⟨_, rfl⟩, q⟩
  | int i => cases rd; exact PySem.P.repr_of_int (of_decide_eq_true h1) ⟨.str _, H, I.tok _, ⟨_, rfl⟩, q⟩
  | str x => cases rd; exact PySem.P.repr_of_str ⟨.str _, H, I.tok _, ⟨_, rfl⟩, q⟩ h3
  | list xs => obtain ⟨a, e⟩ := isRef_of_reads rd rfl; exact big a e
  | tuple xs => obtain ⟨a, e⟩ := isRef_of_reads rd rfl; exact big a e
  | dict kvs => exact absurd h2 (by simp [PyData.hasDict])
/-- can be shown -/
structure ShowD (d : D) : Prop where
  pu : d.pure = true
  sh : d.py.showable = true
  sz : d.py.shown.length ≤ sizeLine
  dp : d.py.depth ≤ 100
def rdRepr : DCall := fun ds μ k => match ds with
  | [d] => ShowD (der μ d) ∧ k (.str (der μ d).py.shown) μ
  | _ => False
theorem cd_repr [anc : Anc] {X : Cx} {k : Nat} (hr : RoomG k X.A) : CallD X (.builtin "repr") rdRepr := ⟨_, call_reprD hr.gd, fun F H μ xs ds k Q R Dx h C => by
  unfold rdRepr at h
  split at h
  · rename_i d
    cases Dx with
    | cons h1 h2 =>
      cases h2
      obtain ⟨S, h⟩ := h
      have := hr.rm.un
      have := S.dp
      exact ⟨_, _, rfl, der_dp R h1 S.pu, S.sh, D.py_noDict _, S.sz, by omega, C _ _ F _ _ h .refl R (.str _)⟩
  · exact h.elim⟩
/-- texts alike -/
def rdEqS : D2 := fun d e μ k => match d, e with
  | .str a, .str b => k (.bl (decide (a = b))) μ
  | _, _ => False
def rdNeS : D2 := fun d e μ k => match d, e with
  | .str a, .str b => k (.bl (!decide (a = b))) μ
  | _, _ => False
theorem opd_eqS [anc : Anc] {X : Cx} : OpD X (compareOp .Eq) rdEqS := ⟨_, op_eq, fun F H μ x y d e k Q R Dx Dy h Cn => by
  cases d with
  | str a =>
    cases e with
    | str b =>
      cases Dx
      cases Dy
      refine ⟨rfl, ?_⟩
      have e : decide (V.str a = V.str b) = decide (a = b) := by simp
      rw [e]
      exact Cn _ _ F _ _ h .refl R (.bl _)
    | _ => exact (show False from h).elim
  | _ => exact (show False from h).elim⟩
theorem opd_neS [anc : Anc] {X : Cx} : OpD X (compareOp .NotEq) rdNeS := ⟨_, op_ne, fun F H μ x y d e k Q R Dx Dy h Cn => by
  cases d with
  | str a =>
    cases e with
    | str b =>
      cases Dx
      cases Dy
      refine ⟨rfl, ?_⟩
      have e : decide (V.str a = V.str b) = decide (a = b) := by simp
      rw [e]
      exact Cn _ _ F _ _ h .refl R (.bl _)
    | _ => exact (show False from h).elim
  | _ => exact (show False from h).elim⟩
theorem bb_repr : bootBuiltins "repr" = some (.builtin "repr") := by decide +kernel
/-! ### the law's call -/
theorem law_callG {P : Program} {w : World} {K : PySem.W.Frag} {mg mb : Str → Option Value} {k : Nat} {fa a : Addr} {fd : FuncData} {x : Str} {sp : Sp} {s₁ : Shared} {vs : List Value} {ns : List Int}
    (KX : K.In s₁.heap) (hns : s₁.heap.Ns mainGlobals mg) (hb : s₁.heap.Ns builtinsNs mb) (hbb : ∀ x : Str, x ≠ "__name__" → mb x = bootBuiltins x) (hlim : s₁.heap.NoLimit) (hg : s₁.gens = #[])
    (ha : s₁.heap.get? a = some { cls := .type "list", data := .seq vs.toArray }) (hi : IntsAre vs ns) (hl : ns.length ≤ sizeLine) (hr : RoomG k callerA)
    (F : ∀ base : Heap, K.In base → base.Ns mainGlobals mg → FnG P w K mg base k fa fd [x] sp) (hbind : ∀ (s : Shared) (u : Value), BindsTo s fd ⟨[u], []⟩ [(x, u)])
    (hsp : ∀ H : Hp, Only H → SqL K H a (ns.map V.int) → sp [.ref a] H (fun v _ => v = .bl true) E0) :
    codeAny (model P w) callerA (.call (.ref fa) ⟨[.ref a], []⟩) (fun r s' => r = .ok (.ret (.bool true)) ∧ OldK s₁.heap s'.heap ∧ s'.os = s₁.os ∧ AllBare s'.gens) s₁ := by
  have rv := vals_ints hi
  -- H knows of nothing but the script, if that
  have main : ∀ H : Hp, Only H → SqL K H a (ns.map V.int) → HOk P w H s₁.heap → (∀ b, H b ≠ none → b = a) → (H a ≠ none → K.lookup a = none) →
      codeAny (model P w) callerA (.call (.ref fa) ⟨[.ref a], []⟩) (fun r s' => r = .ok (.ret (.bool true)) ∧ OldK s₁.heap s'.heap ∧ s'.os = s₁.os ∧ AllBare s'.gens) s₁ := fun H hO hS hok hA hK => by
    have free : ∀ {b : Addr} {o : Obj}, s₁.heap.get? b = some o → (b = a → H a ≠ none → False) → (hidT s₁.heap H).get? b = some o := fun {b o} e n => hidT_get e (by
      cases q : H b with
      | none => rfl
      | some u =>
        have z := hA b (by rw [q]; exact fun z => nomatch z)
        subst z
        exact (n rfl (by rw [q]; exact fun z => nomatch z)).elim)
    have nsT : ∀ {b : Addr} {m : Str → Option Value}, s₁.heap.Ns b m → (hidT s₁.heap H).Ns b m := fun {b m} ⟨o, es, ep, e, d, r⟩ => ⟨o, es, ep, free e (fun z _ => by
      subst z
      rw [ha] at e
      cases e
      exact nomatch (show Data.seq vs.toArray _ = Data.dict es ep from d)), d, r⟩
    have inT : K.In (hidT s₁.heap H) := fun b o e => free (KX b o e) fun z n => by
      subst z
      rw [hK n] at e
      cases e
    have M : Mod K mg (hidT s₁.heap H) := ⟨inT, nsT hns, ⟨mb, nsT hb, hbb⟩, let ⟨mc, h1, h2⟩ := hlim; ⟨mc, nsT h1, h2⟩⟩
    have e0 : Env0 P w K mg (hidT s₁.heap H) callerA [] s₁ H := ⟨rfl, M, fun b o e => of_hidT e, Nat.le_of_eq (hidT_size _ _), trivial, fun b hb => (nomatch (show b ∈ ([] : List Addr) from hb)), hok, .of_eq hg⟩
    refine codeAny_mono ((F _ inT (nsT hns)).run callerA [] s₁ H ⟨[.ref a], []⟩ [.ref a] [.ref a] _ _ hr e0 (hbind s₁ (.ref a)) (.cons rfl .nil) (hsp H hO hS)) fun r s' h => ?_
    match r, h with
    | .error e, h => exact False.elim h
    | .ok .next, h => exact False.elim h
    | .ok .brk, h => exact False.elim h
    | .ok .cont, h => exact False.elim h
    | .ok (.ret u), h =>
      obtain ⟨v, H', os, bare, un, hok', r', q⟩ := h
      subst q
      obtain rfl : u = Value.bool true := r'
      refine ⟨rfl, OldK.of_keep fun b o e => ?_, os, bare⟩
      rcases hO b with z | ⟨ob, xs, z⟩
      · exact un.keep b o e z (fun y => (nomatch (show b ∈ ([] : List Addr) from y))) (by simp)
      · obtain ⟨e1, _⟩ := hok b _ z
        obtain ⟨e2, _⟩ := hok' b _ (un.frzs b ob _ z)
        rw [e] at e1
        cases e1
        exact e2
  cases hk : K.lookup a with
  | some o =>
    have e := KX a o hk
    rw [ha] at e
    cases e
    exact main (fun _ => none) (fun _ => .inl rfl) (.inr ⟨_, vs.toArray, _, hk, rfl, rfl, rfl, by rw [List.size_toArray, hi.length]; exact hl, by simpa using rv⟩) (fun b u z => nomatch (show (none : Option HO) = some u from z)) (fun b z => absurd rfl z) fun z => absurd rfl z
  | none =>
    have at_a : ∀ {b : Addr} {u : HO}, (if b = a then some (HO.frz { cls := .type "list", data := .seq vs.toArray } (.lst (ns.map V.int))) else none) = some u → b = a := fun {b u} z => by
      by_cases hb : b = a
      · exact hb
      · rw [if_neg hb] at z; cases z
    refine main (fun b => if b = a then some (.frz { cls := .type "list", data := .seq vs.toArray } (.lst (ns.map V.int))) else none) (fun b => ?_) (.inl (.inr ⟨{ cls := .type "list", data := .seq vs.toArray }, if_pos rfl⟩)) (fun b u z => ?_) (fun b z => ?_) fun _ => hk
    · by_cases hb : b = a
      · exact .inr ⟨_, _, if_pos hb⟩
      · exact .inl (if_neg hb)
    · have hb := at_a z
      subst hb
      cases (if_pos rfl).symm.trans z
      exact ⟨ha, by rw [List.length_map]; exact hl, vs, _, rv, ha⟩
    · by_cases hb : b = a
      · exact hb
      · exact absurd (if_neg hb) z
theorem walk_ofG {l : PySem.W.OpenLaw} {n k : Nat} {q : Program} {loose : List Str} {XP : (Str → Option Value) → Heap → Prop} {YP : World → Heap → Prop} {d : DefRec} {K : Params → PySem.W.Frag} {sp : World → Sp} {x : Str}
    (hn : l.most = some n) (hn2 : n ≤ sizeLine) (hdf : d.params.defaults = []) (hr : Room k callerA)
    (hY : ∀ (w : World) (h : Heap), YP w h → (K w.params).In h)
    (F : ∀ (w : World) (mg : Str → Option Value) (fa : Addr) (h : Heap), (K w.params).In h → h.Ns mainGlobals mg → mg d.name = some (.ref fa) →
      ∃ fd : FuncData, (∀ (s : Shared) (u : Value), BindsTo s fd ⟨[u], []⟩ [(x, u)]) ∧
        ∀ base : Heap, (K w.params).In base → base.Ns mainGlobals mg → FnG l.prog w (K w.params) mg base k fa fd [x] (sp w))
    (hsp : ∀ (w : World) (H : Hp) (a : Addr) (ns : List Int), ns.length ≤ n → Only H → SqL (K w.params) H a (ns.map V.int) → sp w [.ref a] H (fun v _ => v = .bl true) E0) :
    PySem.W.WalkO q loose XP YP l.row.toRowW d [] (fun f vs => PySem.call f vs) := by
  refine Att.attach_call hn hdf fun w s₀ s₁ mg mb fa o pm cd doc a vs ns G Y ho hd hcd hmg hobj hints hlen hg => ?_
  have KX := hY w _ Y
  obtain ⟨fd, hb, hF⟩ := F w mg fa _ KX G.T.g hmg
  exact law_callG KX G.T.g G.T.b G.T.builtins G.T.nolimit hg hobj hints (Nat.le_trans hlen hn2) ⟨hr, rfl⟩ hF hb fun H hO hS => hsp w H a ns hlen hO hS
end DL
/-! DLp: how long the shown text of data is at most. -/
namespace DL
open PySem PySem.Spec L2
open PyProof.Rows hiding St
mutual
/-- ints of at most 22 digits, nothing but data -/
def D.tame : D → Bool
  | .non => true
  | .bl _ => true
  | .int i => decide (i.natAbs < 10 ^ 22)
  | .str _ => true
  | .tup xs => D.tames xs
  | .lst xs => D.tames xs
  | .ref _ => false
  | .ty _ => false
  | .scr _ => false
  | .obj _ _ _ => false
def D.tames : List D → Bool
  | [] => true
  | d :: ds => d.tame && D.tames ds
end
mutual
/-- at most so long -/
def D.vol : D → Nat
  | .str x => (reprText x).length
  | .tup xs => D.vols xs + 3
  | .lst xs => D.vols xs + 3
  | _ => 30
def D.vols : List D → Nat
  | [] => 0
  | d :: ds => d.vol + 2 + D.vols ds
end
theorem shownAll_len : ∀ ds : List PyData, (PyData.shownAll ds).length = ds.length
  | [] => rfl
  | d :: ds => congrArg (· + 1) (shownAll_len ds)
theorem pys_len : ∀ ds : List D, (D.pys ds).length = ds.length
  | [] => rfl
  | d :: ds => congrArg (· + 1) (pys_len ds)
mutual
theorem D.shown_le : ∀ d : D, d.tame = true → d.py.shown.length ≤ d.vol
  | .non, _ => by show (Str.ofString "None").length ≤ 30; decide +kernel
  | .bl true, _ => by show (Str.ofString "True").length ≤ 30; decide +kernel
  | .bl false, _ => by show (Str.ofString "False").length ≤ 30; decide +kernel
  | .int i, h => by
    have h1 : i.natAbs < 10 ^ 22 := of_decide_eq_true h
    have := int_text_length_le10 (a := i) (k := 22) (by decide) h1
    show (Str.ofString (toString i)).length ≤ 30
    have e : (Str.ofString (toString i)).length = (toString i).length := PySem.ofString_length _
    omega
  | .str x, _ => Nat.le_refl _
  | .tup xs, h => by
    have := D.showns_le xs h
    have h2 := tupleText_len_le (PyData.shownAll (D.pys xs))
    rw [shownAll_len, pys_len] at h2
    show (tupleText (PyData.shownAll (D.pys xs))).length ≤ D.vols xs + 3
    omega
  | .lst xs, h => by
    have := D.showns_le xs h
    have h2 := listText_len_le (PyData.shownAll (D.pys xs))
    rw [shownAll_len, pys_len] at h2
    show (listText (PyData.shownAll (D.pys xs))).length ≤ D.vols xs + 3
    omega
theorem D.showns_le : ∀ ds : List D, D.tames ds = true → ((PyData.shownAll (D.pys ds)).map (·.length)).sum + 2 * ds.length ≤ D.vols ds
  | [], _ => Nat.le_refl _
  | d :: ds, h => by
    obtain ⟨h1, h2⟩ := Bool.and_eq_true_iff.mp h
    have a := D.shown_le d h1
    have b := D.showns_le ds h2
    show (d.py.shown.length + ((PyData.shownAll (D.pys ds)).map (·.length)).sum) + 2 * (ds.length + 1) ≤ d.vol + 2 + D.vols ds
    omega
end
mutual
theorem D.tame_show : ∀ d : D, d.tame = true → d.py.showable = true ∧ d.pure = true
  | .non, _ => ⟨rfl, rfl⟩
  | .bl _, _ => ⟨rfl, rfl⟩
  | .int i, h => ⟨decide_eq_true (by
      have h1 : i.natAbs < 10 ^ 22 := of_decide_eq_true h
      by_cases z : i.natAbs = 0
      · rw [z]; decide
      · exact (Nat.log2_lt z).mpr (Nat.lt_of_lt_of_le h1 (Nat.le_trans (show 10 ^ 22 ≤ 2 ^ 100 by decide) (Nat.pow_le_pow_right (by decide) (by decide))))), rfl⟩
  | .str _, _ => ⟨rfl, rfl⟩
  | .tup xs, h => D.tames_show xs h
  | .lst xs, h => D.tames_show xs h
theorem D.tames_show : ∀ ds : List D, D.tames ds = true → PyData.showableAll (D.pys ds) = true ∧ D.pures ds = true
  | [], _ => ⟨rfl, rfl⟩
  | d :: ds, h => by
    obtain ⟨h1, h2⟩ := Bool.and_eq_true_iff.mp h
    have a := D.tame_show d h1
    have b := D.tames_show ds h2
    exact ⟨Bool.and_eq_true_iff.mpr ⟨a.1, b.1⟩, Bool.and_eq_true_iff.mpr ⟨a.2, b.2⟩⟩
end
theorem ShowD.of {d : D} (h : d.tame = true) (v : d.vol ≤ sizeLine) (p : d.py.depth ≤ 100) : ShowD d :=
  ⟨(D.tame_show d h).2, (D.tame_show d h).1, Nat.le_trans (D.shown_le d h) v, p⟩
/-- small data: n deep, W wide -/
def gd (W : Nat) : Nat → D → Prop
  | _, .non => True
  | _, .bl _ => True
  | _, .int i => i.natAbs < 10 ^ 22
  | _, .str x => (reprText x).length ≤ 30
  | n + 1, .tup xs => xs.length ≤ W ∧ ∀ x ∈ xs, gd W n x
  | n + 1, .lst xs => xs.length ≤ W ∧ ∀ x ∈ xs, gd W n x
  | _, _ => False
def gdV (W : Nat) : Nat → Nat
  | 0 => 30
  | n + 1 => W * (gdV W n + 2) + 33
theorem gdV_30 (W n : Nat) : 30 ≤ gdV W n := by
  cases n with
  | zero => exact Nat.le_refl _
  | succ n => show 30 ≤ W * (gdV W n + 2) + 33; omega
theorem gd_list {W n : Nat} (ih : ∀ d, gd W n d → d.tame = true ∧ d.vol ≤ gdV W n ∧ d.py.depth ≤ n) : ∀ xs : List D, (∀ x ∈ xs, gd W n x) → D.tames xs = true ∧ D.vols xs ≤ xs.length * (gdV W n + 2) ∧ PyData.depthAll (D.pys xs) ≤ n
  | [], _ => ⟨rfl, Nat.zero_le _, Nat.zero_le _⟩
  | x :: xs, h => by
    obtain ⟨a1, a2, a3⟩ := ih x (h x (List.mem_cons_self ..))
    obtain ⟨b1, b2, b3⟩ := gd_list ih xs fun y hy => h y (List.mem_cons_of_mem _ hy)
    refine ⟨Bool.and_eq_true_iff.mpr ⟨a1, b1⟩, ?_, ?_⟩
    · show x.vol + 2 + D.vols xs ≤ (xs.length + 1) * (gdV W n + 2)
      rw [Nat.succ_mul]
      omega
    · show max x.py.depth (PyData.depthAll (D.pys xs)) ≤ n
      omega
theorem gd_ok {W : Nat} : ∀ (n : Nat) (d : D), gd W n d → d.tame = true ∧ d.vol ≤ gdV W n ∧ d.py.depth ≤ n
  | n, .non, _ => ⟨rfl, gdV_30 W n, Nat.zero_le _⟩
  | n, .bl _, _ => ⟨rfl, gdV_30 W n, Nat.zero_le _⟩
  | n, .int i, h => ⟨decide_eq_true (by cases n <;> exact h), gdV_30 W n, Nat.zero_le _⟩
  | n, .str x, h => ⟨rfl, Nat.le_trans (show (reprText x).length ≤ 30 by cases n <;> exact h) (gdV_30 W n), Nat.zero_le _⟩
  | n + 1, .tup xs, h => by
    obtain ⟨h1, h2⟩ := h
    obtain ⟨a, b, c⟩ := gd_list (gd_ok n) xs h2
    have := Nat.mul_le_mul_right (gdV W n + 2) h1
    exact ⟨a, by show D.vols xs + 3 ≤ W * (gdV W n + 2) + 33; omega, Nat.succ_le_succ c⟩
  | n + 1, .lst xs, h => by
    obtain ⟨h1, h2⟩ := h
    obtain ⟨a, b, c⟩ := gd_list (gd_ok n) xs h2
    have := Nat.mul_le_mul_right (gdV W n + 2) h1
    exact ⟨a, by show D.vols xs + 3 ≤ W * (gdV W n + 2) + 33; omega, Nat.succ_le_succ c⟩
  | 0, .tup _, h => h.elim
  | 0, .lst _, h => h.elim
  | 0, .ref _, h => h.elim
  | n + 1, .ref _, h => h.elim
  | 0, .ty _, h => h.elim
  | n + 1, .ty _, h => h.elim
  | 0, .scr _, h => h.elim
  | n + 1, .scr _, h => h.elim
  | 0, .obj _ _ _, h => h.elim
  | n + 1, .obj _ _ _, h => h.elim
theorem gd_show {W n : Nat} {d : D} (h : gd W n d) (v : gdV W n ≤ sizeLine) (p : n ≤ 100) : ShowD d := by
  obtain ⟨a, b, c⟩ := gd_ok n d h
  exact ShowD.of a (Nat.le_trans b v) (Nat.le_trans c p)
end DL
/-! DLr: dicts with keys that are ints and texts; attributes and slices as targets. -/
namespace DL
open PySem PySem.Spec L2
open PyProof.Rows hiding St
variable [anc : Anc]
def valD (kvs : List (Key × D)) (k : Key) : Option D := (kvs.find? fun kv => decide (kv.1 = k)).map (·.2)
def putD (kvs : List (Key × D)) (k : Key) (v : D) : List (Key × D) :=
  if (kvs.any fun kv => decide (kv.1 = k)) = true then kvs.map (fun kv => if kv.1 = k then (kv.1, v) else kv) else kvs ++ [(k, v)]
def mergeD (kvs more : List (Key × D)) : List (Key × D) := more.foldl (fun acc kv => putD acc kv.1 kv.2) kvs
theorem valD_pos {p : Key × D} {r : List (Key × D)} {k : Key} (e : p.1 = k) : valD (p :: r) k = some p.2 := by simp [valD, List.find?_cons, e]
theorem valD_neg {p : Key × D} {r : List (Key × D)} {k : Key} (e : ¬ p.1 = k) : valD (p :: r) k = valD r k := by simp [valD, List.find?_cons, e]
abbrev KP (K : PySem.W.Frag) (F : Hp) : List (Key × V) → List (Key × D) → Prop := Paired (fun (p : Key × V) (q : Key × D) => p.1 = q.1 ∧ Den K F p.2 q.2)
section
variable {K : PySem.W.Frag} {F : Hp}
theorem KP.length : ∀ {vs : List (Key × V)} {ks : List (Key × D)}, KP K F vs ks → vs.length = ks.length
  | _, _, .nil => rfl
  | _, _, .cons _ t => congrArg (· + 1) (KP.length t)
theorem KP.val {k : Key} : ∀ {vs : List (Key × V)} {ks : List (Key × D)}, KP K F vs ks → ∀ {d : D}, valD ks k = some d → ∃ v, valV vs k = some v ∧ Den K F v d
  | _, _, .nil, _, e => by cases e
  | _, _, .cons (a := a) (b := b) ⟨h1, h2⟩ t, d, e => by
    by_cases c : b.1 = k
    · rw [valD_pos c] at e
      cases e
      exact ⟨a.2, valV_pos (h1.trans c), h2⟩
    · rw [valD_neg c] at e
      obtain ⟨v, h3, h4⟩ := KP.val t e
      exact ⟨v, by rw [valV_neg fun z => c (h1.symm.trans z)]; exact h3, h4⟩
theorem KP.none {k : Key} : ∀ {vs : List (Key × V)} {ks : List (Key × D)}, KP K F vs ks → valD ks k = none → valV vs k = none
  | _, _, .nil, _ => rfl
  | _, _, .cons (a := a) (b := b) ⟨h1, h2⟩ t, e => by
    by_cases c : b.1 = k
    · rw [valD_pos c] at e
      cases e
    · rw [valD_neg c] at e
      rw [valV_neg fun z => c (h1.symm.trans z)]
      exact KP.none t e
theorem KP.any {k : Key} : ∀ {vs : List (Key × V)} {ks : List (Key × D)}, KP K F vs ks → (vs.any fun kv => decide (kv.1 = k)) = ks.any fun kv => decide (kv.1 = k)
  | _, _, .nil => rfl
  | _, _, .cons ⟨h1, h2⟩ t => by rw [List.any_cons, List.any_cons, h1, KP.any t]
theorem KP.repl {k : Key} {v : V} {d : D} (r : Den K F v d) : ∀ {vs : List (Key × V)} {ks : List (Key × D)}, KP K F vs ks → KP K F (vs.map fun kv => if kv.1 = k then (kv.1, v) else kv) (ks.map fun kv => if kv.1 = k then (kv.1, d) else kv)
  | _, _, .nil => .nil
  | _, _, .cons (a := a) (b := b) ⟨h1, h2⟩ t => by
    rw [List.map_cons, List.map_cons]
    refine .cons ?_ (KP.repl r t)
    by_cases c : b.1 = k
    · rw [if_pos c, if_pos (h1.trans c)]; exact ⟨h1, r⟩
    · rw [if_neg c, if_neg fun z => c (h1.symm.trans z)]; exact ⟨h1, h2⟩
theorem KP.put {k : Key} {v : V} {d : D} (r : Den K F v d) {vs : List (Key × V)} {ks : List (Key × D)} (h : KP K F vs ks) : KP K F (putK vs k v) (putD ks k d) := by
  unfold putK putD
  rw [h.any]
  split
  · exact KP.repl r h
  · exact paired_append h (.cons ⟨rfl, r⟩ .nil)
theorem KP.merge : ∀ {ms : List (Key × V)} {ns : List (Key × D)}, KP K F ms ns → ∀ {vs : List (Key × V)} {ks : List (Key × D)}, KP K F vs ks → KP K F (mergeK vs ms) (mergeD ks ns)
  | _, _, .nil, _, _, h => h
  | _, _, .cons (a := a) (b := b) ⟨h1, h2⟩ t, _, _, h => by
    show KP K F (mergeK (putK _ a.1 a.2) _) (mergeD (putD _ b.1 b.2) _)
    rw [h1]
    exact KP.merge t (h.put h2)
end
/-- a value that is a key -/
def keyD : D → Option Key
  | .int i => some (.inl i)
  | .str x => some (.inr x)
  | _ => none
theorem keyD_den {K : PySem.W.Frag} {F : Hp} {v : V} {d : D} {k : Key} (h : Den K F v d) (e : keyD d = some k) : v = kV k := by
  cases h <;> cases e <;> rfl
/-- a dict that may change -/
def onK (d : D) (μ : Mu) (f : Addr → List (Key × D) → Prop) : Prop := match d with
  | .ref a => (match μ a with
    | some (.dk kvs) => f a kvs
    | _ => False)
  | _ => False
theorem onK_ok {K : PySem.W.Frag} {F H : Hp} {μ : Mu} {d : D} {v : V} {f : Addr → List (Key × D) → Prop} (R : RepM K F H μ) (h : Den K F v d) (q : onK d μ f) :
    ∃ a kvs vs, v = .ref a ∧ d = .ref a ∧ μ a = some (.dk kvs) ∧ F a = none ∧ H a = some (.dK vs) ∧ KP K F vs kvs ∧ f a kvs := by
  unfold onK at q
  split at q
  · rename_i a
    split at q
    · rename_i kvs e
      cases h
      obtain ⟨n, vs, hH, hp⟩ := R.mu a _ e
      exact ⟨a, kvs, vs, rfl, rfl, e, n, hH, hp, q⟩
    · exact q.elim
  · exact q.elim
theorem hu1 {A : Around} {n : Nat} (h : A.units + 65 < n) : A.units + 1 < n := by omega
section
variable {X : Cx} {o i e f value : Expr} {pos pos' apos cpos : Pos} {da db dv : DE}
/-- d[k] -/
def dKIx (da db : DE) : DE := fun ρ μ k => da ρ μ fun d μ1 => db ρ μ1 fun e μ2 => ∃ key, keyD e = some key ∧ onK d μ2 fun _ kvs => ∃ v, valD kvs key = some v ∧ k v μ2
theorem pd_kix (hu : X.A.units + 65 < cLine) (ho : PD X o da) (hi : PD X i db) (hs : NoSl i := by exact fun _ _ => rfl) : PD X (.Subscript o i pos) (dKIx da db) :=
  PE.imp (pe_dget (hu1 hu) ho hi hs) fun σ H Q ⟨F, ρ, μ, k, R, E, h, C⟩ => ⟨F, ρ, μ, _, R, E, h, fun d μ1 F1 v H1 h1 s1 R1 D1 => ⟨F1, ρ, μ1, _, R1, E.ext s1, h1, fun e μ2 F2 w H2 ⟨key, hk, h2⟩ s2 R2 D2 => by
    obtain ⟨a, kvs, vs, rfl, rfl, ea, _, hH, hp, u, hu, hq⟩ := onK_ok R2 (D1.ext s2) h2
    obtain ⟨x, hx, dx⟩ := hp.val hu
    have hw := keyD_den D2 hk
    subst hw
    exact ⟨a, x, rfl, by rw [← hx]; exact DGet.k hH, C _ _ F2 _ _ hq (s1.trans s2) R2 dx⟩⟩⟩
/-- k in d -/
def dKIn (neg : Bool) (db da : DE) : DE := fun ρ μ k => db ρ μ fun e μ1 => da ρ μ1 fun d μ2 => ∃ key, keyD e = some key ∧ onK d μ2 fun _ kvs => k (.bl (if neg then !(valD kvs key).isSome else (valD kvs key).isSome)) μ2
theorem pdt_kin (hu : X.A.units + 65 < cLine) (hi : PD X i db) (ho : PD X o da) (hm : behindInMarks .In o = false := by first | exact nomark _ | rfl) : PD X (.Compare i [.In] [o] pos) (dKIn false db da) :=
  PE.imp (pe_cmp (pc_din (hu1 hu) hi ho) hm) fun σ H Q ⟨F, ρ, μ, k, R, E, h, C⟩ => ⟨F, ρ, μ, _, R, E, h, fun e μ1 F1 v H1 h1 s1 R1 D1 => ⟨F1, ρ, μ1, _, R1, E.ext s1, h1, fun d μ2 F2 w H2 ⟨key, hk, h2⟩ s2 R2 D2 => by
    obtain ⟨a, kvs, vs, rfl, rfl, ea, _, hH, hp, hq⟩ := onK_ok R2 D2 h2
    have hw := keyD_den (D1.ext s2) hk
    subst hw
    refine ⟨a, valV vs key, rfl, DGet.k hH, ?_⟩
    have e : (valV vs key).isSome = (valD kvs key).isSome := by
      cases q : valD kvs key with
      | none => rw [hp.none q]; rfl
      | some d => obtain ⟨x, hx, _⟩ := hp.val q; rw [hx]; rfl
    rw [e]
    exact C _ _ F2 _ _ hq (s1.trans s2) R2 (.bl _)⟩⟩
/-- d[k] = v, as a target -/
def dgKey (da db : DE) : DG := fun v ρ μ k => da ρ μ fun o μ1 => db ρ μ1 fun i μ2 => ∃ key, keyD i = some key ∧ onK o μ2 fun a kvs => kvs.length < sizeLine ∧ k ρ (mset μ2 a (.dk (putD kvs key v)))
theorem set_dict (hu : X.A.units + 1 < cLine) : PSet X (fun o i v H Q => ∃ a H', o = .ref a ∧ DPut H a i v H' ∧ Q H') := by
  intro pins s σ H o i v ov iv u Q I ro ri rv ⟨a, H', ex, g, q⟩
  subst ex
  obtain rfl : ov = Value.ref a := ro
  exact d_setItem hu I g ri rv fun s' I' => ⟨H', I', q⟩
theorem pdg_key (hu : X.A.units + 65 < cLine) (ho : PD X o da) (hi : PD X i db)
    (ha : ∀ v, assign (.Subscript o i pos) X.env v = (do
      let ov ← holding [v] (eval o X.env)
      let iv ← holding [v, ov] (eval i X.env)
      standAt pos
      holding [v, ov, iv] (setItem ov iv v)
      release [v, ov, iv] []) := by intro _; rfl) : PDG X (.Subscript o i pos) (dgKey da db) [] :=
  PG.imp (pg_sub ho hi (set_dict (hu1 hu)) ha) fun v σ H Q ⟨F, ρ, μ, d, kk, R, E, Dx, h, C⟩ => ⟨F, ρ, μ, _, R, E, h, fun od μ1 F1 ov H1 h1 s1 R1 D1 => ⟨F1, ρ, μ1, _, R1, E.ext s1, h1, fun id μ2 F2 iv H2 ⟨key, hk, h2⟩ s2 R2 D2 => by
    obtain ⟨a, kvs, vs, rfl, rfl, ea, nn, hH, hp, hl, hq⟩ := onK_ok R2 (D1.ext s2) h2
    have hw := keyD_den D2 hk
    subst hw
    have s12 := s1.trans s2
    refine ⟨a, _, rfl, DPut.k hH (by rw [hp.length]; exact hl), C _ _ F2 _ _ hq (s12.trans (.put ea)) (R2.store nn ⟨_, upd_same, hp.put (Dx.ext s12)⟩ (.put ea)) (E.ext s12) .refl⟩⟩⟩
/-- d.get(k, x) -/
def dKGet2 (da db dv : DE) : DE := fun ρ μ k => da ρ μ fun d μ1 => (onK d μ1 fun _ _ => True) ∧ db ρ μ1 fun e μ2 => dv ρ μ2 fun x μ3 => ∃ key, keyD e = some key ∧ onK d μ3 fun _ kvs => k ((valD kvs key).getD x) μ3
theorem pd_kget2 (hu : X.A.units + 65 < cLine) (ho : PD X o da) (he : PD X e db) (hf : PD X f dv) (m : M2 X o "get" apos e f cpos := by exact ⟨rfl, rfl, rfl, rfl⟩) : PD X (.Call (.Attribute o "get" apos) [e, f] [] cpos) (dKGet2 da db dv) :=
  PE.imp (pe_dget2 (hu1 hu) ho he hf m) fun σ H Q ⟨F, ρ, μ, k, R, E, h, C⟩ => ⟨F, ρ, μ, _, R, E, h, fun d μ1 F1 v H1 ⟨h0, h1⟩ s1 R1 D1 => by
    obtain ⟨a, kvs, vs, rfl, rfl, ea, nn, hH, hp, _⟩ := onK_ok R1 D1 h0
    refine ⟨a, rfl, .inl ⟨_, .inl hH⟩, F1, ρ, μ1, _, R1, E.ext s1, h1, fun e μ2 F2 w H2 h2 s2 R2 D2 => ⟨F2, ρ, μ2, _, R2, (E.ext s1).ext s2, h2, fun x μ3 F3 z H3 ⟨key, hk, h3⟩ s3 R3 D3 => ?_⟩⟩
    obtain ⟨a', kvs', vs', e1, _, ea', _, hH', hp', hq⟩ := onK_ok R3 (D1.ext (s2.trans s3)) h3
    cases e1
    have hw := keyD_den (D2.ext s3) hk
    subst hw
    refine ⟨valV vs' key, DGet.k hH', ?_⟩
    cases q : valD kvs' key with
    | none =>
      rw [q] at hq
      rw [hp'.none q]
      exact C _ _ F3 _ _ hq ((s1.trans s2).trans s3) R3 D3
    | some d =>
      rw [q] at hq
      obtain ⟨x, hx, dx⟩ := hp'.val q
      rw [hx]
      exact C _ _ F3 _ _ hq ((s1.trans s2).trans s3) R3 dx⟩
/-- e, a list that is frozen from here on -/
def dFrzE (da : DE) : DE := fun ρ μ k => da ρ μ fun d μ1 => onL d μ1 fun a xs => k (.lst xs) (mdel μ1 a)
theorem pd_frzE {e : Expr} {da : DE} (h : PD X e da) : PD X e (dFrzE da) :=
  PE.imp h fun σ H Q ⟨F, ρ, μ, k, R, E, h, C⟩ => ⟨F, ρ, μ, _, R, E, h, fun d μ1 F1 v H1 h1 s1 R1 D1 => by
    obtain ⟨a, xs, vs, rfl, ea, _, _, _, hk⟩ := onL_ok R1 D1 h1
    obtain ⟨F2, s2, R2, dn⟩ := R1.freeze ea
    exact C _ _ F2 _ _ hk (s1.trans s2) R2 dn⟩
/-- {k: v, ..} -/
def dPairs : List (DE × DE) → Env → Mu → (List (Key × D) → Mu → Prop) → Prop
  | [], _, μ, k => k [] μ
  | (dk, dv) :: r, ρ, μ, k => dk ρ μ fun kd μ1 => dv ρ μ1 fun vd μ2 => ∃ key, keyD kd = some key ∧ dPairs r ρ μ2 fun ps μ3 => k ((key, vd) :: ps) μ3
def dDisp (ps : List (DE × DE)) : DE := fun ρ μ k => dPairs ps ρ μ fun kvs μ1 => ∀ a, μ1 a = none → k (.ref a) (mset μ1 a (.dk (mergeD [] kvs)))
def upP (K : PySem.W.Frag) (ps : List (DE × DE)) : List (TE × TE) := ps.map fun p => (up K p.1, up K p.2)
abbrev PDPs (X : Cx) (pos : Pos) (keys : List (Option Expr)) (values : List Expr) (ps : List (DE × DE)) : Prop := PPs X pos keys values (upP X.K ps)
theorem pdps_nil {pos : Pos} : PDPs X pos [] [] [] := pps_nil
theorem pdps_cons {pos : Pos} {k v : Expr} {ks : List (Option Expr)} {vs : List Expr} {dk dv : DE} {r : List (DE × DE)} (hk : PD X k dk) (hv : PD X v dv) (hr : PDPs X pos ks vs r) : PDPs X pos (some k :: ks) (v :: vs) ((dk, dv) :: r) := pps_cons hk hv hr
theorem dpairs_ok {K : PySem.W.Frag} : ∀ (ps : List (DE × DE)) {F H : Hp} {σ : L2.St} {ρ : Env} {μ : Mu} {k : List (Key × D) → Mu → Prop} {Q : List (V × V) → Hp → Prop}, RepM K F H μ → EnvD K F σ ρ → dPairs ps ρ μ k →
    (∀ kvs μ' F' vs H', k kvs μ' → Ext F H μ F' H' μ' → RepM K F' H' μ' → KP K F' vs kvs → vs.length = ps.length → Q (vs.map fun kv => (kV kv.1, kv.2)) H') → tPairs (upP K ps) σ H Q
  | [], F, H, σ, ρ, μ, k, Q, R, E, h, C => C [] μ F [] H h .refl R .nil rfl
  | (dk, dv) :: r, F, H, σ, ρ, μ, k, Q, R, E, h, C => by
    show tPairs ((up K dk, up K dv) :: upP K r) σ H Q
    refine ⟨F, ρ, μ, _, R, E, h, fun kd μ1 F1 v H1 h1 s1 R1 D1 => ⟨F1, ρ, μ1, _, R1, E.ext s1, h1, fun vd μ2 F2 w H2 ⟨key, hk, h2⟩ s2 R2 D2 => ?_⟩⟩
    have hw := keyD_den D1 hk
    subst hw
    refine dpairs_ok r R2 ((E.ext s1).ext s2) h2 fun kvs μ3 F3 vs H3 h3 s3 R3 D3 hl => ?_
    exact C _ _ F3 ((key, w) :: vs) H3 h3 ((s1.trans s2).trans s3) R3 (.cons ⟨rfl, D2.ext s3⟩ D3) (congrArg (· + 1) hl)
theorem pd_disp {keys : List (Option Expr)} {values : List Expr} {ps : List (DE × DE)} (h : PDPs X pos keys values ps) (h15 : ps.length ≤ 15 := by decide) (hall : keys.all (·.isSome) = true := by rfl) (hl : keys.length = values.length := by rfl) (h0 : keys ≠ [] := by exact fun z => nomatch z)
    (hk : keys.length ≤ 15 := by decide) : PD X (.Dict keys values pos) (dDisp ps) :=
  PE.imp (pe_disp h hall hl h0 hk) fun σ H Q ⟨F, ρ, μ, k, R, E, h, C⟩ p np => by
    have nF := R.freshF np
    have nM := R.fresh np
    refine dpairs_ok ps (R.dropped np _) E h fun kvs μ1 F1 vs H1 h1 s1 R1 D1 hz => ?_
    obtain ⟨z1, z2, z3⟩ := s1.fr p _ upd_same nM
    refine ⟨z1, vs, rfl, by rw [hz]; exact h15, ?_⟩
    have sx : ∀ u o, Ext F H μ F1 (upd H1 p u) (mset μ1 p o) := fun u o => by
      refine ⟨s1.same, fun b o hb hm => ?_⟩
      have hne : b ≠ p := ne_of_none hb np
      obtain ⟨y1, y2, y3⟩ := s1.fr b o (by rw [upd_ne hne]; exact hb) hm
      exact ⟨by rw [upd_ne hne]; exact y1, by rw [mset_ne hne]; exact y2, y3⟩
    exact C _ _ F1 _ _ (h1 p z2) (sx _ _) (R1.storeA (z3 nF) ⟨_, upd_same, KP.merge D1 .nil⟩ (R.an.step (sx _ _))) (.ref p)
/-- o.f as a target -/
def dgFld (Cs : List Addr) (f : Str) (da : DE) : DG := fun v ρ μ k => da ρ μ fun d μ1 => onI d μ1 fun a C fs => C ∈ Cs ∧ fs.length < 1000 ∧ k ρ (mset μ1 a (.ins C (putFD f v fs)))
theorem pdg_fld {Cs : List Addr} {f : Str} (hf : FldOk X.K Cs f) (ho : PD X o da)
    (ha : ∀ v, assign (.Attribute o f pos) X.env v = (do
      let ov ← holding [v] (eval o X.env)
      standAt pos.atName
      holding [v, ov] (setAttr ov f v)
      release [v, ov] []) := by intro _; rfl) : PDG X (.Attribute o f pos) (dgFld Cs f da) [] := by
  refine ⟨fun pins s σ H v u Q I r ⟨F, ρ, μ, d, kk, R, E, Dx, h, C⟩ => ?_⟩
  rw [ha]
  refine wpAny_bind (wpAny_holding (thn (ho.run pins s σ H (fun w H1 => ∃ a C dx fs, w = V.ref a ∧ H1 a = some (.ins C dx fs) ∧ Cls X.K C ∧ NoAttr X.K C f ∧ fs.length < 1000 ∧ ∃ σ', Q σ' (upd H1 a (.ins C dx (putF f v fs))) ∧ σ' = σ) I ⟨F, ρ, μ, _, R, E, h, fun d2 μ1 F1 w H1 h1 s1 R1 D1 => ?_⟩) fun ov s1 ⟨w, H1, I1, rw1, a, C0, dx, fs, ex, ea, c, n, hl, σ', q, es⟩ => ?_))
  · obtain ⟨a, C0, fs, dx, vs, rfl, rfl, ea, nn, hH, hp, hc, hl, hn⟩ := onI_ok R1 D1 h1
    have s3 : Ext F1 H1 μ1 F1 (upd H1 a (.ins C0 dx (putF f v vs))) (mset μ1 a (.ins C0 (putFD f d fs))) := .put ea
    exact ⟨a, C0, dx, vs, rfl, hH, (hf C0 hc).1, (hf C0 hc).2, by rw [hp.length]; exact hl, σ, C _ _ F1 _ _ hn (s1.trans s3) (R1.store (o := .ins _ _) nn ⟨dx, _, upd_same, hp.put (Dx.ext s1)⟩ s3) ((E.ext s1).ext s3) .refl, rfl⟩
  · subst ex es
    obtain rfl : ov = Value.ref a := rw1
    exact wpAny_bind (wpAny_standAt (wpAny_bind (wpAny_holding (setattr_ok I1 ea c n hl r fun s3 I3 => wpAny_release ⟨σ', _, I3, q⟩))))
/-- xs[i:j] as a target, i and j written -/
def dgSlc (i j : Nat) (da : DE) : DG := fun v ρ μ k => da ρ μ fun o μ1 => onL o μ1 fun a xs => ∃ ys, v = .lst ys ∧ i ≤ j ∧ j ≤ xs.length ∧ xs.length + ys.length ≤ sizeLine ∧ k ρ (mset μ1 a (.lst (xs.take i ++ ys ++ xs.drop j)))
theorem pdg_slc {i j : Nat} {k1 k2} {p1 p2 p3 : Pos} (ho : PD X o da)
    (ha : ∀ v, assign (.Subscript o (.Slice (some (.Constant (.int (i : Int)) k1 p1)) (some (.Constant (.int (j : Int)) k2 p2)) none p3) pos) X.env v = (do
      let ov ← holding [v] (eval o X.env)
      let iv ← holding [v, ov] (eval (.Slice (some (.Constant (.int (i : Int)) k1 p1)) (some (.Constant (.int (j : Int)) k2 p2)) none p3) X.env)
      standAt pos
      holding [v, ov, iv] (setItem ov iv v)
      release [iv, v, ov] []) := by intro _; rfl) : PDG X (.Subscript o (.Slice (some (.Constant (.int (i : Int)) k1 p1)) (some (.Constant (.int (j : Int)) k2 p2)) none p3) pos) (dgSlc i j da) [] := by
  refine ⟨fun pins s σ H v u Q I r ⟨F, ρ, μ, d, kk, R, E, Dx, h, C⟩ => ?_⟩
  rw [ha]
  refine wpAny_bind (wpAny_holding (thn (ho.run pins s σ H (fun w H1 => ∃ a b xs ys, w = V.ref a ∧ v = V.ref b ∧ H1 a = some (.lst xs) ∧ H1 b = some (.lst ys) ∧ a ≠ b ∧ i ≤ j ∧ j ≤ xs.length ∧ xs.length + ys.length ≤ sizeLine ∧ Q σ (upd H1 a (.lst (xs.take i ++ ys ++ xs.drop j)))) I ⟨F, ρ, μ, _, R, E, h, fun d2 μ1 F1 w H1 h1 s1 R1 D1 => ?_⟩) fun ov s1 ⟨w, H1, I1, rw1, a, b, xs, ys, ex, ev, e1, e2, hne, h1, h2, h3, q⟩ => ?_))
  · obtain ⟨a, xs, vs, rfl, ea, nn, hH, hd, ys, rfl, b1, b2, b3, hq⟩ := onL_ok R1 D1 h1
    obtain ⟨b, ws, rfl, hs, hdy⟩ := (show ∃ b ws, v = V.ref b ∧ F b = some (.lst ws) ∧ DenL X.K F ws ys by cases Dx with | lst h1 h2 => exact ⟨_, _, rfl, h1, h2⟩)
    · skip
      have hF1 := s1.same _ _ hs
      have hne : a ≠ b := fun z => by
        subst z
        rw [nn] at hF1
        cases hF1
      have s3 : Ext F1 H1 μ1 F1 (upd H1 a (.lst (vs.take i ++ ws ++ vs.drop j))) (mset μ1 a (.lst (xs.take i ++ ys ++ xs.drop j))) := .put ea
      exact ⟨a, b, vs, ws, rfl, rfl, hH, R1.same _ _ hF1, hne, b1, by rw [hd.length]; exact b2, by rw [hd.length, hdy.length]; exact b3,
        C _ _ F1 _ _ hq (s1.trans s3) (R1.store (o := .lst _) nn ⟨_, upd_same, ((hd.take i).append (hdy.ext s1)).append (hd.drop j)⟩ s3) ((E.ext s1).ext s3) .refl⟩
  · subst ex ev
    obtain rfl : ov = Value.ref a := rw1
    obtain rfl : u = Value.ref b := r
    refine wpAny_bind (wpAny_holding (wpAny_Slice (thn ((pe_int (X := X) (i := (i : Int)) (j := k1) (pos := p1)).run pins s1 σ H1 (fun z H' => z = V.int (i : Int) ∧ H' = H1) I1 ⟨rfl, rfl⟩) fun vl s2 ⟨l, H2, I2, pl, el, eH⟩ => thn ((pe_int (X := X) (i := (j : Int)) (j := k2) (pos := p2)).run pins s2 σ H2 (fun z H' => z = V.int (j : Int) ∧ H' = H2) I2 ⟨rfl, rfl⟩) fun vu s3 ⟨m, H3, I3, pu, em, eH3⟩ => ?_)))
    subst el em eH eH3
    rw [evalPart_none]
    refine wpAny_pure ?_
    have I4 : Inv X pins σ H3 { s3 with heap := s3.heap.push { cls := .type "slice", data := .fields #[vl, vu, .none] } } := I3.kept (t' := s3.toks) fun b ob q => Heap.get?_push_of_some _ q
    refine wpAny_bind (wpAny_standAt (wpAny_bind (wpAny_holding (set_slice I4 e1 e2 hne (Heap.IsSliceOf.new ..) pl pu (Int.natCast_nonneg i) (by omega) (by omega) h3 fun s5 I5 => wpAny_release ⟨σ, _, I5, q⟩))))
end
end DL
/-! DLs: insert of lists. -/
namespace DL
open PySem PySem.Spec L2
open PyProof.Rows hiding St
variable [anc : Anc]
def rdInsert : DMt := fun d ds μ k => match ds with
  | [.int i, y] => onL d μ fun a xs => xs.length < sizeLine ∧ (0 ≤ i ∧ i < 2 ^ 63) ∧ k .non (mset μ a (.lst (xs.take i.toNat ++ [y] ++ xs.drop i.toNat)))
  | _ => False
section
variable {X : Cx}
theorem md_insert : MtD X "list.insert" rdInsert := ⟨_, mt_insert, fun F H μ x d xs ds k Q R Dx Ds h C => by
  unfold rdInsert at h
  split at h
  · rename_i i y
    obtain ⟨a, ys, vs, rfl, e1, n, e2, r, z, ⟨i0, i1⟩, h⟩ := onL_ok R Dx h
    cases Ds with
    | cons h1 h2 =>
      cases h1
      cases h2 with
      | cons h3 h4 =>
        cases h4
        exact ⟨a, vs, i, _, rfl, rfl, e2, by rw [r.length]; exact z, i0, i1, C _ _ F _ _ h (.put e1) (R.store n ⟨_, upd_same, ((r.take i.toNat).append (.cons h3 .nil)).append (r.drop i.toNat)⟩ (.put e1)) .non⟩
  · exact h.elim⟩
end
end DL
/-! DLq: sorted of tuples of data: the same items in some order. -/
namespace DL
open PySem PySem.Spec L2
open PyProof.Rows hiding St
variable [anc : Anc]
/-- a value and what it holds -/
abbrev VD := V × PyData
theorem each_vals {xs : List V} {its : List Value} {ds : List PyData} (r : Vals xs its) (e : xs.length = ds.length) : PySem.W.EachIs (fun (v : Value) (b : VD) => RelV b.1 v) its (xs.zip ds) := by
  induction r generalizing ds with
  | nil => cases ds with
    | nil => exact .nil
    | cons => cases e
  | cons r t ih => cases ds with
    | nil => cases e
    | cons d ds => exact .cons r (ih (Nat.succ.inj e))
theorem vals_each : ∀ {its : List Value} {bs : List VD}, PySem.W.EachIs (fun (v : Value) (b : VD) => RelV b.1 v) its bs → Vals (bs.map (·.1)) its
  | _, _, .nil => .nil
  | _, _, .cons r t => .cons r (vals_each t)
theorem each_reads {X : Cx} {pins : List (Addr × Obj)} {σ : L2.St} {H : Hp} {s : Shared} (I : Inv X pins σ H s) : ∀ {xs : List V} {its : List Value} {ds : List PyData}, DpAll X.K H xs ds → Vals xs its → PySem.W.EachIs (fun (v : Value) (b : VD) => ∃ as, Reads s.heap v b.2 as) its (xs.zip ds)
  | _, _, _, .nil, .nil => .nil
  | _, _, _, .cons h hs, .cons r t => .cons (Dp.reads I _ _ _ h r) (each_reads I hs t)
theorem dpAll_len {K : PySem.W.Frag} {H : Hp} : ∀ {xs : List V} {ds : List PyData}, DpAll K H xs ds → xs.length = ds.length
  | _, _, .nil => rfl
  | _, _, .cons _ t => congrArg (· + 1) (dpAll_len t)
theorem call_sortD {X : Cx} : CallR X (.builtin "sorted") (fun vs H Q => ∃ (a : Addr) (xs : List V) (ds : List PyData), vs = [V.ref a] ∧ SqL X.K H a xs ∧ DpAll X.K H xs ds ∧ PySem.W.AllAlike ds ∧ PySem.W.Sortable ds ∧ (∀ d ∈ ds, X.A.units + 2 + d.depth < cLine) ∧
    ∀ (bs : List VD) (p : Addr), bs.Perm (xs.zip ds) → H p = none → Q (.ref p) (upd H p (.lst (bs.map (·.1))))) := by
  intro pins s σ H vs us Q I r h
  obtain ⟨a, xs, ds, rfl, hs, hd, ha, ho, hu, q⟩ := h
  obtain ⟨its, rv, hl, hz⟩ := I.list hs
  rw [Vals.ref1 r]
  have hlen := dpAll_len hd
  have em : (xs.zip ds).map (fun b : VD => b.2) = ds := by
    rw [List.map_snd_zip]
    omega
  refine PySem.W.sorted_data (enc := fun b : VD => b.2) hl.isList (each_vals rv hlen) (each_reads I hd rv) (by rw [em]; exact ha) (by rw [em]; exact ho) (by rw [List.length_zip]; omega) (fun b hb => hu _ (List.of_mem_zip hb).2) fun out h1 h2 => ?_
  obtain ⟨ep, he'⟩ := PyProof.Rows.sortedAll_at s.heap its out.toArray
  have pm := List.mergeSort_perm (xs.zip ds) (PySem.W.dataLe false fun b : VD => b.2)
  refine ⟨.ref _, upd H (s.heap.objs.size + 1) (.lst (((xs.zip ds).mergeSort (PySem.W.dataLe false fun b : VD => b.2)).map (·.1))), I.laid (t' := s.toks) (fun _ _ => PyProof.Rows.sortedAll_old) (Nat.le_succ _) ⟨?_, out, ep, vals_each h2, by simpa using he'⟩, rfl, q _ _ pm (I.hok.fresh (Nat.le_succ _))⟩
  rw [List.length_map, pm.length_eq, List.length_zip]
  omega
end DL
/-! DLt: sorted of alike data, read by content: the same items in some order. -/
namespace DL
open PySem PySem.Spec L2
open PyProof.Rows hiding St
variable [anc : Anc]
theorem denL_perm {K : PySem.W.Frag} {F : Hp} {bs cs : List VD} (h : bs.Perm cs) : ∀ {xs : List D}, DenL K F (cs.map (·.1)) xs → ∃ ys, ys.Perm xs ∧ DenL K F (bs.map (·.1)) ys := by
  induction h with
  | nil => exact fun {xs} h => ⟨xs, .refl _, h⟩
  | cons x _ ih =>
    intro xs h
    cases h with
    | cons h1 h2 =>
      obtain ⟨ys, p, q⟩ := ih h2
      exact ⟨_ :: ys, p.cons _, .cons h1 q⟩
  | swap x y l =>
    intro xs h
    cases h with
    | cons h1 h2 =>
      cases h2 with
      | cons h3 h4 => exact ⟨_ :: _ :: _, .swap _ _ _, .cons h3 (.cons h1 h4)⟩
  | trans _ _ ih1 ih2 =>
    intro xs h
    obtain ⟨ys, p, q⟩ := ih2 h
    obtain ⟨zs, p2, q2⟩ := ih1 q
    exact ⟨zs, p2.trans p, q2⟩
def rdSortD (m : Bool) : DCall := fun ds μ k => match ds with
  | [d] => ∃ xs, lsR μ d = some xs ∧ D.pures xs = true ∧ PySem.W.AllAlike (D.pys xs) ∧ PySem.W.Sortable (D.pys xs) ∧ (∀ x ∈ D.pys xs, x.depth ≤ 60) ∧ ∀ ys : List D, ys.Perm xs → mk m ys μ k
  | _ => False
theorem cd_sortD {X : Cx} (hu : X.A.units + 65 < cLine) (m : Bool) : CallD X (.builtin "sorted") (rdSortD m) := ⟨_, call_sortD, fun F H μ xs ds k Q R Dx h C => by
  unfold rdSortD at h
  split at h
  · cases Dx with
    | cons h1 h2 =>
      cases h2
      obtain ⟨ns, q, hp, ha, hs, hd, h⟩ := h
      obtain ⟨p, vs, rfl, hq, hv⟩ := lsR_seq R h1 q
      refine ⟨p, vs, D.pys ns, rfl, hq, hv.dp R.same hp, ha, hs, fun d hdm => by have := hd d hdm; omega, fun bs a pm n => ?_⟩
      have el : vs.length = (D.pys ns).length := dpAll_len (hv.dp R.same hp)
      have em : (vs.zip (D.pys ns)).map (·.1) = vs := by
        rw [List.map_fst_zip]; omega
      obtain ⟨ys, p1, p2⟩ := denL_perm pm (xs := ns) (by rw [em]; exact hv)
      exact mk_ok R p2 (h ys p1) C n
  · exact h.elim⟩
/-- x in a tuple of data -/
theorem op_inT {X : Cx} (hu : X.A.units + 65 < cLine) : OpR X (compareOp .In) (fun x y H Q => ∃ d ds, Dp X.K H x d ∧ Dp X.K H y (.tuple ds) ∧ SeqAt.shaped d = true ∧ SeqAt.shaped (.tuple ds) = true ∧ Q (.bl (ds.any fun z => PyData.eqv z d)) H) := by
  intro pins s σ H x y v u Q I rx ry h
  obtain ⟨d, ds, hd, he, sd, se, q⟩ := h
  obtain ⟨as, r1⟩ := Dp.reads I d x v hd rx
  obtain ⟨bs, r2⟩ := Dp.reads I (.tuple ds) y u he ry
  exact SeqAt.in_tuple_reads r2 r1 (SeqAt.canLay_of_shaped se) (SeqAt.canLay_of_shaped sd) (room_in_shaped sd hu) ⟨.bl _, H, I, rfl, q⟩
theorem op_notInT {X : Cx} (hu : X.A.units + 65 < cLine) : OpR X (compareOp .NotIn) (fun x y H Q => ∃ d ds, Dp X.K H x d ∧ Dp X.K H y (.tuple ds) ∧ SeqAt.shaped d = true ∧ SeqAt.shaped (.tuple ds) = true ∧ Q (.bl (!ds.any fun z => PyData.eqv z d)) H) := by
  intro pins s σ H x y v u Q I rx ry h
  obtain ⟨d, ds, hd, he, sd, se, q⟩ := h
  obtain ⟨as, r1⟩ := Dp.reads I d x v hd rx
  obtain ⟨bs, r2⟩ := Dp.reads I (.tuple ds) y u he ry
  exact SeqAt.notIn_tuple_reads r2 r1 (SeqAt.canLay_of_shaped se) (SeqAt.canLay_of_shaped sd) (room_in_shaped sd hu) ⟨.bl _, H, I, rfl, q⟩
def rdInT (neg : Bool) : D2 := fun d e μ k => match e with
  | .tup ds => okD (der μ d) ∧ okD (.tup ds) ∧ k (.bl (if neg then !memD (der μ d) ds else memD (der μ d) ds)) μ
  | _ => False
theorem opd_inT {X : Cx} (hu : X.A.units + 65 < cLine) : OpD X (compareOp .In) (rdInT false) := ⟨_, op_inT hu, fun F H μ x y d e k Q R Dx Dy h Cn => by
  cases e with
  | tup ds =>
    obtain ⟨h1, h2, h3⟩ := h
    refine ⟨_, D.pys ds, der_dp R Dx h1.1, Dy.dp R.same h2.1, h1.2, h2.2, ?_⟩
    rw [pys_any]
    exact Cn _ _ F _ _ h3 .refl R (.bl _)
  | _ => exact h.elim⟩
theorem opd_notInT {X : Cx} (hu : X.A.units + 65 < cLine) : OpD X (compareOp .NotIn) (rdInT true) := ⟨_, op_notInT hu, fun F H μ x y d e k Q R Dx Dy h Cn => by
  cases e with
  | tup ds =>
    obtain ⟨h1, h2, h3⟩ := h
    refine ⟨_, D.pys ds, der_dp R Dx h1.1, Dy.dp R.same h2.1, h1.2, h2.2, ?_⟩
    rw [pys_any]
    exact Cn _ _ F _ _ h3 .refl R (.bl _)
  | _ => exact h.elim⟩
/-! a < b < c < d -/
def dChain3 (rd rd' rd'' : D2) (da db dc dd : DE) : DE := fun ρ μ k => da ρ μ fun d μ1 => db ρ μ1 fun e μ2 => rd d e μ2 fun c μ3 => ∃ b, c = .bl b ∧ if b = true then dc ρ μ3 fun f μ4 => rd' e f μ4 fun c' μ5 => ∃ b', c' = .bl b' ∧ (if b' = true then dd ρ μ5 fun g μ6 => rd'' f g μ6 k else k (.bl false) μ5) else k (.bl false) μ3
def tChain3 (r r' r'' : R2) (ta tb tc td : TE) : TE := fun σ H Q => ta σ H fun x H1 => tb σ H1 fun y H2 => r x y H2 fun z H3 => ∃ k, z = .bl k ∧
  (if k = true then tc σ H3 fun w' H4 => r' y w' H4 fun z' H5 => ∃ k', z' = .bl k' ∧ (if k' = true then td σ H5 fun u' H6 => r'' w' u' H6 Q else Q (.bl false) H5) else Q (.bl false) H3)
theorem pe_chain3 {X : Cx} {a b c d : Expr} {pos : Pos} {ta tb tc td : TE} {op op' op'' : CmpOp} {r r' r'' : R2} (ho : OpR X (compareOp op) r) (ho' : OpR X (compareOp op') r') (ho'' : OpR X (compareOp op'') r'') (ha : PE X a ta) (hb : PE X b tb) (hc : PE X c tc) (hd : PE X d td)
    (hm : lastMarks [op, op', op''] [b, c, d] = false := by with_unfolding_all rfl) : PE X (.Compare a [op, op', op''] [b, c, d] pos) (tChain3 r r' r'' ta tb tc td) := by
  refine ⟨fun pins s σ H Q I h => ?_⟩
  refine Compare_chain (thn (ha.run pins s σ H _ I h) fun v s1 ⟨x, H1, I1, r1, q1⟩ => chain_link (thn (hb.run pins s1 σ H1 _ I1 q1) fun u s2 ⟨y, H2, I2, r2, q2⟩ =>
    thn (ho pins s2 σ H2 x y v u _ I2 r1 r2 q2) fun d s3 ⟨z, H3, I3, r3, k, e, q3⟩ => ?_)) hm
  subst e
  cases r3
  refine wpAny_truthy_bool ?_
  cases k with
  | false => exact ite_ff ⟨.bl false, H3, I3, rfl, q3⟩
  | true =>
    refine ite_tt (chain_link (thn (hc.run pins s3 σ H3 _ I3 q3) fun w' s4 ⟨z', H4, I4, r4, q4⟩ => thn (ho' pins s4 σ H4 y z' u w' _ I4 r2 r4 q4) fun d s5 ⟨z5, H5, I5, r5, k', e', q5⟩ => ?_))
    subst e'
    cases r5
    refine wpAny_truthy_bool ?_
    cases k' with
    | false => exact ite_ff ⟨.bl false, H5, I5, rfl, q5⟩
    | true => exact ite_tt (chain_last (thn (hd.run pins s5 σ H5 _ I5 q5) fun w6 s6 ⟨z6, H6, I6, r6, q6⟩ => ho'' pins s6 σ H6 z' z6 w' w6 Q I6 r4 r6 q6))
theorem pd_chain3 {X : Cx} {a b c e : Expr} {pos : Pos} {da db dc dd : DE} {op op' op'' : CmpOp} {rd rd' rd'' : D2} (ho : OpD X (compareOp op) rd) (ho' : OpD X (compareOp op') rd') (ho'' : OpD X (compareOp op'') rd'') (ha : PD X a da) (hb : PD X b db) (hc : PD X c dc) (hd : PD X e dd) (hm : lastMarks [op, op', op''] [b, c, e] = false := by with_unfolding_all rfl) : PD X (.Compare a [op, op', op''] [b, c, e] pos) (dChain3 rd rd' rd'' da db dc dd) :=
  let ⟨_, h1, h2⟩ := ho
  let ⟨_, h1', h2'⟩ := ho'
  let ⟨_, h1'', h2''⟩ := ho''
  PE.imp (pe_chain3 h1 h1' h1'' ha hb hc hd hm) fun σ H Q ⟨F, ρ, μ, k, R, E, h, C⟩ => ⟨F, ρ, μ, _, R, E, h, fun d μ1 F1 v H1 h1 s1 R1 D1 => ⟨F1, ρ, μ1, _, R1, E.ext s1, h1, fun e μ2 F2 w H2 h3 s2 R2 D2 =>
    h2 F2 H2 μ2 v w d e _ _ R2 (D1.ext s2) D2 h3 fun z μ3 F3 zv H3 h4 s3 R3 D3 => by
      obtain ⟨bb, rfl, h4⟩ := h4
      cases D3
      refine ⟨bb, rfl, ?_⟩
      have C3 := C.mono ((s1.trans s2).trans s3)
      cases bb with
      | true =>
        rw [if_pos rfl] at h4 ⊢
        refine ⟨F3, ρ, μ3, _, R3, E.ext ((s1.trans s2).trans s3), h4, fun f μ4 F4 u H4 h5 s4 R4 D4 => h2' F4 H4 μ4 w u e f _ _ R4 (D2.ext (s3.trans s4)) D4 h5 fun z' μ5 F5 zv' H5 h6 s5 R5 D5 => ?_⟩
        obtain ⟨bb, rfl, h6⟩ := h6
        cases D5
        refine ⟨bb, rfl, ?_⟩
        have C5 := C3.mono (s4.trans s5)
        cases bb with
        | true =>
          rw [if_pos rfl] at h6 ⊢
          exact ⟨F5, ρ, μ5, _, R5, E.ext (((s1.trans s2).trans s3).trans (s4.trans s5)), h6, fun g μ6 F6 u6 H6 h7 s6 R6 D6 => h2'' F6 H6 μ6 u u6 f g k Q R6 (D4.ext (s5.trans s6)) D6 h7 (C5.mono s6)⟩
        | false =>
          rw [if_neg Bool.false_ne_true] at h6 ⊢
          exact C5 _ _ F5 _ _ h6 .refl R5 (.bl false)
      | false =>
        rw [if_neg Bool.false_ne_true] at h4 ⊢
        exact C3 _ _ F3 _ _ h4 .refl R3 (.bl false)⟩⟩
/-! min of pairs of ints -/
abbrev piD (p : Int × Int) : D := .tup [.int p.1, .int p.2]
def leP (p q : Int × Int) : Prop := p.1 < q.1 ∨ (p.1 = q.1 ∧ p.2 ≤ q.2)
theorem ltP (p q : Int × Int) : PySem.W.DatumOrd.lt p q = true ↔ ¬ leP q p := by
  show (if p.1 = q.1 then decide (p.2 < q.2) else decide (p.1 < q.1)) = true ↔ _
  unfold leP
  by_cases h : p.1 = q.1
  · rw [if_pos h, decide_eq_true_eq]; omega
  · rw [if_neg h, decide_eq_true_eq]; omega
theorem minOf_ok : ∀ (xs : List (Int × Int)) (x : Int × Int), (PySem.W.minOf x xs = x ∨ PySem.W.minOf x xs ∈ xs) ∧ leP (PySem.W.minOf x xs) x ∧ ∀ y ∈ xs, leP (PySem.W.minOf x xs) y
  | [], x => ⟨.inl rfl, .inr ⟨rfl, Int.le_refl _⟩, fun _ h => nomatch h⟩
  | z :: xs, x => by
    have tr : ∀ a b c : Int × Int, leP a b → leP b c → leP a c := fun a b c h1 h2 => by unfold leP at *; omega
    have e : PySem.W.minOf x (z :: xs) = PySem.W.minOf (if PySem.W.DatumOrd.lt z x = true then z else x) xs := rfl
    rw [e]
    by_cases h : PySem.W.DatumOrd.lt z x = true
    · rw [if_pos h]
      obtain ⟨h1, h2, h3⟩ := minOf_ok xs z
      have hz := (ltP z x).mp h
      have hzx : leP z x := by unfold leP at *; omega
      refine ⟨.inr ?_, tr _ _ _ h2 hzx, fun y hy => ?_⟩
      · rcases h1 with h1 | h1
        · rw [h1]; exact List.mem_cons_self ..
        · exact List.mem_cons_of_mem _ h1
      · rcases List.mem_cons.mp hy with rfl | hy
        · exact h2
        · exact h3 y hy
    · rw [if_neg h]
      obtain ⟨h1, h2, h3⟩ := minOf_ok xs x
      have hz : leP x z := Classical.byContradiction fun q => h ((ltP z x).mpr q)
      refine ⟨?_, h2, fun y hy => ?_⟩
      · rcases h1 with h1 | h1
        · exact .inl h1
        · exact .inr (List.mem_cons_of_mem _ h1)
      · rcases List.mem_cons.mp hy with rfl | hy
        · exact tr _ _ _ h2 hz
        · exact h3 y hy
theorem toD_pair (p : Int × Int) : PySem.W.Datum.toD p = .tuple [.int p.1, .int p.2] := rfl
theorem py_pi (p : Int × Int) : (piD p).py = PySem.W.Datum.toD p := rfl
theorem call_minP {X : Cx} (hc : X.calm = true) (hu : X.A.units + 65 < cLine) : CallR X (.builtin "min") (fun vs H Q => ∃ (a : Addr) (xs : List V) (ps : List (Int × Int)), vs = [V.ref a] ∧ SqL X.K H a xs ∧ DpAll X.K H xs (ps.map PySem.W.Datum.toD) ∧ ps ≠ [] ∧
    ∀ (i : Nat) x p, xs[i]? = some x → ps[i]? = some p → (∀ y ∈ ps, leP p y) → Q x H) := by
  intro pins s σ H vs us Q I r h
  obtain ⟨a, xs, ps, rfl, hs, hd, hne, q⟩ := h
  obtain ⟨its, rv, hl, hz⟩ := I.list hs
  rw [Vals.ref1 r]
  obtain ⟨p0, pr, rfl⟩ : ∃ p0 pr, ps = p0 :: pr := by
    cases ps with
    | nil => exact absurd rfl hne
    | cons p0 pr => exact ⟨p0, pr, rfl⟩
  obtain ⟨as, hr⟩ := Dp.readsAll I _ _ _ hd rv
  have hdep : PyData.depthAll ((p0 :: pr).map PySem.W.Datum.toD) ≤ 10 := by
    have : ∀ ps : List (Int × Int), PyData.depthAll (ps.map PySem.W.Datum.toD) ≤ 10 := by
      intro ps
      induction ps with
      | nil => simp [PyData.depthAll]
      | cons p ps ih =>
        rw [List.map_cons, toD_pair]
        simp only [PyData.depthAll, PyData.depth]
        omega
    exact this _
  refine PySem.W.min_list_data (I.ok.hd hc) hl.isList (x := PySem.W.Datum.toD p0) (xs := pr.map PySem.W.Datum.toD) (by simpa using hr) (PySem.W.alikeAll_datum (p0 :: pr)) (by have : PyData.depthAll (PySem.W.Datum.toD p0 :: pr.map PySem.W.Datum.toD) ≤ 10 := hdep; omega) fun i v h' tk bs hv hr2 hk => ?_
  have hv : its[i]? = some v := by simpa using hv
  have hi := (List.getElem?_eq_some_iff.mp hv).1
  have hlen := dpAll_len hd
  rw [List.length_map] at hlen
  have hx : i < xs.length := by rw [rv.length]; exact hi
  obtain ⟨u, hu2, ru⟩ := Vals.get rv (List.getElem?_eq_getElem hx)
  rw [hv] at hu2
  cases hu2
  have hp : i < (p0 :: pr).length := by omega
  have get : ∀ {xs : List V} {ds : List PyData} (i : Nat) (x : V) (d : PyData), DpAll X.K H xs ds → xs[i]? = some x → ds[i]? = some d → Dp X.K H x d := by
    intro xs ds i
    induction i generalizing xs ds with
    | zero =>
      intro x d h h1 h2
      cases h with
      | nil => cases h1
      | cons a _ => cases h1; cases h2; exact a
    | succ i ih =>
      intro x d h h1 h2
      cases h with
      | nil => cases h1
      | cons _ b => exact ih x d b h1 h2
  have hdp := get i _ _ hd (List.getElem?_eq_getElem hx) (by rw [List.getElem?_map, List.getElem?_eq_getElem hp]; rfl)
  obtain ⟨as1, r1⟩ := Dp.reads I _ _ _ hdp ru
  have r3 := PySem.W.reads_keeps hk r1
  rw [PySem.W.minD_map] at hr2
  have e := PySem.W.alike_unique _ _ _ _ _ (PySem.W.DatumOrd.alike _ _) r3 hr2
  have e : (p0 :: pr)[i] = PySem.W.minOf p0 pr := by
    rw [toD_pair, toD_pair] at e
    simp only [PyData.tuple.injEq, List.cons.injEq, PyData.int.injEq, and_true] at e
    exact Prod.ext e.1 e.2
  refine ⟨xs[i], H, I.kept hk, ru, q i _ _ (List.getElem?_eq_getElem hx) (List.getElem?_eq_getElem hp) fun y hy => ?_⟩
  rw [e]
  obtain ⟨_, h2, h3⟩ := minOf_ok pr p0
  rcases List.mem_cons.mp hy with rfl | hy
  · exact h2
  · exact h3 y hy
def rdMinP : DCall := fun ds μ k => match ds with
  | [d] => ∃ ps : List (Int × Int), lsR μ d = some (ps.map piD) ∧ ps ≠ [] ∧ ∀ m ∈ ps, (∀ y ∈ ps, leP m y) → k (piD m) μ
  | _ => False
theorem pys_pi : ∀ ps : List (Int × Int), D.pys (ps.map piD) = ps.map PySem.W.Datum.toD
  | [] => rfl
  | p :: ps => by
    show (piD p).py :: D.pys (ps.map piD) = _
    rw [pys_pi ps]; rfl
theorem pures_pi : ∀ ps : List (Int × Int), D.pures (ps.map piD) = true
  | [] => rfl
  | p :: ps => by
    show ((piD p).pure && D.pures (ps.map piD)) = true
    rw [pures_pi ps]; rfl
theorem denL_get {K : PySem.W.Frag} {F : Hp} {xs : List V} {ds : List D} (h : DenL K F xs ds) : ∀ (i : Nat) (x : V) (d : D), xs[i]? = some x → ds[i]? = some d → Den K F x d := by
  intro i
  induction i generalizing xs ds with
  | zero =>
    intro x d h1 h2
    cases h with
    | nil => cases h1
    | cons a _ => cases h1; cases h2; exact a
  | succ i ih =>
    intro x d h1 h2
    cases h with
    | nil => cases h1
    | cons _ b => exact ih b x d h1 h2
theorem cd_minP {X : Cx} (hc : X.calm = true) (hu : X.A.units + 65 < cLine) : CallD X (.builtin "min") rdMinP := ⟨_, call_minP hc hu, fun F H μ xs ds k Q R Dx h C => by
  unfold rdMinP at h
  split at h
  · cases Dx with
    | cons h1 h2 =>
      cases h2
      obtain ⟨ps, q, hne, h⟩ := h
      obtain ⟨p, vs, rfl, hs, hd⟩ := lsR_seq R h1 q
      have hdp := hd.dp R.same (pures_pi ps)
      rw [pys_pi] at hdp
      refine ⟨p, vs, ps, rfl, hs, hdp, hne, fun i x m hx hm hle => C _ _ F _ _ (h m (List.mem_of_getElem? hm) hle) .refl R (denL_get hd i x _ hx (by rw [List.getElem?_map, hm]; rfl))⟩
  · exact h.elim⟩
end DL
/-! DLu: sorted(set(xs)) and len(set(xs)) of a list of ints. -/
namespace DL
open PySem PySem.Spec L2
open PyProof.Rows hiding St
variable [anc : Anc]
/-- an empty set, as it is laid -/
abbrev emO (w : World) : Obj := { cls := .type "set", dict := none, data := .set #[] 0 (.fresh 0 0 (!w.params.followText "set-order")) }
section
variable {P : Program} {w : World} {A : Around} {E : Value → Shared → Prop} {s : Shared}
theorem set_of_listI {l : Addr} {vs : Array Value} (ns : List Int) {Q : Value → Shared → Prop} (hd : A.handled = none) (il : s.heap.IsList l vs) (ii : IntsAre vs.toList ns) (room : ns.length + 1 < scanBound)
    (fin : ∀ (hp : Heap) (tk c : Nat), SetR w hp s.heap.objs.size (fun j => decide (j ∈ ns)) c → c ≤ ns.length → (∀ b o, s.heap.get? b = some o → hp.get? b = some o) → Q (.ref s.heap.objs.size) { s with heap := hp, toks := tk }) :
    wpAny (model P w) A (call (.type "set") [.ref l]) Q E s := by
  have lv : vs.size = ns.length := by have := IntsAre.length ii; simpa using this
  obtain ⟨mc, mt, m1⟩ := F.called_set.mro
  have m2 := F.called_set.made; have m3 := F.called_set.sub
  refine wpAny_call (codeAny_of_tree (show wpAny _ _ (callAny (.type "set") _) _ _ _ from ?_))
  refine wpAny_pure ⟨Code.quiet_builtin _ (by decide +kernel), codeAny_builtin F.entry_type_call ?_⟩
  rw [Around.under_plain (weight_type_call_type "set" [.ref l] []) rfl]
  have m4 := F.called_set.notType; have m5 := F.called_set.canCreate; have m6 := F.typeCall_set_1 (.ref l)
  repeat (any_goals (first | assumption | wp_step))
  refine codeAny_mono (code_set_led1 (.ref l) (E := E) (Q₁ := fun ob t => ob = .ref s.heap.objs.size ∧ t = { s with heap := s.heap.push (emO w) }) ⟨rfl, rfl⟩) fun r t hr => ?_
  rcases r with er | (ob | _ | _ | _)
  all_goals first | exact hr | exact hr.elim | skip
  obtain ⟨rfl, rfl⟩ := hr
  have g0 : (s.heap.push (emO w)).get? s.heap.objs.size = some (emO w) := Heap.get?_push_size _ rfl
  have ty : Shared.TypeIs { s with heap := s.heap.push (emO w) } (.ref s.heap.objs.size) "set" := ⟨_, g0, rfl⟩
  have n1 := F.called_set.init.lookup; have n2 := F.called_set.init.bind (.ref s.heap.objs.size)
  repeat (any_goals (first | assumption | wp_step))
  refine codeAny_mono (codeAny_call_builtin (R := wants (fun r t => r = .none ∧ ∃ hp tk c, t = { s with heap := hp, toks := tk } ∧ SetR w hp s.heap.objs.size (fun j => decide (j ∈ ns)) c ∧ c ≤ ns.length ∧ ∀ b o, s.heap.get? b = some o → hp.get? b = some o) E) F.called_set.init.plain F.entry_set_init (check_set_init_1 ty ?_)) fun r t hr => ?_
  rotate_left
  · rcases r with er | (rv | _ | _ | _)
    all_goals first | exact hr | exact hr.elim | skip
    obtain ⟨rfl, hp, tk, c, rfl, k1, k2, k3⟩ := hr
    repeat (any_goals (first | assumption | wp_step))
    exact fin _ _ _ k1 k2 k3
  obtain ⟨⟨lc, ld, la, ls⟩, gl, q1, nl, q2⟩ := il
  simp only at q1 q2; subst q1 q2
  have gl1 := Heap.get?_push_of_some (emO w) gl
  have u1 := F.sub_list_set; have u2 := F.sub_list_frozenset
  have u3 : (Value.type "list" == Value.type "dict") = false := by decide
  have il1 : (s.heap.push (emO w)).IsList l vs := ⟨_, gl1, rfl, nl, rfl⟩
  unfold Builtin.«set.__init__» noKeywords Builtin.Frozenset.updateFrom
  generalize ePI : pyIter = PI
  wp_walk
  subst ePI
  refine wpAny_pyIter_list il1 (wpAny_bind (wpAny_runValue ?_))
  have llt : l < s.heap.objs.size := Heap.lt_size gl
  have sz1 : (s.heap.push (emO w)).objs.size = s.heap.objs.size + 1 := Heap.size_push ..
  have val : ∀ (i : Nat) (v : Value), vs[i]? = some v → ∃ k t, ns[i]? = some k ∧ v = .int k t := fun i v hv => by
    have hi : i < ns.length := lv ▸ (Array.getElem?_eq_some_iff.mp hv).1
    obtain ⟨t, e⟩ := IntsAre.int_at ii i v ((Array.getElem?_toList ..).trans hv)
    exact ⟨ns[i], t, List.getElem?_eq_getElem hi, by rw [e, List.getD_eq_getElem?_getD, List.getElem?_eq_getElem hi]; rfl⟩
  refine set_update_ints ((Walks.list (by simp [hd]) _ l (sz1 ▸ Nat.ne_of_lt (Nat.lt_succ_of_lt llt)) vs).toS) s.heap.objs.size (by rw [sz1]; simp only [List.mem_cons, List.not_mem_nil, or_false, not_or]; exact ⟨Nat.ne_of_lt (Nat.lt_succ_self _), Nat.ne_of_gt llt⟩) ns lv room val (vs.size - 0) 0 _ (by omega) (Nat.zero_le _) ⟨⟨_, Heap.get?_push_size _ rfl, rfl, rfl⟩, il1.push _⟩ ⟨0, Nat.le_refl 0, setR_new_at (Heap.get?_push_of_some _ g0)⟩ fun t c hm hc hS => ?_
  obtain ⟨hp, gs, dr, tk, os⟩ := t
  have e1 : gs = s.gens := hm.gens; have e2 : dr = s.drawn := hm.drawn; have e3 : os = s.os := hm.os
  subst e1 e2 e3
  show wpAny _ _ _ _ _ _
  refine wpAny_pure (show wpAny _ _ (ret Value.none) _ _ _ from wpAny_pure ⟨rfl, hp, tk, c, rfl, hS, lv ▸ hc, fun b o e => ?_⟩)
  have bl := Heap.lt_size e
  exact hm.heap b o (by rw [sz1]; simp only [List.mem_cons, List.not_mem_nil, or_false, not_or]; exact ⟨Nat.ne_of_lt bl, Nat.ne_of_lt (Nat.lt_succ_of_lt bl)⟩) (Heap.get?_push_of_some _ (Heap.get?_push_of_some _ e))
end
theorem bb_set : bootBuiltins "set" = some (.type "set") := by decide +kernel
theorem cr_setL {X : Cx} (hc : X.calm = true) : CallR X (.type "set") (fun vs H Q => ∃ (a : Addr) (ns : List Int), vs = [V.ref a] ∧ SqL X.K H a (ns.map V.int) ∧ ns.length < 1000 ∧ ∀ (p : Addr) (c : Nat), H p = none → c ≤ ns.length → Q (.ref p) (upd H p (SetO X.w p (fun j => decide (j ∈ ns)) c))) := by
  intro pins s σ H vs us Q I r h
  obtain ⟨a, ns, rfl, hs, h64, q⟩ := h
  obtain ⟨its, rv, hl, _⟩ := I.list hs
  rw [Vals.ref1 r]
  refine set_of_listI ns (I.ok.hd hc) hl.isList (by simpa using rv.ints) (by unfold scanBound; omega) fun hp tk c hS hc' hk => ?_
  exact ⟨.ref _, upd H s.heap.objs.size (SetO X.w s.heap.objs.size (fun j => decide (j ∈ ns)) c), I.laid (t' := tk) hk (Nat.le_refl _) (setO_new hS), rfl, q _ c (I.hok.fresh (Nat.le_refl _)) hc'⟩
def rdSortSet (m : Bool) : DCall := fun ds μ k => match ds with
  | [d] => ∃ ns : List Int, lsR μ d = some (ns.map D.int) ∧ ns.length < 64 ∧ ∀ ns' : List Int, ns'.Pairwise (· < ·) → (∀ k, k ∈ ns' ↔ k ∈ ns) → mk m (ns'.map D.int) μ k
  | _ => False
theorem pd_sortSet {X : Cx} {p p2 pos pos2 : Pos} {e : Expr} {da : DA} (m : Bool) (hc : X.calm = true) (hg : Gl X "sorted") (hm : X.mg "sorted" = none) (hg2 : Gl X "set") (hm2 : X.mg "set" = none) (ha : PDA X [e] da)
    (he : starEach [e] X.env = (false, eval e X.env) :: starEach [] X.env := by rfl) (hpl : (backTo pos2 (starEach [] X.env)).any (·.1) = false := by rfl)
    (he2 : starEach [Expr.Call (.Name "set" p2) [e] [] pos2] X.env = (false, eval (Expr.Call (.Name "set" p2) [e] [] pos2) X.env) :: starEach [] X.env := by rfl) (hpl2 : (backTo pos (starEach [] X.env)).any (·.1) = false := by rfl) :
    PD X (.Call (.Name "sorted" p) [.Call (.Name "set" p2) [e] [] pos2] [] pos) (dCB (rdSortSet m) da) :=
  PE.imp (pe_callB (cr_sortedSet hc) hg hm bb_sorted (pa_cons (pe_callTy (cr_setL hc) hg2 hm2 bb_set ha (by decide) (by decide) he hpl) pa_nil he2) (by decide) (by decide) he2 hpl2) fun σ H Q ⟨F, ρ, μ, k, R, E, h, C⟩ =>
    ⟨F, ρ, μ, _, R, E, h, fun ds μ1 F1 vs H1 h1 s1 R1 D1 => by
      unfold rdSortSet at h1
      split at h1
      · cases D1 with
        | cons a1 a2 =>
          cases a2
          obtain ⟨ns, q, hl, h1⟩ := h1
          obtain ⟨a, us, rfl, hs, hd⟩ := lsR_seq R1 a1 q
          rw [hd.ofInts] at hs
          refine ⟨a, ns, rfl, hs, by omega, fun b c nb hcl => ?_⟩
          refine ⟨b, _, c, rfl, upd_same, by omega, fun ns' b2 h3 h4 _ n2 => ?_⟩
          exact mk_ok (R1.dropped nb _) (DenL.ints ns') (h1 ns' h3 fun k => (h4 k).trans decide_eq_true_iff) ((C.mono s1).mono (.drop nb)) n2
      · exact h1.elim⟩
/-- the signs of a text, one by one -/
def chrsD (x : Str) : List D := x.cps.toList.map fun c => D.str ⟨#[c]⟩
def diStr (da : DE) : DI := fun ρ μ kk => da ρ μ fun d μ1 => match d with
  | .str x => kk (chrsD x) (fun _ => True) μ1
  | _ => False
theorem pdi_str {X : Cx} {tg e : Expr} {da : DE} (ha : PD X e da) : PDI X tg e (diStr da) :=
  PI.imp (pi_str ha) fun σ H RR ⟨F, ρ, μ, kk, R, E, h, C⟩ => ⟨F, ρ, μ, _, R, E, h, fun d μ1 F1 v H1 h1 s1 R1 D1 => by
    cases d with
    | str x =>
      cases D1
      refine ⟨x, rfl, C (chrsD x) _ μ1 F1 H1 _ h1 s1 R1 fun F2 H2 μ2 s2 R2 _ => ⟨fun i hi => ?_, ?_⟩⟩
      · unfold chrsD at hi
        rw [List.length_map, Array.length_toList] at hi
        refine ⟨hi, fun y H3 hy => ?_⟩
        obtain ⟨rfl, c, hc, rfl⟩ := hy
        refine ⟨F2, .refl, R2, .str ⟨#[c]⟩, ?_, .str _⟩
        unfold chrsD
        rw [List.getElem?_map, Array.getElem?_toList, hc]; rfl
      · show x.cps.size ≤ (chrsD x).length
        unfold chrsD
        rw [List.length_map, Array.length_toList]
        exact Nat.le_refl _
    | _ => exact (show False from h1).elim⟩
/-- a tuple of the module -/
theorem pd_globT {X : Cx} {x : Str} {pos : Pos} {d : D} (hg : Gl X x) (hm : ∃ a : Addr, X.mg x = some (.ref a) ∧ ∀ F : Hp, Den X.K F (.ref a) d) (hd : (x == ("__debug__" : Str)) = false := by decide) : PD X (.Name x pos) (dC d) :=
  let ⟨a, h1, h2⟩ := hm
  pd_globD (v := .ref a) hg h1 rfl h2 hd
end DL
/-! DLv: max(list of ints, default=d); sorted(set(list of small ints)). -/
namespace DL
open PySem PySem.Spec L2
open PyProof.Rows hiding St
variable [anc : Anc]
theorem nodup_le : ∀ (N : Nat) (l : List Int), l.Nodup → (∀ j ∈ l, 0 ≤ j ∧ j < (N : Int)) → l.length ≤ N
  | 0, l, _, h => by
    cases l with
    | nil => exact Nat.le_refl _
    | cons a l => have := h a (List.mem_cons_self ..); omega
  | N + 1, l, hn, h => by
    have h1 := nodup_le N (l.erase (N : Int)) (hn.erase _) fun j hj => by
      have h2 := h j (List.mem_of_mem_erase hj)
      have h3 : j ≠ (N : Int) := fun e => by
        subst e
        exact (List.Nodup.not_mem_erase hn) hj
      omega
    by_cases q : (N : Int) ∈ l
    · rw [List.length_erase_of_mem q] at h1; omega
    · rw [List.erase_of_not_mem q] at h1; omega
theorem cr_setB {X : Cx} (hc : X.calm = true) : CallR X (.type "set") (fun vs H Q => ∃ (a : Addr) (ns : List Int), vs = [V.ref a] ∧ SqL X.K H a (ns.map V.int) ∧ ns.length < 1000 ∧ (∀ j ∈ ns, 0 ≤ j ∧ j < 60) ∧ ∀ (p : Addr) (c : Nat), H p = none → c ≤ 60 → Q (.ref p) (upd H p (SetO X.w p (fun j => decide (j ∈ ns)) c))) := by
  intro pins s σ H vs us Q I r h
  obtain ⟨a, ns, rfl, hs, h64, hb, q⟩ := h
  obtain ⟨its, rv, hl, _⟩ := I.list hs
  rw [Vals.ref1 r]
  refine set_of_listI ns (I.ok.hd hc) hl.isList (by simpa using rv.ints) (by unfold scanBound; omega) fun hp tk c hS hc' hk => ?_
  have h60 : c ≤ 60 := by
    obtain ⟨o, es, ep, t, _, _, _, _, hnd, hkey, _, _, e, _⟩ := hS
    have := nodup_le 60 _ hnd fun j hj => hb j (of_decide_eq_true ((hkey j).mpr hj))
    rw [List.length_map, Array.length_toList] at this
    omega
  exact ⟨.ref _, upd H s.heap.objs.size (SetO X.w s.heap.objs.size (fun j => decide (j ∈ ns)) c), I.laid (t' := tk) hk (Nat.le_refl _) (setO_new hS), rfl, q _ c (I.hok.fresh (Nat.le_refl _)) h60⟩
def rdSortSetB (m : Bool) : DCall := fun ds μ k => match ds with
  | [d] => ∃ ns : List Int, lsR μ d = some (ns.map D.int) ∧ ns.length < 1000 ∧ (∀ j ∈ ns, 0 ≤ j ∧ j < 60) ∧ ∀ ns' : List Int, ns'.Pairwise (· < ·) → (∀ k, k ∈ ns' ↔ k ∈ ns) → mk m (ns'.map D.int) μ k
  | _ => False
theorem pd_sortSetB {X : Cx} {p p2 pos pos2 : Pos} {e : Expr} {da : DA} (m : Bool) (hc : X.calm = true) (hg : Gl X "sorted") (hm : X.mg "sorted" = none) (hg2 : Gl X "set") (hm2 : X.mg "set" = none) (ha : PDA X [e] da)
    (he : starEach [e] X.env = (false, eval e X.env) :: starEach [] X.env := by rfl) (hpl : (backTo pos2 (starEach [] X.env)).any (·.1) = false := by rfl)
    (he2 : starEach [Expr.Call (.Name "set" p2) [e] [] pos2] X.env = (false, eval (Expr.Call (.Name "set" p2) [e] [] pos2) X.env) :: starEach [] X.env := by rfl) (hpl2 : (backTo pos (starEach [] X.env)).any (·.1) = false := by rfl) :
    PD X (.Call (.Name "sorted" p) [.Call (.Name "set" p2) [e] [] pos2] [] pos) (dCB (rdSortSetB m) da) :=
  PE.imp (pe_callB (cr_sortedSet hc) hg hm bb_sorted (pa_cons (pe_callTy (cr_setB hc) hg2 hm2 bb_set ha (by decide) (by decide) he hpl) pa_nil he2) (by decide) (by decide) he2 hpl2) fun σ H Q ⟨F, ρ, μ, k, R, E, h, C⟩ =>
    ⟨F, ρ, μ, _, R, E, h, fun ds μ1 F1 vs H1 h1 s1 R1 D1 => by
      unfold rdSortSetB at h1
      split at h1
      · cases D1 with
        | cons a1 a2 =>
          cases a2
          obtain ⟨ns, q, hl, hb, h1⟩ := h1
          obtain ⟨a, us, rfl, hs, hd⟩ := lsR_seq R1 a1 q
          rw [hd.ofInts] at hs
          refine ⟨a, ns, rfl, hs, by omega, hb, fun b c nb hcl => ?_⟩
          refine ⟨b, _, c, rfl, upd_same, by omega, fun ns' b2 h3 h4 _ n2 => ?_⟩
          exact mk_ok (R1.dropped nb _) (DenL.ints ns') (h1 ns' h3 fun k => (h4 k).trans decide_eq_true_iff) ((C.mono s1).mono (.drop nb)) n2
      · exact h1.elim⟩
theorem maxOf_ok : ∀ (xs : List Int) (x : Int), (PySem.W.maxOf x xs = x ∨ PySem.W.maxOf x xs ∈ xs) ∧ x ≤ PySem.W.maxOf x xs ∧ ∀ y ∈ xs, y ≤ PySem.W.maxOf x xs
  | [], x => ⟨.inl rfl, Int.le_refl _, fun _ h => nomatch h⟩
  | z :: xs, x => by
    have e : PySem.W.maxOf x (z :: xs) = PySem.W.maxOf (if decide (x < z) = true then z else x) xs := rfl
    rw [e]
    by_cases h : x < z
    · rw [if_pos (decide_eq_true h)]
      obtain ⟨h1, h2, h3⟩ := maxOf_ok xs z
      refine ⟨.inr ?_, by omega, fun y hy => ?_⟩
      · rcases h1 with h1 | h1
        · rw [h1]; exact List.mem_cons_self ..
        · exact List.mem_cons_of_mem _ h1
      · rcases List.mem_cons.mp hy with rfl | hy
        · exact h2
        · exact h3 y hy
    · rw [if_neg (by simpa using h)]
      obtain ⟨h1, h2, h3⟩ := maxOf_ok xs x
      refine ⟨?_, h2, fun y hy => ?_⟩
      · rcases h1 with h1 | h1
        · exact .inl h1
        · exact .inr (List.mem_cons_of_mem _ h1)
      · rcases List.mem_cons.mp hy with rfl | hy
        · omega
        · exact h3 y hy
theorem dpAll_ints {K : PySem.W.Frag} {H : Hp} : ∀ ns : List Int, DpAll K H (ns.map V.int) (ns.map PySem.W.Datum.toD)
  | [] => .nil
  | n :: ns => .cons (.int n) (dpAll_ints ns)
theorem call_maxD {X : Cx} (hc : X.calm = true) (hu : X.A.units + 65 < cLine) : CallRK X (.builtin "max") [Str.ofString "default"] (fun vs zs H Q => ∃ (a : Addr) (ns : List Int) (d : Int), vs = [V.ref a] ∧ zs = [V.int d] ∧ SqL X.K H a (ns.map V.int) ∧ (ns = [] → Q (.int d) H) ∧
    ∀ m ∈ ns, (∀ y ∈ ns, y ≤ m) → Q (.int m) H) := by
  intro pins s σ H vs zs us ws Q I r rz h
  obtain ⟨a, ns, d, rfl, rfl, hs, q0, q⟩ := h
  obtain ⟨its, rv, hl, hz⟩ := I.list hs
  rw [Vals.ref1 r]
  obtain ⟨w1, rfl, e1⟩ := vals1 rz
  obtain ⟨as, hr⟩ := Dp.readsAll I _ _ _ (dpAll_ints ns) rv
  have hii := rv.ints
  refine PySem.W.max_list_datum_default (α := Int) (xs := ns) (I.ok.hd hc) hl.isList ⟨as, by simpa using hr⟩ (by show _ + 1 + 0 < _; omega) (fun e h' tk hk => ⟨.int d, H, I.kept hk, e1, q0 e⟩) fun y ys i v h' tk e hv hh hk => ?_
  have hv : its[i]? = some v := by simpa using hv
  have hi := (List.getElem?_eq_some_iff.mp hv).1
  obtain ⟨t, ev⟩ := IntsAre.int_at hii i v hv
  obtain ⟨bs, hr2⟩ := hh
  subst e
  have hx : i < ((y :: ys).map V.int).length := by rw [rv.length]; exact hi
  have hp : i < (y :: ys).length := by rw [List.length_map] at hx; exact hx
  obtain ⟨u, hu2, ru⟩ := Vals.get rv (List.getElem?_eq_getElem hx)
  rw [hv] at hu2
  cases hu2
  rw [List.getElem_map] at ru
  obtain ⟨as1, r1⟩ := Dp.reads I _ _ _ (Dp.int (y :: ys)[i]) ru
  have r3 := PySem.W.reads_keeps hk r1
  have e := PySem.W.alike_unique _ _ _ _ _ (PySem.W.DatumOrd.alike (α := Int) _ _) r3 hr2
  have e : (y :: ys)[i] = PySem.W.maxOf y ys := by
    injection e
  obtain ⟨hm, h2, h3⟩ := maxOf_ok ys y
  refine ⟨V.int (y :: ys)[i], H, I.kept hk, ru, q _ (List.getElem_mem hp) fun z hz => ?_⟩
  rw [e]
  rcases List.mem_cons.mp hz with rfl | hz
  · exact h2
  · exact h3 z hz
def dMaxK (k : KD) (μ : Mu) (ds es : List D) : Prop := ∃ (d : D) (i : Int) (ns : List Int), ds = [d] ∧ es = [.int i] ∧ lsR μ d = some (ns.map D.int) ∧ (ns = [] → k (.int i) μ) ∧ ∀ m ∈ ns, (∀ y ∈ ns, y ≤ m) → k (.int m) μ
/-- max(list of ints, default=d) -/
def dMaxD (da dk : DA) : DE := fun ρ μ k => da ρ μ fun ds μ1 => dk ρ μ1 fun es μ2 => dMaxK k μ2 ds es
theorem pd_maxD {X : Cx} {p pos kpos : Pos} {e e2 : Expr} {da : DA} {de : DE} (hc : X.calm = true) (hu : X.A.units + 65 < cLine) (hg : Gl X "max") (hm : X.mg "max" = none) (ha : PDA X [e] da) (he2 : PD X e2 de)
    (he : backTo pos (starEach [e] X.env) = (false, eval e X.env) :: backTo pos (starEach [] X.env) := by rfl) (hpl : (backTo pos (starEach [e] X.env)).any (·.1) = false := by rfl)
    (hall : (backToKw pos (keywordEach [⟨some "default", e2, kpos⟩] X.env)).all (·.1.isSome) = true := by rfl) (hnone : (backToKw pos (keywordEach [⟨some "default", e2, kpos⟩] X.env)).any (·.1.isNone) = false := by rfl)
    (hks : (backToKw pos (keywordEach [⟨some "default", e2, kpos⟩] X.env)).filterMap (·.1) = [Str.ofString "default"] := by rfl) :
    PD X (.Call (.Name "max" p) [e] [⟨some "default", e2, kpos⟩] pos) (dMaxD da (dCons de dNil)) :=
  PE.imp (pe_callBK (call_maxD hc hu) hg hm bb_max ha (pk_cons he2 pk_nil) (by decide) (by decide) he hpl hall hnone hks) fun σ H Q ⟨F, ρ, μ, k, R, E, h, C⟩ =>
    ⟨F, ρ, μ, _, R, E, h, fun ds μ1 F1 vs H1 h1 s1 R1 D1 => ⟨F1, ρ, μ1, _, R1, E.ext s1, h1, fun d μ2 F2 v H2 h2 s2 R2 D2 => by
      show ∃ (a : Addr) (ns : List Int) (d : Int), _
      have h2 : dMaxK k μ2 ds [d] := h2
      obtain ⟨d0, i, ns, rfl, e1, q, q0, q1⟩ := h2
      cases e1
      cases D1 with
      | cons a1 a2 =>
        cases a2
        obtain ⟨a, us, rfl, hs, hd⟩ := lsR_seq R2 (a1.ext s2) q
        rw [hd.ofInts] at hs
        cases D2
        exact ⟨a, ns, i, rfl, rfl, hs, fun e => C _ _ F2 _ _ (q0 e) (s1.trans s2) R2 (.int _), fun m hm hle => C _ _ F2 _ _ (q1 m hm hle) (s1.trans s2) R2 (.int _)⟩⟩⟩
end DL
/-! DLw: == of data of any depth with small data. -/
namespace DL
open PySem PySem.Spec L2
open PyProof.Rows hiding St
variable [anc : Anc]
def okN (d : D) : Prop := d.pure = true ∧ d.py.canLay0 = true
def rdEqM : D2 := fun d e μ k => okN (der μ d) ∧ okN (der μ e) ∧ (der μ e).py.depth ≤ 64 ∧ k (.bl (eqD (der μ d) (der μ e))) μ
theorem op_eqM {X : Cx} (hu : X.A.units + 64 < cLine) : OpR X (compareOp .Eq) (fun x y H Q => ∃ d e, Dp X.K H x d ∧ Dp X.K H y e ∧ d.canLay0 = true ∧ e.canLay0 = true ∧ e.depth ≤ 64 ∧ Q (.bl (PyData.eqv d e)) H) := by
  intro pins s σ H x y v u Q I rx ry h
  obtain ⟨d, e, hd, he, sd, se, hdep, q⟩ := h
  obtain ⟨as, r1⟩ := Dp.reads I d x v hd rx
  obtain ⟨bs, r2⟩ := Dp.reads I e y u he ry
  refine SeqAt.compareEq_reads r1 r2 sd se ?_ ⟨.bl _, H, I, rfl, q⟩
  have := Nat.min_le_right d.depth e.depth
  omega
theorem opd_eqM {X : Cx} (hu : X.A.units + 64 < cLine) : OpD X (compareOp .Eq) rdEqM := ⟨_, op_eqM hu, fun F H μ x y d e k Q R Dx Dy ⟨h1, h2, h3, h4⟩ Cn =>
  ⟨_, _, der_dp R Dx h1.1, der_dp R Dy h2.1, h1.2, h2.2, h3, Cn _ _ F _ _ h4 .refl R (.bl _)⟩⟩
end DL
/-! DLy: texts: str of an int, split, join. -/
namespace DL
open PySem PySem.Spec L2
open PyProof.Rows hiding St
variable [anc : Anc]
def rdStr : DCall := fun ds μ k => match ds with
  | [.int i] => i.natAbs.log2 < 1920 ∧ k (.str (toString i)) μ
  | _ => False
section
variable {X : Cx}
theorem cd_str : CallD X (.type "str") rdStr := ⟨_, call_str_int, fun F H μ xs ds k Q R Dx h C => by
  unfold rdStr at h
  split at h
  · rename_i i
    cases Dx with
    | cons h1 h2 => cases h1; cases h2; exact ⟨i, rfl, h.1, C _ _ F _ _ h.2 .refl R (.str _)⟩
  · exact h.elim⟩
theorem bb_str : bootBuiltins "str" = some (.type "str") := by decide +kernel
def dSM1 (rd : DMt) (da de : DE) : DE := fun ρ μ k => da ρ μ fun d μ1 => (∃ a, d = .str a) ∧ de ρ μ1 fun e μ2 => rd d [e] μ2 k
theorem pd_sm1 {o e : Expr} {da de : DE} {name : Str} {apos pos : Pos} {id : String} {rd : DMt} (slot : Slot "str" name id) (ty : typeOf (.builtin id) = pure (.type "method_descriptor")) (hm : MtD X id rd) (ho : PD X o da) (he : PD X e de)
    (hs : starEach [e] X.env = [(false, eval e X.env)] := by rfl) (hbase : attributeBase o name X.env (eval o X.env) = eval o X.env := by rfl) (hline : (apos.endLine == pos.line) = true := by rfl) :
    PD X (.Call (.Attribute o name apos) [e] [] pos) (dSM1 rd da de) :=
  let ⟨_, h1, h2⟩ := hm
  PE.imp (pe_m1 slot ty h1 ho he hs hbase hline) fun σ H Q ⟨F, ρ, μ, k, R, E, h, C⟩ => ⟨F, ρ, μ, _, R, E, h, fun d μ1 F1 v H1 ⟨⟨a, hx⟩, h3⟩ s1 R1 D1 =>
    ⟨by subst hx; cases D1; exact ⟨a, rfl⟩, ⟨F1, ρ, μ1, _, R1, E.ext s1, h3, fun e μ2 F2 y H2 h4 s2 R2 D2 => h2 F2 H2 μ2 v d [y] [e] k Q R2 (D1.ext s2) (.cons D2 .nil) h4 (C.mono (s1.trans s2))⟩⟩⟩
theorem DenL.strs {K : PySem.W.Frag} {F : Hp} : ∀ ys : List Str, DenL K F (ys.map V.str) (ys.map D.str)
  | [] => .nil
  | y :: ys => .cons (.str y) (DenL.strs ys)
def rdSplit (m : Bool) : DMt := fun d ds μ k => match d, ds with
  | .str a, [.str b] => (b.length == 0) = false ∧ a.length + 2 ≤ sizeLine ∧ mk m ((Txt.split a b).map D.str) μ k
  | _, _ => False
theorem md_split (m : Bool) : MtD X "str.split" (rdSplit m) := ⟨_, mt_split, fun F H μ x d xs ds k Q R Dx Ds h C => by
  unfold rdSplit at h
  split at h
  · rename_i a b
    cases Dx
    cases Ds with
    | cons h1 h2 =>
      cases h1; cases h2
      exact ⟨a, b, rfl, rfl, h.1, h.2.1, fun p n => mk_ok R (DenL.strs _) h.2.2 C n⟩
  · exact h.elim⟩
/-- texts of a list or tuple, joined -/
def strsD : List D → Option (List Str)
  | [] => some []
  | .str a :: ds => (strsD ds).map (a :: ·)
  | _ :: _ => none
theorem strsD_some : ∀ {ds : List D} {ys : List Str}, strsD ds = some ys → ds = ys.map D.str
  | [], ys, h => by cases h; rfl
  | .str a :: ds, ys, h => by
    unfold strsD at h
    cases q : strsD ds with
    | none => rw [q] at h; cases h
    | some zs => rw [q] at h; cases h; rw [strsD_some q]; rfl
  | .non :: _, _, h => nomatch h
  | .bl _ :: _, _, h => nomatch h
  | .int _ :: _, _, h => nomatch h
  | .tup _ :: _, _, h => nomatch h
  | .lst _ :: _, _, h => nomatch h
  | .ref _ :: _, _, h => nomatch h
  | .ty _ :: _, _, h => nomatch h
  | .scr _ :: _, _, h => nomatch h
  | .obj _ _ _ :: _, _, h => nomatch h
theorem strsD_map : ∀ ys : List Str, strsD (ys.map D.str) = some ys
  | [] => rfl
  | y :: ys => by rw [List.map_cons]; unfold strsD; rw [strsD_map ys]; rfl
/-- a part of a text -/
def dSlT (da : DE) (dl dh : DO) : DE := fun ρ μ k => da ρ μ fun d μ1 => dl ρ μ1 fun lo μ2 => dh ρ μ2 fun hi μ3 => ∃ z, d = .str z ∧ z.length ≤ sizeLine ∧ k (.str (cutS z lo hi)) μ3
theorem pd_slT {a : Expr} {da : DE} {lo hi : Option Expr} {pos p2 : Pos} {dl dh : DO} (ha : PD X a da) (hl : PDO X lo dl) (hh : PDO X hi dh) : PD X (.Subscript a (.Slice lo hi none p2) pos) (dSlT da dl dh) :=
  PE.imp (pe_slice sl_str ha hl hh) fun σ H Q ⟨F, ρ, μ, k, R, E, h, C⟩ => ⟨F, ρ, μ, _, R, E, h, fun d μ1 F1 v H1 h1 s1 R1 D1 => ⟨F1, ρ, μ1, _, R1, E.ext s1, h1, fun lo μ2 F2 H2 h2 s2 R2 =>
    ⟨F2, ρ, μ2, _, R2, E.ext (s1.trans s2), h2, fun hi μ3 F3 H3 h3 s3 R3 => by
      obtain ⟨z, rfl, hz, h4⟩ := h3
      cases D1
      exact ⟨z, rfl, hz, C _ _ F3 _ _ h4 ((s1.trans s2).trans s3) R3 (.str _)⟩⟩⟩⟩
end
end DL
/-! DLz: str of data, join of texts. -/
namespace DL
open PySem PySem.Spec L2
open PyProof.Rows hiding St
variable [anc : Anc]
theorem call_strD {X : Cx} (hg : X.A.guards = some []) : CallR X (.type "str") (fun xs H Q => ∃ v d, xs = [v] ∧ Dp X.K H v d ∧ (∃ a, v = .ref a) ∧ d.showable = true ∧ d.hasDict = false ∧ d.shown.length ≤ sizeLine ∧ X.A.units + (d.depth + 3) < cLine ∧ Q (.str d.shown) H) := by
  intro pins s σ H xs us Q I r h
  obtain ⟨v, d, rfl, hd, ⟨a, rfl⟩, h1, h2, h3, h4, q⟩ := h
  obtain ⟨u, rfl, rv⟩ := L2.vals1 r
  obtain ⟨as, rd⟩ := Dp.reads I d _ u hd rv
  have e : u = .ref a := rv
  subst e
  exact str_of_reads rd h1 (PyData.noDict_hsm h2) hg h4 (fun _ _ e => e) (fun h' u tk hk => ⟨.str d.shown, H, I.kept hk, ⟨u, rfl⟩, q⟩) h3
def rdStrD : DCall := fun ds μ k => match ds with
  | [.int i] => i.natAbs.log2 < 1920 ∧ k (.str (toString i)) μ
  | [.str x] => k (.str x) μ
  | [.tup xs] => ShowD (.tup xs) ∧ k (.str (D.tup xs).py.shown) μ
  | [.lst xs] => ShowD (.lst xs) ∧ k (.str (D.lst xs).py.shown) μ
  | _ => False
theorem cd_strD {X : Cx} {k : Nat} (hr : RoomG k X.A) : CallD X (.type "str") rdStrD := ⟨_, CallR.or (CallR.or call_str_int SkE.call_str_str) (call_strD hr.gd), fun F H μ xs ds k Q R Dx h C => by
  have := hr.rm.un
  unfold rdStrD at h
  split at h
  · rename_i i
    cases Dx with
    | cons h1 h2 => cases h1; cases h2; exact .inl (.inl ⟨i, rfl, h.1, C _ _ F _ _ h.2 .refl R (.str _)⟩)
  · rename_i x
    cases Dx with
    | cons h1 h2 => cases h1; cases h2; exact .inl (.inr ⟨x, rfl, C _ _ F _ _ h .refl R (.str _)⟩)
  · cases Dx with
    | cons h1 h2 =>
      cases h2
      obtain ⟨S, h⟩ := h
      have dp := S.dp
      refine .inr ⟨_, _, rfl, der_dp R h1 S.pu, ?_, S.sh, D.py_noDict _, S.sz, ?_, C _ _ F _ _ h .refl R (.str _)⟩
      · cases h1; exact ⟨_, rfl⟩
      · show X.A.units + ((D.tup _).py.depth + 3) < cLine
        omega
  · cases Dx with
    | cons h1 h2 =>
      cases h2
      obtain ⟨S, h⟩ := h
      have dp := S.dp
      refine .inr ⟨_, _, rfl, der_dp R h1 S.pu, ?_, S.sh, D.py_noDict _, S.sz, ?_, C _ _ F _ _ h .refl R (.str _)⟩
      · cases h1; exact ⟨_, rfl⟩
      · show X.A.units + ((D.lst _).py.depth + 3) < cLine
        omega
  · exact h.elim⟩
/-- of an int or a text -/
def rdStrS : DCall := fun ds μ k => match ds with
  | [.int i] => i.natAbs.log2 < 1920 ∧ k (.str (toString i)) μ
  | [.str x] => k (.str x) μ
  | _ => False
theorem cd_strS {X : Cx} : CallD X (.type "str") rdStrS := ⟨_, CallR.or call_str_int SkE.call_str_str, fun F H μ xs ds k Q R Dx h C => by
  unfold rdStrS at h
  split at h
  · rename_i i
    cases Dx with
    | cons h1 h2 => cases h1; cases h2; exact .inl ⟨i, rfl, h.1, C _ _ F _ _ h.2 .refl R (.str _)⟩
  · rename_i x
    cases Dx with
    | cons h1 h2 => cases h1; cases h2; exact .inr ⟨x, rfl, C _ _ F _ _ h .refl R (.str _)⟩
  · exact h.elim⟩
theorem DenL.strs_of {K : PySem.W.Frag} {F : Hp} : ∀ {vs : List V} {ys : List Str}, DenL K F vs (ys.map D.str) → vs = ys.map V.str
  | _, [], .nil => rfl
  | _, y :: ys, .cons h t => by
    cases h
    rw [DenL.strs_of t]; rfl
def rdJoin : DMt := fun d ds μ k => match d, ds with
  | .str a, [e] => ∃ ys : List Str, (e = .tup (ys.map D.str) ∨ lsR μ e = some (ys.map D.str)) ∧ (ys.map (·.length)).sum + ys.length * a.length ≤ 16777216 ∧ k (.str (Txt.join a ys)) μ
  | _, _ => False
theorem md_join {X : Cx} : MtD X "str.join" rdJoin := ⟨_, mt_join, fun F H μ x d xs ds k Q R Dx Ds h C => by
  unfold rdJoin at h
  split at h
  · rename_i a e
    cases Dx
    cases Ds with
    | cons h1 h2 =>
      cases h2
      obtain ⟨ys, he, hz, h⟩ := h
      rcases he with rfl | he
      · cases h1 with
        | tup hs hd =>
          have := hd.strs_of
          subst this
          exact ⟨a, _, ys, rfl, rfl, .inr (seqT_mono R.same hs), hz, C _ _ F _ _ h .refl R (.str _)⟩
      · obtain ⟨p, vs, rfl, hs, hd⟩ := lsR_seq R h1 he
        have := hd.strs_of
        subst this
        exact ⟨a, p, ys, rfl, rfl, .inl hs, hz, C _ _ F _ _ h .refl R (.str _)⟩
  · exact h.elim⟩
/-- range with a step -/
def uptoC (lo c : Int) (n : Nat) : List D := (List.range n).map fun (i : Nat) => D.int (lo + i * c)
theorem uptoC_get {lo c : Int} {n i : Nat} (h : i < n) : (uptoC lo c n)[i]? = some (.int (lo + i * c)) := by
  unfold uptoC
  rw [List.getElem?_map, List.getElem?_range h]; rfl
theorem uptoC_length {lo c : Int} {n : Nat} : (uptoC lo c n).length = n := by unfold uptoC; rw [List.length_map, List.length_range]
theorem uptoC_some {lo c : Int} {n i : Nat} {z : D} (h : (uptoC lo c n)[i]? = some z) : i < n ∧ z = .int (lo + i * c) := by
  have hi : i < n := by
    have := (List.getElem?_eq_some_iff.mp h).1
    rwa [uptoC_length] at this
  rw [uptoC_get hi] at h
  cases h
  exact ⟨hi, rfl⟩
def diRng3 (dr : DA) : DI := fun ρ μ kk => dr ρ μ fun ds μ1 => match ds with
  | [.int i, .int j, .int c] => ∃ n, RgC i j c n ∧ kk (uptoC i c n) (fun _ => True) μ1
  | _ => False
theorem it_rngC {K : PySem.W.Frag} {F : Hp} {lo c : Int} {n : Nat} {keep : Mu → Prop} : ItOk K F (Itc lo c n) (uptoC lo c n) keep := fun F1 H1 μ1 s R kp => by
  rw [uptoC_length]
  refine ⟨fun i hi => ⟨hi, fun x H2 hy => ?_⟩, Nat.le_refl _⟩
  obtain ⟨rfl, rfl⟩ := hy
  exact ⟨F1, .refl, R, _, uptoC_get hi, .int _⟩
theorem pdi_range3 {X : Cx} {tg : Expr} {a b c : Expr} {p pos : Pos} {dr : DA} (hg : Gl X "range") (hm : X.mg "range" = none) (ha : PDA X [a, b, c] dr)
    (hs : starEach [a, b, c] X.env = (false, eval a X.env) :: starEach [b, c] X.env := by rfl) (hpl : (backTo pos (starEach [b, c] X.env)).any (·.1) = false := by rfl) :
    PDI X tg (.Call (.Name "range" p) [a, b, c] [] pos) (diRng3 dr) :=
  PI.imp (pi_range3 hg hm ha hs hpl) fun σ H RR ⟨F, ρ, μ, kk, R, E, h, C⟩ => ⟨F, ρ, μ, _, R, E, h, fun ds μ1 F1 vs H1 h1 s1 R1 D1 => by
    split at h1
    · rename_i i j c
      obtain ⟨n, h1, h2⟩ := h1
      cases D1 with
      | cons q1 q2 => cases q1; cases q2 with
        | cons q2 q3 => cases q2; cases q3 with
          | cons q3 q4 => cases q3; cases q4; exact ⟨i, j, c, n, rfl, h1, C _ _ μ1 F1 H1 _ h2 s1 R1 it_rngC⟩
    · exact h1.elim⟩
/-- one sign in a text -/
def rdInS : D2 := fun d e μ k => match d, e with
  | .str x, .str z => ∃ c, x = ⟨#[c]⟩ ∧ k (.bl (decide (c ∈ z.cps.toList))) μ
  | _, _ => False
theorem opd_inS {X : Cx} : OpD X (compareOp .In) rdInS := ⟨_, op_inS, fun F H μ x y d e k Q R Dx Dy h Cn => by
  unfold rdInS at h
  split at h
  · rename_i x z
    obtain ⟨c, rfl, h⟩ := h
    cases Dx
    cases Dy
    exact ⟨c, z, rfl, rfl, Cn _ _ F _ _ h .refl R (.bl _)⟩
  · exact h.elim⟩
/-- int of a text -/
def rdIntT : DCall := fun ds μ k => match ds with
  | [.str a] => ∃ n, PySem.intText? a = some n ∧ a.length ≤ 640 ∧ k (.int n) μ
  | _ => False
theorem cd_intT {X : Cx} : CallD X (.type "int") rdIntT := ⟨_, call_int_str, fun F H μ xs ds k Q R Dx h C => by
  unfold rdIntT at h
  split at h
  · rename_i a
    obtain ⟨n, h1, h2, h3⟩ := h
    cases Dx with
    | cons h4 h5 => cases h4; cases h5; exact ⟨a, n, rfl, h1, h2, C _ _ F _ _ h3 .refl R (.int _)⟩
  · exact h.elim⟩
end DL
/-! DLx: lambdas that keep nothing of around them: made in the law, handed on, called. -/
namespace DL
open PySem PySem.Spec L2
open PyProof.Rows hiding St
theorem lamO_at {P : Program} {w : World} {H : Hp} {h : Heap} {a c : Addr} {L : LamT} (k : HOk P w H h) (e : H a = some (LamO a c L)) : ∃ m t : Value, h.get? a = some (PySem.W.kla_obj "<lambda>" L.q L.ps L.bd L.sc L.cl m c t) := by
  have z : ObjOk P w H h a (.ext fun h => ∃ m t : Value, h.get? a = some (PySem.W.kla_obj "<lambda>" L.q L.ps L.bd L.sc L.cl m c t)) := k a _ e
  exact z.1
theorem lamO_ok {P : Program} {w : World} {H : Hp} {h : Heap} {a c : Addr} {L : LamT} {m t : Value} (e : h.get? a = some (PySem.W.kla_obj "<lambda>" L.q L.ps L.bd L.sc L.cl m c t)) : ObjOk P w H h a (LamO a c L) :=
  ⟨⟨m, t, e⟩, ⟨_, e⟩, fun _ _ ⟨m, t, z⟩ k => ⟨m, t, k _ z⟩⟩
theorem codeO_at {P : Program} {w : World} {H : Hp} {h : Heap} {c : Addr} {q : Str} (k : HOk P w H h) (e : H c = some (LamX.CodeO c q)) : h.CodeRec (.ref c) q := by
  have z : ObjOk P w H h c (.ext fun h => ∃ (oc : Obj) (vs : Array Value) (t : Tok), h.get? c = some oc ∧ oc.data = .fields vs ∧ vs[1]? = some (.str q t)) := k c _ e
  obtain ⟨⟨oc, vs, t, z1, z2, z3⟩, _, _⟩ := z
  exact ⟨c, oc, vs, t, rfl, z1, z2, z3⟩
/-- no name is captured -/
abbrev Bare (sc : Scope) : Prop := ∀ y ∈ sc.names, y.2 ≠ .free
theorem clo_bare {cells : List (Str × Addr)} : ∀ {l : List (Str × NameKind)}, (∀ y ∈ l, y.2 ≠ .free) → cloFrom cells l [] = []
  | [], _ => rfl
  | (n, k) :: r, h => by
    have e : (k == NameKind.free) = false := by
      have := h _ (List.mem_cons_self ..)
      cases k <;> first | rfl | exact absurd rfl this
    show (if (k == NameKind.free) = true then _ else _) = _
    rw [e]
    exact clo_bare fun y hy => h y (List.mem_cons_of_mem _ hy)
section
variable [anc : Anc]
variable {X : Cx}
/-- a lambda, its code objects in the table at P -/
def dLam (P : Addr) (L : LamT) : DE := fun _ μ k => μ P = some (.tab L.q) ∧ ∀ f, μ f = none → k (.ref f) (mset μ f (.fn L))
/-- the step that lays the lambda's object at f, with its code object at c known -/
theorem lam_lays {K : PySem.W.Frag} {F H F1 H1 : Hp} {μ : Mu} {f c : Addr} {L : LamT} (e1 : Ext F H μ F1 H1 μ) (R1 : RepM K F1 H1 μ) (nf : H1 f = none) (hc : F1 c = some (LamX.CodeO c L.q)) :
    Ext F H μ F1 (upd H1 f (LamO f c L)) (mset μ f (.fn L)) ∧ RepM K F1 (upd H1 f (LamO f c L)) (mset μ f (.fn L)) :=
  ⟨e1.trans (.new nf), R1.store (R1.freshF nf) ⟨c, upd_same, hc⟩ (.new nf)⟩
/-- .. a new code object and the table that tells it -/
theorem tab_grows {K : PySem.W.Frag} {F H : Hp} {μ : Mu} {P c : Addr} {q : Str} {ps : Array Value} {p : Pos} (R : RepM K F H μ) (hP : μ P = some (.tab q)) (hH : H P = some (.tbl ps)) (ht : TriplesOk ps.toList)
    (ha : ∀ (p : Pos) (cv : Value), codeAmong p ps.toList = some cv → ∃ c, cv = .ref c ∧ F c = some (LamX.CodeO c q)) (nc : H c = none) :
    Ext F H μ (upd F c (LamX.CodeO c q)) (upd (upd H P (.tbl (ps ++ #[rawInt p.line, rawInt p.col, .ref c]))) c (LamX.CodeO c q)) μ ∧
      RepM K (upd F c (LamX.CodeO c q)) (upd (upd H P (.tbl (ps ++ #[rawInt p.line, rawInt p.col, .ref c]))) c (LamX.CodeO c q)) μ := by
  have nF := R.freshF nc
  have nP := (R.mu P _ hP).1
  have ne : ∀ {b u}, H b = some u → b ≠ c := fun e => ne_of_none e nc
  have s : Same F (upd F c (LamX.CodeO c q)) := fun b u e => by rw [upd_ne (ne_of_none e nF)]; exact e
  have eL : (ps ++ #[rawInt p.line, rawInt p.col, .ref c]).toList = ps.toList ++ [rawInt p.line, rawInt p.col, .ref c] := by simp
  have sx : Ext F H μ (upd F c (LamX.CodeO c q)) (upd (upd H P (.tbl (ps ++ #[rawInt p.line, rawInt p.col, .ref c]))) c (LamX.CodeO c q)) μ := ⟨s, fun b u e z => by
    have hb : b ≠ P := fun y => by
      rw [y, hP] at z
      cases z
    exact ⟨by rw [upd_ne (ne e), upd_ne hb]; exact e, z, fun y => by rw [upd_ne (ne e)]; exact y⟩⟩
  refine ⟨sx, fun b u e => ?_, fun b u e => ?_, R.an.step sx⟩
  · by_cases hb : b = c
    · subst hb
      rw [upd_same] at e ⊢
      exact e
    · rw [upd_ne hb] at e
      have hp : b ≠ P := fun y => by
        rw [y, nP] at e
        cases e
      rw [upd_ne hb, upd_ne hp]
      exact R.same b u e
  · obtain ⟨n, r⟩ := R.mu b u e
    obtain ⟨o, ho⟩ := r.some
    have hb := ne ho
    refine ⟨by rw [upd_ne hb]; exact n, ?_⟩
    by_cases hp : b = P
    · subst hp
      rw [hP] at e
      cases e
      refine ⟨_, by rw [upd_ne hb, upd_same], by rw [eL]; exact PySem.TriplesOk_snoc _ _ _ _ ht, fun p' cv z => ?_⟩
      rw [eL] at z
      rcases LamX.among_app _ ht z with y | y
      · obtain ⟨c1, y1, y2⟩ := ha p' cv y
        exact ⟨c1, y1, s _ _ y2⟩
      · exact ⟨c, y, upd_same⟩
    · exact (r.monoF s).at (by rw [upd_ne hb, upd_ne hp])
theorem pd_lam {c P : Addr} {params : Arguments} {body : Expr} {scope : Scope} {pos : Pos} (TB : LamX.TabB X.base X.mg c P) (hcode : X.env.code = .ref c) (hb : Bare scope) (hdef : defaultsOf params X.env = ([], []) := by rfl) :
    PD X (.Lambda params body scope pos) (dLam P ⟨X.env.qual ++ "<lambda>", params, body, scope, []⟩) := by
  refine ⟨fun pins s σ H Q I ⟨F, ρ, μ, k, R, E, ⟨hP, h⟩, C⟩ => ?_⟩
  obtain ⟨_, ps, hH, ht, ha⟩ := R.mu P _ hP
  refine PySem.W.kla_eval hdef ?_
  have inP : s.heap.get? P = some { cls := .none, data := .fields ps } := I.hok P _ hH
  have bP : s.heap.BuiltinsAt X.mg P := TB.bm.keeps I.bk
  have cl : closureFor scope X.env = pure [] := by
    rw [closure_ok fun y hy e => absurd e (hb y hy), clo_bare hb]
  cases hc : codeAmong pos ps.toList with
  | none =>
    refine PySem.W.kla_makeFunction (mg := X.mg) (c := c) (P := P) (ps := ps) cl I.ok.glob (I.mod.glob.keeps I.bk) hcode (TB.code.keeps I.bk) inP ht hc TB.gP bP fun c' ctv h' tk hx hge hlt hrec htb => ?_
    obtain ⟨_, oc, vs, t, e2, r1, r2, r3⟩ := hrec
    cases e2
    have nC : H c' = none := I.hok.fresh hge
    have I1 := LamX.inv_table (t' := tk) I hH hx htb hge ⟨oc, vs, t, r1, r2, r3⟩
    obtain ⟨x1, R1⟩ := tab_grows (p := pos) R hP hH ht ha nC
    have nf := I1.hok.fresh (Nat.le_refl h'.objs.size)
    obtain ⟨x2, R2⟩ := lam_lays (L := ⟨X.env.qual ++ "<lambda>", params, body, scope, []⟩) x1 R1 nf upd_same
    have I2 := I1.laidN (t' := tk) (fun b o e => Heap.get?_push_of_some _ e) (Heap.get?_none_of_le (Nat.le_refl _)) nf (lamO_ok (c := c') (m := (X.mg "__name__").getD .none) (t := ctv) (L := ⟨X.env.qual ++ "<lambda>", params, body, scope, []⟩) (Heap.get?_push_size h' rfl))
    exact ⟨.ref _, _, I2, rfl, C _ _ _ _ _ (h _ (R1.fresh nf)) x2 R2 (.ref _)⟩
  | some cv =>
    obtain ⟨c', e, hF⟩ := ha pos cv hc
    subst e
    refine PySem.W.kla_makeFunctionHit (mg := X.mg) (c := c) (P := P) (ps := ps) cl I.ok.glob (I.mod.glob.keeps I.bk) hcode (TB.code.keeps I.bk) inP ht hc bP fun ctv h' tk hx hsz => ?_
    have nf := I.hok.fresh hsz
    obtain ⟨x2, R2⟩ := lam_lays (L := ⟨X.env.qual ++ "<lambda>", params, body, scope, []⟩) .refl R nf hF
    have I2 := I.laidN (t' := tk) (fun b o e => Heap.get?_push_of_some _ (hx b o e)) (Heap.get?_none_of_le hsz) nf (lamO_ok (c := c') (m := (X.mg "__name__").getD .none) (t := ctv) (L := ⟨X.env.qual ++ "<lambda>", params, body, scope, []⟩) (Heap.get?_push_size h' rfl))
    exact ⟨.ref _, _, I2, rfl, C _ _ _ _ _ (h _ (R.fresh nf)) x2 R2 (.ref _)⟩
end
/-! ### its call -/
/-- what a lambda promises -/
structure DLamG (P : Program) (w : World) (K : PySem.W.Frag) (mg : Str → Option Value) (base : Heap) (k n : Nat) (L : LamT) (dsp : DCall) : Prop where
  run : ∀ (A : Around) (outer : List PySem.Env) (s : Shared) (H : Hp) (f c : Addr) (m t : Value) (us : List Value) (vs : List V) (Q : VK), RoomG k A → Env0 P w K mg base A outer s H →
    s.heap.get? f = some (PySem.W.kla_obj "<lambda>" L.q L.ps L.bd L.sc L.cl m c t) → s.heap.CodeRec (.ref c) L.q → Vals vs us → liftSp K n dsp vs H Q E0 → codeAny (model P w) A (.call (.ref f) ⟨us, []⟩) (CR CX0 outer P w H s Q E0) s
section
variable {P : Program} {w : World} {K : PySem.W.Frag} {mg : Str → Option Value} {base : Heap}
theorem DLamG.mono {j k n : Nat} {L : LamT} {dsp : DCall} (h : DLamG P w K mg base j n L dsp) (l : j ≤ k) : DLamG P w K mg base k n L dsp :=
  ⟨fun A outer s H f c m t us vs Q hr => h.run A outer s H f c m t us vs Q (hr.mono l)⟩
/-- by its body; q: the name without the locals' word -/
theorem DLamG.of {q : Str} {L : LamT} {N ps : List Str} {k : Nat} {dsp : DCall} {d : DE} (S : FnScope N ps L.sc) (hq : envOfC L.q L.sc = envOfC q L.sc := by rfl) (hcl : L.cl = [] := by rfl)
    (hb : ∀ (us : List Value) (m c t : Value), us.length = ps.length → bindArgs (PySem.W.kla_fn "<lambda>" L.q L.ps L.bd L.sc L.cl m c t) ⟨us, []⟩ = pure (ps.zip us))
    (body : ∀ (f : Addr) (cdv : Value) (A : Around) (outer : List PySem.Env) (s : Shared) (H : Hp) (E : XK), RoomG k (A.deeper (envOfC q L.sc s.heap.objs.size f cdv)) → PD (cxOf CX0 P w K mg base N q L.sc f cdv A outer s H E).nox L.bd d)
    (spec : ∀ ds μ k, ds.length = ps.length → dsp ds μ k → d (startD N.length ds) μ (wk k)) : DLamG P w K mg base (k + 1) ps.length L dsp := by
  refine ⟨fun A outer s H f c m t us vs Q hr e0 hf hc r hsp => ?_⟩
  obtain ⟨F0, ds, μ, k0, R, Dv, e, h, C⟩ := hsp
  have hl : vs.length = ps.length := Dv.length.trans e
  have noL : s.heap.NoLimit := e0.mod.nolimit.keeps fun b o e => (e0.bs b o e).1
  refine PySem.W.kla_callFunE hr.rm.depth hf rfl S.co S.gen rfl hc ?_
  rw [hb us m _ t (by rw [← r.length]; exact hl)]
  refine wpAny_pure ?_
  show wpAny _ _ (newFunctionEnv L.sc mainGlobals L.cl _ _ _ _ _ _) _ _ _
  rw [hcl]
  refine wpAny_newFunctionEnv_cells S.kind (fun ⟨n, v⟩ hy => ?_) fun env he s1 x => ?_
  · rcases S.par n (List.of_mem_zip hy).1 with z | z
    · exact .inl z
    · exact .inr ⟨z, PySem.W.cellsFrom_some _ _ _ (.inl z)⟩
  have he : env = envOfC q L.sc s.heap.objs.size f (.ref c) := he.trans (congrFun (congrFun (congrFun hq s.heap.objs.size) f) (.ref c))
  subst he
  refine ⟨noL.keeps x.toInCall.keep, PySem.W.kla_codeExpr ?_⟩
  have I : Inv (cxOf CX0 P w K mg base N q L.sc f (.ref c) A outer s H E0) [] (L2.start N vs) H s1 := inv_start S hr.rm.hd e0 hl r x
  have W := wk_cont C
  have up : up K d (L2.start N vs) H Q := by
    refine ⟨F0, startD N.length ds, μ, _, R, ?_, spec ds μ k0 e h, W⟩
    unfold L2.start startD
    rw [Dv.length]
    exact paired_append (env_start (N := N) Dv) (env_none _)
  refine wpAny_mono ((body f (.ref c) A outer s H E0 (hr.deeper _)).nox.run [] s1 (L2.start N vs) H Q I up) (fun u s' hs => ?_) fun e s' hs => hs
  obtain ⟨v, H', J, rv, z⟩ := hs
  exact ⟨v, H', J.os, J.bare, J.base, J.hok, rv, z⟩
end
section
variable [anc : Anc]
variable {X : Cx} {x : Str} {p pos : Pos} {e : Expr} {es : List Expr} {da : DA} {k n : Nat}
/-- x(e, ..), x a local name (slot i) that holds a lambda; T: what the known ones promise -/
def dCallV (i n : Nat) (T : LamT → DCall) (da : DA) : DE := fun ρ μ k => ∃ a L, ρ[i]? = some (some (.ref a)) ∧ μ a = some (.fn L) ∧ da ρ μ fun ds μ1 => μ1 a = some (.fn L) ∧ ds.length = n ∧ T L ds μ1 k
theorem pd_callV {T : LamT → DCall} (D : ∀ L, DLamG X.prog X.w X.K X.mg X.base k n L (T L)) (hr : RoomG k X.A) (i : Nat) (ha : PDA X (e :: es) da) (hN : X.N[i]? = some x := by rfl) (hv : Vis X.env.scope x := by first | exact Or.inl rfl | exact Or.inr (Or.inl rfl) | exact Or.inr (Or.inr rfl))
    (hd : (x == ("__debug__" : Str)) = false := by decide) (hcd : (x == ("__classdict__" : Str)) = false := by decide)
    (he : starEach (e :: es) X.env = (false, eval e X.env) :: starEach es X.env := by rfl) (hpl : (backTo pos (starEach es X.env)).any (·.1) = false := by rfl) :
    PD X (.Call (.Name x p) (e :: es) [] pos) (dCallV i n T da) := by
  refine ⟨fun pins s σ H Q I ⟨F, ρ, μ, k, R, E, ⟨a, L, h1, h2, h⟩, C⟩ => ?_⟩
  have at_ : ∀ {F1 H1 : Hp} {μ1 : Mu} {s1 : Shared}, Inv X pins σ H1 s1 → RepM X.K F1 H1 μ1 → μ1 a = some (.fn L) → ∃ c m t, s1.heap.get? a = some (PySem.W.kla_obj "<lambda>" L.q L.ps L.bd L.sc L.cl m c t) ∧ s1.heap.CodeRec (.ref c) L.q := fun {F1 H1 μ1 s1} I1 R1 e1 => by
    obtain ⟨_, c, z1, z2⟩ := R1.mu a _ e1
    obtain ⟨m, t, z⟩ := lamO_at I1.hok z1
    exact ⟨c, m, t, z, codeO_at I1.hok (R1.same _ _ z2)⟩
  obtain ⟨v, hs, dv⟩ := EnvD.get (i := i) E h1
  cases dv
  refine wpAny_Call_Name_kw (thn ((pe_var (pos := p) (i := i) hN hv hd hcd).run pins s σ H (fun v H1 => v = .ref a ∧ H1 = H) I ⟨.ref a, hs, rfl, rfl⟩) fun u s1 ⟨v, H1, I1, r1, q1⟩ => ?_)
  obtain ⟨rfl, rfl⟩ := q1
  obtain rfl : u = Value.ref a := r1
  obtain ⟨c, m, t, z, _⟩ := at_ I1 R h2
  refine PySem.W.callWith_F (first := []) ⟨_, _, _, _, z⟩ ?_ he hpl
  refine thn (ha.run pos pins s1 σ H1 (fun vs H2 => ∃ F2 ds μ2, Ext F H1 μ F2 H2 μ2 ∧ RepM X.K F2 H2 μ2 ∧ DenL X.K F2 vs ds ∧ μ2 a = some (.fn L) ∧ ds.length = n ∧ T L ds μ2 k) I1 ⟨F, ρ, μ, _, R, E, h, fun ds μ2 F2 vs H2 hk x2 R2 D2 => ⟨F2, ds, μ2, x2, R2, D2, hk⟩⟩) fun us s2 ⟨vs, H2, I2, r2, F2, ds, μ2, x2, R2, D2, e2, hn, ht⟩ => ?_
  obtain ⟨c, m, t, z, zc⟩ := at_ I2 R2 e2
  refine ⟨⟨_, _, _, _, z⟩, ?_⟩
  refine wpAny_call (codeAny_mono ((D L).run X.A X.stack s2 H2 a c m t us vs Q hr I2.env0 z zc r2 ⟨F2, ds, μ2, k, R2.bare, D2, hn, ht, (C.mono x2).bare R2⟩) fun r s' hq => ?_)
  match r, hq with
  | .error e, hq => exact False.elim hq
  | .ok (.ret u), hq => exact I2.after hq
  | .ok .next, hq => exact False.elim hq
  | .ok .brk, hq => exact False.elim hq
  | .ok .cont, hq => exact False.elim hq
end

/-- what some known lambdas promise -/
def lamT (ls : List (LamT × DCall)) (L : LamT) : DCall := fun ds μ k => ∃ p ∈ ls, p.1 = L ∧ p.2 ds μ k
section
variable {P : Program} {w : World} {K : PySem.W.Frag} {mg : Str → Option Value} {base : Heap}
theorem DLamG.any {k n : Nat} {ls : List (LamT × DCall)} (h : ∀ p ∈ ls, DLamG P w K mg base k n p.1 p.2) (L : LamT) : DLamG P w K mg base k n L (lamT ls L) :=
  ⟨fun A outer s H f c m t us vs Q hr e0 hf hc r ⟨F, ds, μ, k0, R, Dv, e, ⟨p, hp, hL, z⟩, C⟩ => by
    subst hL
    exact (h p hp).run A outer s H f c m t us vs Q hr e0 hf hc r ⟨F, ds, μ, k0, R, Dv, e, z, C⟩⟩
/-- a def of the text whose code object is asked for -/
theorem fng_ofL {x q : Str} {st : Stmt} {f : Addr} {fd : FuncData} {N ps : List Str} {k : Nat} {dsp : DCall} {d : DS} (F : Fun K x q st f fd) (S : FnScope N ps (defScope st))
    (body : ∀ (cdv : Value) (A : Around) (outer : List PySem.Env) (s : Shared) (H : Hp) (E : XK), fd.code = cdv → RoomG k (A.deeper (envOfC q (defScope st) s.heap.objs.size f cdv)) →
      PDSs (cxOf CX0 P w K mg base N q (defScope st) f cdv A outer s H E).nox (defBody st) d)
    (spec : ∀ ds μ k, ds.length = ps.length → dsp ds μ k → d { nx := fun _ μ' => wk k .non μ', rt := wk k } (startD N.length ds) μ) : FnG P w K mg base (k + 1) f fd ps (liftSp K ps.length dsp) := by
  have len : ∀ vs H Q E, liftSp K ps.length dsp vs H Q E → vs.length = ps.length := fun vs H Q E ⟨_, ds, _, _, _, Dv, e, _⟩ => Dv.length.trans e
  obtain ⟨oc, od, kV, doc, pm, an, cdv, ct, osl, rfl, lk, hcd⟩ := F.ex
  refine ⟨len, fun A outer s H args us vs Q E hr e0 hb r hsp => ?_⟩
  have hl := len _ _ _ _ hsp
  have inK : K.In s.heap := e0.mod.kin.keeps fun b o e => (e0.bs b o e).1
  have noL : s.heap.NoLimit := e0.mod.nolimit.keeps fun b o e => (e0.bs b o e).1
  refine codeAny_call_function hr.rm.depth (inK _ _ lk) rfl S.co S.gen rfl (PySem.W.codeRec_of inK hcd) (hb _ _ _ _ ?_)
  refine wpAny_newFunctionEnv_cells S.kind (fun ⟨n, v⟩ hy => ?_) fun env he s1 x => ?_
  · rcases S.par n (List.of_mem_zip hy).1 with z | z
    · exact .inl z
    · exact .inr ⟨z, PySem.W.cellsFrom_some _ _ _ (.inl z)⟩
  subst he
  refine ⟨noL.keeps x.toInCall.keep, codeAny_func ?_⟩
  obtain ⟨F0, ds, μ, k0, R, Dv, e, h, C⟩ := hsp
  have I : Inv (cxOf CX0 P w K mg base N q (defScope st) f cdv A outer s H E) [] (L2.start N vs) H s1 := inv_start S hr.rm.hd e0 hl r x
  have W := wk_cont C
  have up : upS K d { nx := fun _ H' => Q .non H', rt := Q } (L2.start N vs) H := by
    refine ⟨F0, startD N.length ds, μ, _, R, ?_, spec ds μ k0 e h, ?_⟩
    · unfold L2.start startD
      rw [Dv.length]
      exact paired_append (env_start (N := N) Dv) (env_none _)
    · exact ⟨fun ρ' μ' F' σ' H' h s R' E' => W .non μ' F' .non H' h s R' .non, W, fun _ _ _ _ _ h => h.elim, fun _ _ _ _ _ h => h.elim⟩
  refine wpAny_mono ((body cdv A outer s H E rfl (hr.deeper _)).nox.run [] s1 (L2.start N vs) H _ I up) (fun fl s' hs => ?_) fun e s' hs => hs
  cases fl with
  | ret u =>
    obtain ⟨v, σ', H', J, rv, z⟩ := hs
    exact ⟨v, H', J.os, J.bare, J.base, J.hok, rv, z⟩
  | next =>
    obtain ⟨σ', H', J, z⟩ := hs
    exact ⟨V.non, H', J.os, J.bare, J.base, J.hok, rfl, z⟩
  | brk =>
    obtain ⟨_, _, _, z⟩ := hs
    exact False.elim z
  | cont =>
    obtain ⟨_, _, _, z⟩ := hs
    exact False.elim z
end
/-! ### the law's call, its own table of code objects empty -/
/-- where the table of a def's code object lies -/
def tabAt (K : PySem.W.Frag) : Value → Addr × Addr
  | .ref c => (c, match K.lookup c with
    | some ⟨_, _, .fields vs, _⟩ => (match (vs[11]? : Option Value) with
      | some (.ref P) => P
      | _ => 0)
    | _ => 0)
  | _ => (0, 0)
def ownIn (K : PySem.W.Frag) (cd : Value) : Bool := (match cd with
  | .ref _ => true
  | _ => false) && PySem.W.codeHdIn K (tabAt K cd).1 (tabAt K cd).2 && (K.lookup (tabAt K cd).2).isNone
theorem ownIn_ok {K : PySem.W.Frag} {cd : Value} {fa : Addr} {h : Heap} {o : Obj} {fd : FuncData} (e : ownIn K cd = true) (T : LamX.OwnTab K fa h) (lk : K.lookup fa = some o) (hd : o.data = .func fd) (hc : fd.code = cd) :
    cd = .ref (tabAt K cd).1 ∧ h.get? (tabAt K cd).2 = some { cls := .none, data := .fields #[] } ∧ K.lookup (tabAt K cd).2 = none ∧ PySem.W.codeHdIn K (tabAt K cd).1 (tabAt K cd).2 = true := by
  unfold ownIn at e
  obtain ⟨e, e3⟩ := Bool.and_eq_true_iff.mp e
  obtain ⟨e1, e2⟩ := Bool.and_eq_true_iff.mp e
  cases cd with
  | ref c =>
    refine ⟨rfl, ?_, Option.isNone_iff_eq_none.mp e3, e2⟩
    have e4 := e2
    unfold PySem.W.codeHdIn at e4
    split at e4
    · rename_i vs sl hk
      simp only [Bool.and_eq_true] at e4
      obtain ⟨⟨⟨⟨⟨y1, _⟩, _⟩, _⟩, _⟩, _⟩ := e4
      split at y1
      · rename_i P' h11
        have hP : P' = (tabAt K (.ref c)).2 := beq_iff_eq.mp y1
        rw [hP] at h11
        exact T c _ o fd _ _ vs _ lk hd hc hk h11
      · cases y1
    · cases e4
  | _ => cases e1
theorem law_callL {p : Program} {w : World} {K : PySem.W.Frag} {mg mb : Str → Option Value} {k : Nat} {fa a c P : Addr} {fd : FuncData} {x : Str} {sp : Sp} {s₁ : Shared} {vs : List Value} {ns : List Int}
    (KX : K.In s₁.heap) (hns : s₁.heap.Ns mainGlobals mg) (hb : s₁.heap.Ns builtinsNs mb) (hbb : ∀ x : Str, x ≠ "__name__" → mb x = bootBuiltins x) (hlim : s₁.heap.NoLimit) (hg : s₁.gens = #[])
    (hT : s₁.heap.get? P = some { cls := .none, data := .fields #[] }) (nT : K.lookup P = none) (hC : PySem.W.codeHdIn K c P = true)
    (hm : ∃ (bm : Addr) (ob : Obj), mg "__builtins__" = some (.ref bm) ∧ bm ≠ builtinsNs ∧ s₁.heap.get? bm = some ob ∧ ob.cls = .type "module" ∧ ob.dict = some builtinsNs ∧ ob.data = .plain)
    (ha : s₁.heap.get? a = some { cls := .type "list", data := .seq vs.toArray }) (hi : IntsAre vs ns) (hl : ns.length ≤ sizeLine) (hr : RoomG k callerA)
    (F : ∀ base : Heap, K.In base → base.Ns mainGlobals mg → LamX.TabB base mg c P → FnG p w K mg base k fa fd [x] sp) (hbind : ∀ (s : Shared) (u : Value), BindsTo s fd ⟨[u], []⟩ [(x, u)])
    (hsp : ∀ H : Hp, H P = some (.tbl #[]) → SqL K H a (ns.map V.int) → sp [.ref a] H (fun v _ => v = .bl true) E0) :
    codeAny (model p w) callerA (.call (.ref fa) ⟨[.ref a], []⟩) (fun r s' => r = .ok (.ret (.bool true)) ∧ OldK s₁.heap s'.heap ∧ s'.os = s₁.os ∧ AllBare s'.gens) s₁ := by
  have rv := vals_ints hi
  have aP : a ≠ P := fun z => by
    rw [z, hT] at ha
    cases ha
  -- H knows of the table, and of the script, if that
  have main : ∀ H : Hp, H P = some (.tbl #[]) → (∀ b, H b = none ∨ b = P ∨ ∃ o xs, H b = some (.frz o (.lst xs))) → SqL K H a (ns.map V.int) → HOk p w H s₁.heap → (∀ b, H b ≠ none → b = a ∨ b = P) → (H a ≠ none → K.lookup a = none) →
      codeAny (model p w) callerA (.call (.ref fa) ⟨[.ref a], []⟩) (fun r s' => r = .ok (.ret (.bool true)) ∧ OldK s₁.heap s'.heap ∧ s'.os = s₁.os ∧ AllBare s'.gens) s₁ := fun H hP hO hS hok hA hK => by
    have free : ∀ {b : Addr} {o : Obj}, s₁.heap.get? b = some o → (b = a → H a ≠ none → False) → b ≠ P → (hidT s₁.heap H).get? b = some o := fun {b o} e n m => hidT_get e (by
      cases q : H b with
      | none => rfl
      | some u =>
        rcases hA b (by rw [q]; exact fun z => nomatch z) with z | z
        · subst z
          exact (n rfl (by rw [q]; exact fun z => nomatch z)).elim
        · exact absurd z m)
    have notP : ∀ {b : Addr} {o : Obj}, s₁.heap.get? b = some o → o.data ≠ .fields #[] → b ≠ P := fun {b o} e n z => by
      rw [z, hT] at e
      cases e
      exact n rfl
    have nsT : ∀ {b : Addr} {m : Str → Option Value}, s₁.heap.Ns b m → (hidT s₁.heap H).Ns b m := fun {b m} ⟨o, es, ep, e, d, r⟩ => ⟨o, es, ep, free e (fun z _ => by
      subst z
      rw [ha] at e
      cases e
      exact nomatch (show Data.seq vs.toArray _ = Data.dict es ep from d)) (notP e (by rw [d]; exact fun z => nomatch z)), d, r⟩
    have inT : K.In (hidT s₁.heap H) := fun b o e => free (KX b o e) (fun z n => by
      subst z
      rw [hK n] at e
      cases e) fun z => by
        rw [z, nT] at e
        cases e
    have M : Mod K mg (hidT s₁.heap H) := ⟨inT, nsT hns, ⟨mb, nsT hb, hbb⟩, let ⟨mc, h1, h2⟩ := hlim; ⟨mc, nsT h1, h2⟩⟩
    have gl : ∃ o es ep, s₁.heap.get? mainGlobals = some o ∧ o.data = .dict es ep := let ⟨o, es, ep, e, d, _⟩ := hns; ⟨o, es, ep, e, d⟩
    have TB : LamX.TabB (hidT s₁.heap H) mg c P := by
      refine ⟨PySem.W.codeHd_of_K inT hC, ?_, fun z => ?_⟩
      · obtain ⟨bm, ob, y1, y2, y3, y4, y5, y6⟩ := hm
        refine ⟨bm, ob, y1, y2, fun z => ?_, notP y3 (by rw [y6]; exact fun z => nomatch z), free y3 (fun z _ => ?_) (notP y3 (by rw [y6]; exact fun z => nomatch z)), y4, y5, y6⟩
        · obtain ⟨o, es, ep, e, d⟩ := gl
          rw [z, e] at y3
          cases y3
          rw [d] at y6
          cases y6
        · rw [z, ha] at y3
          cases y3
          cases y6
      · obtain ⟨o, es, ep, e, d⟩ := gl
        rw [z, hT] at e
        cases e
        cases d
    have e0 : Env0 p w K mg (hidT s₁.heap H) callerA [] s₁ H := ⟨rfl, M, fun b o e => of_hidT e, Nat.le_of_eq (hidT_size _ _), trivial, fun b hb => (nomatch (show b ∈ ([] : List Addr) from hb)), hok, .of_eq hg⟩
    refine codeAny_mono ((F _ inT (nsT hns) TB).run callerA [] s₁ H ⟨[.ref a], []⟩ [.ref a] [.ref a] _ _ hr e0 (hbind s₁ (.ref a)) (.cons rfl .nil) (hsp H hP hS)) fun r s' h => ?_
    match r, h with
    | .error e, h => exact False.elim h
    | .ok .next, h => exact False.elim h
    | .ok .brk, h => exact False.elim h
    | .ok .cont, h => exact False.elim h
    | .ok (.ret u), h =>
      obtain ⟨v, H', os, bare, un, hok', r', q⟩ := h
      subst q
      obtain rfl : u = Value.bool true := r'
      have key : ∀ b o, b ≠ P → s₁.heap.get? b = some o → s'.heap.get? b = some o := fun b o nb e => by
        rcases hO b with z | z | ⟨ob, xs, z⟩
        · exact un.keep b o e z (fun y => (nomatch (show b ∈ ([] : List Addr) from y))) (by simp)
        · exact absurd z nb
        · obtain ⟨e1, _⟩ := hok b _ z
          obtain ⟨e2, _⟩ := hok' b _ (un.frzs b ob _ z)
          rw [e] at e1
          cases e1
          exact e2
      obtain ⟨more, zt⟩ := un.tbls P #[] hP
      have zm : s'.heap.get? P = some { cls := .none, data := .fields (#[] ++ more) } := hok' P _ zt
      refine ⟨rfl, ⟨fun b o e => ?_, fun b o e => ?_⟩, os, bare⟩
      · by_cases hb : b = P
        · subst hb
          rw [hT] at e
          cases e
          exact .inr (.inl ⟨((PySem.W.codeHd_of_K KX hC).tab hT).isCodeTable, rfl, #[], more, rfl, zm⟩)
        · exact .inl (key b o hb e)
      · by_cases hb : b = P
        · subst hb
          exact ⟨_, zm⟩
        · exact ⟨o, key b o hb e⟩
  cases hk : K.lookup a with
  | some o =>
    have e := KX a o hk
    rw [ha] at e
    cases e
    have at_P : ∀ {b : Addr} {u : HO}, (if b = P then some (HO.tbl #[]) else none) = some u → b = P ∧ u = .tbl #[] := fun {b u} z => by
      by_cases hb : b = P
      · rw [if_pos hb] at z; cases z; exact ⟨hb, rfl⟩
      · rw [if_neg hb] at z; cases z
    refine main (fun b => if b = P then some (.tbl #[]) else none) (if_pos rfl) (fun b => ?_) (.inr ⟨_, vs.toArray, _, hk, rfl, rfl, rfl, by rw [List.size_toArray, hi.length]; exact hl, by simpa using rv⟩) (fun b u z => ?_) (fun b z => ?_) fun z => absurd (if_neg aP) z
    · by_cases hb : b = P
      · exact .inr (.inl hb)
      · exact .inl (if_neg hb)
    · obtain ⟨rfl, rfl⟩ := at_P z
      exact hT
    · by_cases hb : b = P
      · exact .inr hb
      · exact absurd (if_neg hb) z
  | none =>
    have look : ∀ {b : Addr} {u : HO}, (if b = a then some (HO.frz { cls := .type "list", data := .seq vs.toArray } (.lst (ns.map V.int))) else if b = P then some (HO.tbl #[]) else none) = some u →
        b = a ∧ u = HO.frz { cls := .type "list", data := .seq vs.toArray } (.lst (ns.map V.int)) ∨ b = P ∧ u = .tbl #[] := fun {b u} z => by
      by_cases hb : b = a
      · rw [if_pos hb] at z; cases z; exact .inl ⟨hb, rfl⟩
      · rw [if_neg hb] at z
        by_cases hp : b = P
        · rw [if_pos hp] at z; cases z; exact .inr ⟨hp, rfl⟩
        · rw [if_neg hp] at z; cases z
    refine main (fun b => if b = a then some (.frz { cls := .type "list", data := .seq vs.toArray } (.lst (ns.map V.int))) else if b = P then some (.tbl #[]) else none) ((if_neg (Ne.symm aP)).trans (if_pos rfl)) (fun b => ?_) (.inl (.inr ⟨{ cls := .type "list", data := .seq vs.toArray }, if_pos rfl⟩)) (fun b u z => ?_) (fun b z => ?_) fun _ => hk
    · by_cases hb : b = a
      · exact .inr (.inr ⟨_, _, if_pos hb⟩)
      · by_cases hp : b = P
        · exact .inr (.inl hp)
        · exact .inl ((if_neg hb).trans (if_neg hp))
    · rcases look z with ⟨hb, rfl⟩ | ⟨hb, rfl⟩
      · subst hb
        exact ⟨ha, by rw [List.length_map]; exact hl, vs, _, rv, ha⟩
      · subst hb
        exact hT
    · by_cases hb : b = a
      · exact .inl hb
      · by_cases hp : b = P
        · exact .inr hp
        · exact absurd ((if_neg hb).trans (if_neg hp)) z
theorem walk_ofL {l : PySem.W.OpenLaw} {n k : Nat} {q : Program} {loose : List Str} {XP : (Str → Option Value) → Heap → Prop} {YP : World → Heap → Prop} {d : DefRec} {K : Params → PySem.W.Frag} {sp : World → Addr → Sp} {x : Str}
    (hn : l.most = some n) (hn2 : n ≤ sizeLine) (hdf : d.params.defaults = []) (hr : Room k callerA) (hrec : ((recsOf q).any fun e => e.name == d.name) = true)
    (hY : ∀ (w : World) (h : Heap), YP w h → (K w.params).In h)
    (F : ∀ (w : World) (mg : Str → Option Value) (fa : Addr) (h : Heap), (K w.params).In h → h.Ns mainGlobals mg → mg d.name = some (.ref fa) → LamX.OwnTab (K w.params) fa h →
      ∃ (fd : FuncData) (c P : Addr), h.get? P = some { cls := .none, data := .fields #[] } ∧ (K w.params).lookup P = none ∧ PySem.W.codeHdIn (K w.params) c P = true ∧ (∀ (s : Shared) (u : Value), BindsTo s fd ⟨[u], []⟩ [(x, u)]) ∧
        ∀ base : Heap, (K w.params).In base → base.Ns mainGlobals mg → LamX.TabB base mg c P → FnG l.prog w (K w.params) mg base k fa fd [x] (sp w P))
    (hsp : ∀ (w : World) (H : Hp) (P a : Addr) (ns : List Int), ns.length ≤ n → H P = some (.tbl #[]) → SqL (K w.params) H a (ns.map V.int) → sp w P [.ref a] H (fun v _ => v = .bl true) E0) :
    PySem.W.WalkO q loose XP YP l.row.toRowW d [] (fun f vs => PySem.call f vs) := by
  refine Att.attach_call hn hdf fun w s₀ s₁ mg mb fa o pm cd doc a vs ns G Y ho hd hcd hmg hobj hints hlen hg => ?_
  have KX := hY w _ Y
  have own : LamX.OwnTab (K w.params) fa s₁.heap := fun c P o1 f1 e dd us sl z1 z2 z3 z4 z5 => by
    obtain ⟨r, hm, hn⟩ := List.any_eq_true.mp hrec
    have hn : r.name = d.name := beq_iff_eq.mp hn
    obtain ⟨a1, o2, f2, c2, P2, y1, y2, y3, y4, y5, y6⟩ := G.T.tab r hm
    rw [hn, hmg] at y1
    cases y1
    have g1 := KX _ _ z1
    rw [g1] at y2
    cases y2
    rw [z2] at y3
    cases y3
    rw [z3] at y4
    cases y4
    obtain ⟨⟨oc, vc, e1, _, e3, e4⟩, hP⟩ := y6
    have g2 := KX _ _ z4
    rw [g2] at e1
    cases e1
    cases e3
    rw [z5] at e4
    cases e4
    exact hP
  obtain ⟨fd, c, P, hT, nT, hC, hb, hF⟩ := F w mg fa _ KX G.T.g hmg own
  exact law_callL KX G.T.g G.T.b G.T.builtins G.T.nolimit hg hT nT hC G.T.bmain hobj hints (Nat.le_trans hlen hn2) ⟨hr, rfl⟩ hF hb fun H hP hS => hsp w H P a ns hlen hP hS
/-- what the law is called with: its table, empty -/
def muT (P : Addr) (q : Str) : Mu := fun b => if b = P then some (.tab q) else none
theorem law_spL {K : PySem.W.Frag} {H : Hp} {a P : Addr} {ns : List Int} {dsp : DCall} {q : Str} {E : XK} (hP : H P = some (.tbl #[])) (hS : SqL K H a (ns.map V.int)) (h : dsp [.scr (ns.map D.int)] (muT P q) (fun d _ => d = .bl true)) :
    liftSp K 1 dsp [.ref a] H (fun v _ => v = .bl true) E := by
  have s : Same (fun b => if b = P then none else H b) H := fun b u e => by
    by_cases hb : b = P
    · have e := (if_pos hb).symm.trans e
      cases e
    · exact (if_neg hb).symm.trans e
  have hS' : SqL K (fun b => if b = P then none else H b) a (ns.map V.int) := by
    have ne : ∀ u, H a = some u → (∀ q, u ≠ .tbl q) → (if a = P then none else H a) = some u := fun u e n => by
      rw [if_neg fun z => n _ (Option.some.inj (e.symm.trans (by rw [z]; exact hP)))]
      exact e
    rcases hS with (z | ⟨o, z⟩) | z
    · exact .inl (.inl (ne _ z fun q y => by cases y))
    · exact .inl (.inr ⟨o, ne _ z fun q y => by cases y⟩)
    · exact .inr z
  refine ⟨_, _, muT P q, _, ⟨s, fun b o e => ?_, Anc.none_at⟩, .cons (.scr hS' (DenL.ints ns)) .nil, rfl, h, fun d μ F v H' hk _ _ dn => by subst hk; cases dn; rfl⟩
  by_cases hb : b = P
  · subst hb
    have e : some (MO.tab q) = some o := (if_pos rfl).symm.trans e
    cases e
    refine ⟨if_pos rfl, #[], hP, True.intro, fun p cv z => ?_⟩
    have z : codeAmong p [] = some cv := z
    simp [codeAmong] at z
  · have e := (if_neg hb).symm.trans e
    cases e
/-- a tuple * an int -/
def rdMulT : D2 := fun d e μ k => match d with
  | .tup xs => (match e with
    | .int j => xs ≠ [] ∧ 2 ≤ j ∧ j ≤ 1000 ∧ xs.length ≤ 1000 ∧ k (.tup (List.replicate j.toNat xs).flatten) μ
    | _ => False)
  | _ => False
theorem opd_mulT [anc : Anc] {X : Cx} : OpD X (binaryOp .Mult) rdMulT := ⟨_, op_repT, fun F H μ x y d e k Q R Dx Dy h Cn => by
  cases d with
  | tup xs =>
    cases e with
    | int j =>
      cases Dy
      obtain ⟨h1, h2, h3, h4, h5⟩ := h
      cases Dx with
      | tup hs hd =>
        refine ⟨_, j, _, rfl, rfl, seqT_mono R.same hs, fun z => h1 ?_, h2, h3, by rw [hd.length]; exact h4, fun p n => tup_ok R (hd.flat _) h5 Cn n⟩
        have := hd.length
        rw [z] at this
        exact List.length_eq_zero_iff.mp this.symm
    | _ => exact (show False from h).elim
  | _ => exact (show False from h).elim⟩
/-- // by a divisor of some words -/
theorem opd_fdivW [anc : Anc] {X : Cx} : OpD X (binaryOp .FloorDiv) (rdI CDivW fun i j => .int (i / j)) := opd_I op_fdivW fun _ _ _ => .int _
end DL
/-! DLae: the empty dict display. -/
namespace DL
open PySem PySem.Spec L2
open PyProof.Rows hiding St
variable [anc : Anc]
/-- {} -/
def dDNew : DE := fun ρ μ k => ∀ a, μ a = none → k (.ref a) (mset μ a (.dk []))
theorem pd_dnew {X : Cx} {pos : Pos} : PD X (.Dict [] [] pos) dDNew :=
  PE.imp pe_dnewK fun σ H Q ⟨F, ρ, μ, k, R, E, h, C⟩ p np => by
    have nF := R.freshF np
    have nM := R.fresh np
    exact C _ _ F _ _ (h p nM) (.new np) (R.store nF ⟨_, upd_same, .nil⟩ (.new np)) (.ref p)
end DL
/-! DLaf: Base.__init__(self, ..) of a class of the text itself, where no repr is under way. -/
namespace DL
open PySem PySem.Spec L2
open PyProof.Rows hiding St
section
variable [anc : Anc]
variable {X : Cx} {x : Str} {p1 p2 pos : Pos} {e : Expr} {es : List Expr} {t : TA} {k : Nat} {f CW : Addr} {fd : FuncData} {ps : List Str} {sp : Sp}
theorem pe_base {pl : Sem Bool} (F : FnG X.prog X.w X.K X.mg X.base k f fd ps sp) (hr : RoomG k X.A) (hg : Gl X x) (hm : X.mg x = some (.ref CW)) (hdb : (x == ("__debug__" : Str)) = false) (rd : PySem.W.readsIn X.K CW (.type "type") = true)
    (ga : PySem.W.specialIn X.K (.ref CW) "__getattribute__" = some (some (.builtin "type.__getattribute__"))) (vV : PySem.W.findCls X.K (.ref CW) (.type "type") "__init__" = some (.val (.ref f))) (hk : PySem.W.keepIn X.K (.ref f) = true) (hb : Binds X.K fd ps []) (ha : PA X (e :: es) t)
    (hc : eval (.Call (.Attribute (.Name x p1) "__init__" p2) (e :: es) [] pos) X.env = (do
      let base ← eval (.Name x p1) X.env
      standAt p2.atName
      let (g, first) ← holding [base] (getMethod base "__init__" pl)
      callWith pos g first (backTo pos (starEach (e :: es) X.env)) (backToKw pos (keywordEach [] X.env))) := by rfl)
    (he : starEach (e :: es) X.env = (false, eval e X.env) :: starEach es X.env := by rfl) (hpl : (backTo pos (starEach es X.env)).any (·.1) = false := by rfl) :
    PE X (.Call (.Attribute (.Name x p1) "__init__" p2) (e :: es) [] pos) (tCallG sp t) := by
  refine ⟨fun pins s σ H Q I h => PySem.W.methodCall_KW (ld_glob I hg hm ?_ hdb) hc⟩
  refine PySem.W.method_cls I.kIn ga (PySem.W.cls_value I.kIn rd vV rfl ?_)
  exact PySem.W.callWith_K (h₀ := X.base) I.ok.mod.kin hk (thn (ha.run pos pins _ σ H _ (I.tok _) h) fun us s1 ⟨vs, H1, I1, r, q⟩ => ⟨I1.kIn, run_fng F hr hb I1 r q⟩) he hpl
end
structure DBaseG (P : Program) (w : World) (K : PySem.W.Frag) (mg : Str → Option Value) (base : Heap) (C : Addr) (k n : Nat) (dsp : DCall) : Prop where
  ex : ∃ f fd ps, ps.length = n ∧ FnG P w K mg base k f fd ps (liftSp K n dsp) ∧ PySem.W.readsIn K C (.type "type") = true ∧ PySem.W.specialIn K (.ref C) "__getattribute__" = some (some (.builtin "type.__getattribute__")) ∧ PySem.W.findCls K (.ref C) (.type "type") "__init__" = some (.val (.ref f)) ∧ PySem.W.keepIn K (.ref f) = true ∧ Binds K fd ps []
section
variable {P : Program} {w : World} {K : PySem.W.Frag} {mg : Str → Option Value} {base : Heap}
theorem DBaseG.mono {C : Addr} {j k n : Nat} {dsp : DCall} (h : DBaseG P w K mg base C j n dsp) (l : j ≤ k) : DBaseG P w K mg base C k n dsp := by
  obtain ⟨f, fd, ps, h1, h2, h3⟩ := h.ex
  exact ⟨f, fd, ps, h1, h2.mono l, h3⟩
theorem DBaseG.of {q : Str} {st : Stmt} {f C : Addr} {fd : FuncData} {N ps : List Str} {k : Nat} {dsp : DCall} {d : DS} (F : Fun K "__init__" q st f fd) (rd : PySem.W.readsIn K C (.type "type") = true)
    (ga : PySem.W.specialIn K (.ref C) "__getattribute__" = some (some (.builtin "type.__getattribute__"))) (vV : PySem.W.findCls K (.ref C) (.type "type") "__init__" = some (.val (.ref f))) (hk : PySem.W.keepIn K (.ref f) = true) (b : Binds K fd ps []) (S : FnScope N ps (defScope st))
    (body : ∀ (cdv : Value) (A : Around) (outer : List PySem.Env) (s : Shared) (H : Hp) (E : XK), RoomG k (A.deeper (envOfC q (defScope st) s.heap.objs.size f cdv)) →
      PDSs (cxOf CX0 P w K mg base N q (defScope st) f cdv A outer s H E).nox (defBody st) d)
    (spec : ∀ ds μ k, ds.length = ps.length → dsp ds μ k → d { nx := fun _ μ' => wk k .non μ', rt := wk k } (startD N.length ds) μ) : DBaseG P w K mg base C (k + 1) ps.length dsp :=
  ⟨f, fd, ps, rfl, fng_of F S body spec, rd, ga, vV, hk, b⟩
end
section
variable [anc : Anc]
variable {X : Cx} {x : Str} {p1 p2 pos : Pos} {e : Expr} {es : List Expr} {da : DA} {k n : Nat} {dsp : DCall} {C : Addr}
theorem pd_base {pl : Sem Bool} (D : DBaseG X.prog X.w X.K X.mg X.base C k n dsp) (hr : RoomG k X.A) (hx : Passes CX0 X E0) (hm : X.mg x = some (.ref C)) (ha : PDA X (e :: es) da) (hg : Gl X x := by rfl) (hdb : (x == ("__debug__" : Str)) = false := by decide)
    (hc : eval (.Call (.Attribute (.Name x p1) "__init__" p2) (e :: es) [] pos) X.env = (do
      let base ← eval (.Name x p1) X.env
      standAt p2.atName
      let (g, first) ← holding [base] (getMethod base "__init__" pl)
      callWith pos g first (backTo pos (starEach (e :: es) X.env)) (backToKw pos (keywordEach [] X.env))) := by rfl)
    (he : starEach (e :: es) X.env = (false, eval e X.env) :: starEach es X.env := by rfl) (hpl : (backTo pos (starEach es X.env)).any (·.1) = false := by rfl) : PD X (.Call (.Attribute (.Name x p1) "__init__" p2) (e :: es) [] pos) (dCall n dsp da) := by
  obtain ⟨f, fd, ps, h1, h2, h3, h4, h5, h6, h7⟩ := D.ex
  exact PE.imp (pe_base (pl := pl) h2 hr hg hm hdb h3 h4 h5 h6 h7 ha hc he hpl) fun σ H Q ⟨F, ρ, μ, k, R, E, h, C⟩ => ⟨F, ρ, μ, _, R, E, h, fun ds μ1 F1 vs H1 ⟨h6, h7⟩ s1 R1 D1 => ⟨F1, ds, μ1, k, R1.bare, D1, h6, h7, (C.mono s1).bare R1⟩⟩
end
end DL
/-! DLag: a tuple times 0 or 1. -/
namespace DL
open PySem PySem.Spec L2
open PyProof.Rows hiding St
theorem tuple_mul1 (l : Addr) (items : Array Value) (n : Nat) (dd : Option Addr) (sl : Array (Option Value)) (u : Tok) :
    Meets (Builtin.«tuple.__mul__» ⟨[.ref l, .int 1 u], []⟩) (fun _ R s => s.heap.get? l = some { cls := .type "tuple", dict := dd, data := .seq items n, slots := sl } ∧ R (.ok (.ret (Value.ref l))) s) :=
  .of_wp fun prog w A R s h => by
    obtain ⟨hp, g, d, tk, os⟩ := s
    obtain ⟨hl, h⟩ := h
    have f1 := AutoSeq1.idx_int
    wp_walk using wpAny_loadPart' hl
    exact ⟨_, rfl, h⟩
theorem tuple_mul0 (l : Addr) (items : Array Value) (n : Nat) (dd : Option Addr) (sl : Array (Option Value)) (u : Tok) (hi : items.isEmpty = false) :
    Meets (Builtin.«tuple.__mul__» ⟨[.ref l, .int 0 u], []⟩) (fun _ R s => s.heap.get? l = some { cls := .type "tuple", dict := dd, data := .seq items n, slots := sl } ∧ R (.ok (.ret (Value.ref s.heap.objs.size))) { s with heap := s.heap.push { cls := Value.type "tuple", data := Data.seq #[] }, toks := s.toks }) :=
  .of_wp fun prog w A R s h => by
    obtain ⟨hp, g, d, tk, os⟩ := s
    obtain ⟨hl, h⟩ := h
    have f1 := AutoSeq1.idx_int
    wp_walk using wpAny_loadPart' hl
    exact ⟨_, rfl, h⟩
def rRep01 (K : PySem.W.Frag) : R2 := fun x y H Q => ∃ l k xs, x = .ref l ∧ y = .int k ∧ SqT K H l xs ∧ xs ≠ [] ∧ ((k = 1 ∧ Q (.ref l) H) ∨ (k = 0 ∧ ∀ p, H p = none → Q (.ref p) (upd H p (.tup []))))
theorem op_rep01 {X : Cx} : OpR X (binaryOp .Mult) (rRep01 X.K) := by
  intro pins s σ H x y v u Q I rx ry h
  obtain ⟨l, k, xs, rfl, rfl, hT, hne, q⟩ := h
  cases rx
  obtain ⟨t, rfl⟩ := ry
  obtain ⟨its, r, ⟨⟨cls, dd, data, sl⟩, ho, hc, n, hd⟩, hs⟩ := I.tuple hT
  simp only at hc hd
  subst hc hd
  have hle : its.length = xs.length := r.length.symm
  have hn : its ≠ [] := fun e => hne (by
    rw [e] at hle
    exact List.eq_nil_of_length_eq_zero hle.symm)
  have hi : its.toArray.isEmpty = false := by
    cases its with
    | nil => exact absurd rfl hn
    | cons a b => rfl
  rcases q with ⟨rfl, q⟩ | ⟨rfl, q⟩
  · refine wpAny_binaryOp_repeat_ref (T := "tuple") (U := "int") (by decide) ⟨_, ho, rfl⟩ (fun s' => typeIs_int s' 1 t) noFill_tuple_mul F.fills_int_mul F.slot_int_rmul repeat_tuple F.slot_int_index.lookup
      (call_meets F.slot_int_rmul (typeIs_int s 1 t) F.entry_int_rmul (F.args_int_rmul_2 _ _) (int_rmul_tuple 1 t l its.toArray n dd sl)
        ⟨ho, rfl, ⟨_, ho, rfl⟩, call_meets F.slot_tuple_mul ⟨_, ho, rfl⟩ F.entry_tuple_mul (F.args_tuple_mul_2 _ _) (tuple_mul1 l its.toArray n dd sl t) ⟨ho, ?_⟩⟩)
    exact ⟨.ref l, H, I, rfl, q⟩
  · refine wpAny_binaryOp_repeat_ref (T := "tuple") (U := "int") (by decide) ⟨_, ho, rfl⟩ (fun s' => typeIs_int s' 0 t) noFill_tuple_mul F.fills_int_mul F.slot_int_rmul repeat_tuple F.slot_int_index.lookup
      (call_meets F.slot_int_rmul (typeIs_int s 0 t) F.entry_int_rmul (F.args_int_rmul_2 _ _) (int_rmul_tuple 0 t l its.toArray n dd sl)
        ⟨ho, rfl, ⟨_, ho, rfl⟩, call_meets F.slot_tuple_mul ⟨_, ho, rfl⟩ F.entry_tuple_mul (F.args_tuple_mul_2 _ _) (tuple_mul0 l its.toArray n dd sl t hi) ⟨ho, ?_⟩⟩)
    refine ⟨.ref s.heap.objs.size, _, I.laid (t' := s.toks) (o := .tup []) (fun b ob q => Heap.get?_push_of_some _ q) (Nat.le_refl _) ?_, rfl, q _ (I.hok.fresh (Nat.le_refl _))⟩
    exact ⟨Nat.zero_le _, _, .nil, IsTup.new _ _⟩
/-- a tuple of something, times 0 or 1 -/
def rdMul01 : D2 := fun d e μ k => match d, e with
  | .tup xs, .int j => xs ≠ [] ∧ (j = 0 ∨ j = 1) ∧ k (.tup (if j = 1 then xs else [])) μ
  | _, _ => False
theorem opd_mul01 [anc : Anc] {X : Cx} : OpD X (binaryOp .Mult) rdMul01 := ⟨_, op_rep01, fun F H μ x y d e k Q R Dx Dy h Cn => by
  unfold rdMul01 at h
  split at h
  · rename_i xs j
    obtain ⟨h1, h2, h3⟩ := h
    cases Dy
    have Dx0 := Dx
    cases Dx with
    | tup hs hd =>
      refine ⟨_, j, _, rfl, rfl, seqT_mono R.same hs, fun z => h1 ?_, ?_⟩
      · have := hd.length
        rw [z] at this
        exact List.length_eq_zero_iff.mp this.symm
      · rcases h2 with rfl | rfl
        · exact .inr ⟨rfl, fun p n => tup_ok R .nil h3 Cn n⟩
        · exact .inl ⟨rfl, Cn _ _ F _ _ h3 .refl R Dx0⟩
  · exact h.elim⟩
end DL
/-! DLah: zip of three lists. -/
namespace DL
open PySem PySem.Spec L2
open PyProof.Rows hiding St
variable [anc : Anc]
/-- the lists at a, b and c as they stand at each turn, the items in new tuples -/
def Itz3 (K : PySem.W.Frag) (a b c : Addr) : It :=
  ⟨fun i H => ∃ (xs ys zs : List V) (x y z : V), SqL K H a xs ∧ SqL K H b ys ∧ SqL K H c zs ∧ xs[i]? = some x ∧ ys[i]? = some y ∧ zs[i]? = some z,
    fun i H v H' => ∃ T x y z, v = .ref T ∧ H T = none ∧ H' = upd H T (.tup [x, y, z]) ∧ (∀ xs, SqL K H a xs → xs[i]? = some x) ∧ (∀ ys, SqL K H b ys → ys[i]? = some y) ∧ ∀ zs, SqL K H c zs → zs[i]? = some z,
    fun i H => ∃ xs ys zs : List V, SqL K H a xs ∧ SqL K H b ys ∧ SqL K H c zs ∧ i ≤ xs.length ∧ i ≤ ys.length ∧ i ≤ zs.length ∧ (i = xs.length ∨ i = ys.length ∨ i = zs.length)⟩
theorem turn_zip3 {P : Program} {w : World} {K : PySem.W.Frag} {elts : List Expr} {kk : Nat} {tpos : Pos} {a b c z TI TO i1 i2 i3 : Addr} (S : ZipSep3 z TI TO i1 i2 i3 [i1, a] [i2, b] [i3, c]) (na : a ≠ i1) (nb : b ≠ i2) (nc : c ≠ i3) :
    Turn P w K (.Tuple elts kk tpos) (Itz3 K a b c) [z, TI, TO, i1, i2, i3] z (fun i h => IsZip h z TI TO .none ∧ IsTupOf3 h TI (.ref i1) (.ref i2) (.ref i3) ∧ (∃ x y u, IsTupOf3 h TO x y u) ∧ h.IsListIter i1 a i ∧ h.IsListIter i2 b i ∧ h.IsListIter i3 c i) where
  mem := by simp
  obj := fun i h st d hd => by
    obtain ⟨hz, hTI, ⟨x, y, u, hTO⟩, ⟨o1, e1, _, d1⟩, ⟨o2, e2, _, d2⟩, ⟨o3, e3, _, d3⟩⟩ := st
    have e' : d = z ∨ d = TI ∨ d = TO ∨ d = i1 ∨ d = i2 ∨ d = i3 := by simpa using hd
    rcases e' with q | q | q | q | q | q
    · rw [q]; exact ⟨_, hz, fun v q => nomatch q⟩
    · rw [q]; exact ⟨_, hTI, fun v q => nomatch q⟩
    · rw [q]; exact ⟨_, hTO, fun v q => nomatch q⟩
    · rw [q]; exact ⟨o1, e1, fun v q => by rw [d1] at q; cases q⟩
    · rw [q]; exact ⟨o2, e2, fun v q => by rw [d2] at q; cases q⟩
    · rw [q]; exact ⟨o3, e3, fun v q => by rw [d3] at q; cases q⟩
  keep := fun i h h' st k => by
    obtain ⟨hz, hTI, ⟨x, y, u, hTO⟩, h1, h2, h3⟩ := st
    exact ⟨k z (by simp) _ hz, k TI (by simp) _ hTI, ⟨x, y, u, k TO (by simp) _ hTO⟩, h1.at fun o q => k i1 (by simp) o q, h2.at fun o q => k i2 (by simp) o q, h3.at fun o q => k i3 (by simp) o q⟩
  item := by
    intro X hP hw hK hc i pins s σ H E I hf st hg
    subst hP hw hK
    obtain ⟨hz, hTI, ⟨x0, y0, u0, hTO⟩, h1, h2, h3⟩ := st
    obtain ⟨xs, ys, zs, x, y, u, hqx, hqy, hqz, hx, hy, hu⟩ := hg
    obtain ⟨its, rv, p, _⟩ := I.list hqx
    obtain ⟨its2, rv2, p2, _⟩ := I.list hqy
    obtain ⟨its3, rv3, p3, _⟩ := I.list hqz
    obtain ⟨v1, hv1, ru1⟩ := rv.get hx
    obtain ⟨v2, hv2, ru2⟩ := rv2.get hy
    obtain ⟨v3, hv3, ru3⟩ := rv3.get hu
    have hzl : z < s.heap.objs.size := Heap.lt_size hz
    have D1 := Draws.list (prog := X.prog) (w := X.w) (A := X.A.in1) (I.ok.hd hc) i1 a na its.toArray
    have D2 := Draws.list (prog := X.prog) (w := X.w) (A := X.A.in1) (I.ok.hd hc) i2 b nb its2.toArray
    have D3 := Draws.list (prog := X.prog) (w := X.w) (A := X.A.in1) (I.ok.hd hc) i3 c nc its3.toArray
    have b1 : i < its.toArray.size := by rw [List.size_toArray]; exact (List.getElem?_eq_some_iff.mp hv1).1
    have b2 : i < its2.toArray.size := by rw [List.size_toArray]; exact (List.getElem?_eq_some_iff.mp hv2).1
    have b3 : i < its3.toArray.size := by rw [List.size_toArray]; exact (List.getElem?_eq_some_iff.mp hv3).1
    refine wpAny_pyNext_zipD3_item S D1 D2 D3 hz hTI hTO ⟨h1, p.isList⟩ ⟨h2, p2.isList⟩ ⟨h3, p3.isList⟩ b1 b2 b3 fun y1 y2 y3 h' tk q1 q2 q3 z' TO' st1 st2 st3 hT hsz hk => ?_
    refine ⟨_, rfl, wpAny_letOwnedTupleGo_zip (s := { s with heap := h', toks := tk }) z' fun h'' z'' sb => ?_⟩
    have e1 : y1 = v1 := by
      have : its.toArray[i]? = some v1 := by simpa using hv1
      exact Option.some.inj (q1.symm.trans this)
    have e2 : y2 = v2 := by
      have : its2.toArray[i]? = some v2 := by simpa using hv2
      exact Option.some.inj (q2.symm.trans this)
    have e3 : y3 = v3 := by
      have : its3.toArray[i]? = some v3 := by simpa using hv3
      exact Option.some.inj (q3.symm.trans this)
    subst e1 e2 e3
    have hT2 : h''.get? s.heap.objs.size = some { cls := .type "tuple", data := .seq #[y1, y2, y3] } := (sb.2 _ (Nat.ne_of_gt hzl)).trans hT
    have new : ObjOk X.prog X.w (upd H s.heap.objs.size (.tup [x, y, u])) h'' s.heap.objs.size (.tup [x, y, u]) :=
      ⟨by show 3 ≤ sizeLine; decide, [y1, y2, y3], .cons ru1 (.cons ru2 (.cons ru3 .nil)), ⟨_, hT2, rfl, _, rfl⟩⟩
    have I1 : Inv X pins σ (upd H s.heap.objs.size (.tup [x, y, u])) { s with heap := h'', toks := tk } :=
      I.turnedNew (ch := [z, TI, TO, i1, i2, i3]) (fun d o hb q => (sb.2 d (fun q' => hb (by simp [q']))).trans (hk d o (fun q' => hb (by simp [q'])) (fun q' => hb (by simp [q'])) (fun q' => hb (by simp [q'])) (fun q' => hb (by simp [q'])) (fun q' => hb (by simp [q'])) q)) hf (Nat.le_refl _) new
    have l1 : i1 ≠ z := fun q => S.zf1 (by rw [← q]; simp)
    have l2 : i2 ≠ z := fun q => S.zf2 (by rw [← q]; simp)
    have l3 : i3 ≠ z := fun q => S.zf3 (by rw [← q]; simp)
    refine ⟨.ref s.heap.objs.size, _, I1, rfl, ⟨_, x, y, u, rfl, I.hok.fresh (Nat.le_refl _), rfl, fun l hl => by rw [I.list_inj hl hqx]; exact hx, fun l hl => by rw [I.list_inj hl hqy]; exact hy, fun l hl => by rw [I.list_inj hl hqz]; exact hu⟩, ⟨z'', ?_, ⟨y1, y2, y3, ?_⟩, ?_, ?_, ?_⟩, fun d hdm => ?_⟩
    · exact (sb.2 _ S.TIz).trans (hk _ _ S.TIz S.TITO S.TIi1 S.TIi2 S.TIi3 hTI)
    · exact (sb.2 _ S.TOz).trans TO'
    · exact st1.1.at fun o q => (sb.2 _ l1).trans q
    · exact st2.1.at fun o q => (sb.2 _ l2).trans q
    · exact st3.1.at fun o q => (sb.2 _ l3).trans q
    · have hlt : d < s.heap.objs.size := by
        have e' : d = z ∨ d = TI ∨ d = TO ∨ d = i1 ∨ d = i2 ∨ d = i3 := by simpa using hdm
        rcases e' with q | q | q | q | q | q
        · rw [q]; exact hzl
        · rw [q]; exact Heap.lt_size hTI
        · rw [q]; exact Heap.lt_size hTO
        · rw [q]; obtain ⟨_, e1, _⟩ := h1; exact Heap.lt_size e1
        · rw [q]; obtain ⟨_, e1, _⟩ := h2; exact Heap.lt_size e1
        · rw [q]; obtain ⟨_, e1, _⟩ := h3; exact Heap.lt_size e1
      rw [upd_ne (Nat.ne_of_lt hlt)]
      exact (hf d hdm).1
  done := by
    intro X hP hw hK hc i pins s σ H E I hf st hg
    subst hP hw hK
    obtain ⟨hz, hTI, ⟨x0, y0, u0, hTO⟩, h1, h2, h3⟩ := st
    obtain ⟨xs, ys, zs, hqx, hqy, hqz, b1, b2, b3, hend⟩ := hg
    obtain ⟨its, rv, p, _⟩ := I.list hqx
    obtain ⟨its2, rv2, p2, _⟩ := I.list hqy
    obtain ⟨its3, rv3, p3, _⟩ := I.list hqz
    have D1 := Draws.list (prog := X.prog) (w := X.w) (A := X.A.in1) (I.ok.hd hc) i1 a na its.toArray
    have D2 := Draws.list (prog := X.prog) (w := X.w) (A := X.A.in1) (I.ok.hd hc) i2 b nb its2.toArray
    have D3 := Draws.list (prog := X.prog) (w := X.w) (A := X.A.in1) (I.ok.hd hc) i3 c nc its3.toArray
    have l1 : its.toArray.size = xs.length := by rw [List.size_toArray]; exact rv.length.symm
    have l2 : its2.toArray.size = ys.length := by rw [List.size_toArray]; exact rv2.length.symm
    have l3 : its3.toArray.size = zs.length := by rw [List.size_toArray]; exact rv3.length.symm
    exact wpAny_pyNext_zipD3_end S D1 D2 D3 hz hTI hTO ⟨h1, p.isList⟩ ⟨h2, p2.isList⟩ ⟨h3, p3.isList⟩ (by omega) (by omega) (by omega) (by omega) fun h' tk hk => ⟨rfl, I.turnedL (t' := tk) (ch := [z, TI, TO, i1, i2, i3]) (fun d o hb q =>
      hk d o (fun q' => hb (by simp [q'])) (fun q' => hb (by simp [q'])) (fun q' => hb (by simp [q'])) (fun q' => hb (by simp [q'])) (fun q' => hb (by simp [q'])) q) hf⟩
  self := fun A i s Q E st h => wpAny_pyIter_zip st.1 h
def iZip3 (K : PySem.W.Frag) (ta : TA) : TI := fun σ H R => ta σ H fun vs H1 => ∃ a b c xs ys zs, vs = [.ref a, .ref b, .ref c] ∧ SqL K H1 a xs ∧ SqL K H1 b ys ∧ SqL K H1 c zs ∧ R (Itz3 K a b c) H1
section
variable {X : Cx} {e e2 e3 : Expr} {p pos tpos : Pos} {elts : List Expr} {kk : Nat}
theorem pi_zip3 {ta : TA} (hg : Gl X "zip") (hm : X.mg "zip" = none) (ha : PA X [e, e2, e3] ta)
    (hs : starEach [e, e2, e3] X.env = (false, eval e X.env) :: starEach [e2, e3] X.env := by rfl) (hpl : (backTo pos (starEach [e2, e3] X.env)).any (·.1) = false := by rfl) :
    PI X (.Tuple elts kk tpos) (.Call (.Name "zip" p) [e, e2, e3] [] pos) (iZip3 X.K ta) := by
  refine ⟨fun pins s σ H R I h => ?_⟩
  refine Call_ (ld_blt I hg hm PyProof.Rows.boot_zip (PyProof.Rows.callWith_type1 (thn (ha.run pos pins s σ H _ I h) fun us s1 ⟨vs, H1, I1, r1, q1⟩ => ?_) hs hpl))
  obtain ⟨a, b, c, xs, ys, zs, ex, hqx, hqy, hqz, q⟩ := q1
  subst ex
  cases r1 with
  | cons r rr =>
    cases rr with
    | cons r' rr =>
      cases rr with
      | cons r'' rr =>
        cases rr
        cases r
        cases r'
        cases r''
        obtain ⟨its, rv, p1, _⟩ := I1.list hqx
        obtain ⟨its2, rv2, p2, _⟩ := I1.list hqy
        obtain ⟨its3, rv3, p3, _⟩ := I1.list hqz
        have la : a < s1.heap.objs.size := p1.lt
        have lb : b < s1.heap.objs.size := p2.lt
        have lc : c < s1.heap.objs.size := p3.lt
        refine zip_begins3 (begins_list a its.toArray) (begins_list b its2.toArray) (begins_list c its3.toArray) p1.isList p2.isList p3.isList fun h' hz hTI hTO h1 h2 h3 hsz hk => wpAny_pyIter_zip hz ?_
        have I2 : Inv X pins σ H1 { s1 with heap := h' } := I1.kept (t' := s1.toks) hk
        have S := zip_sep3 (N := s1.heap.objs.size) (fp1 := [a]) (fp2 := [b]) (fp3 := [c]) (by simpa using la) (by simpa using lb) (by simpa using lc)
        refine ⟨s1.heap.objs.size + 5, [s1.heap.objs.size + 5, s1.heap.objs.size + 3, s1.heap.objs.size + 4, s1.heap.objs.size, s1.heap.objs.size + 1, s1.heap.objs.size + 2], _, _, H1, rfl, I2, turn_zip3 S (Nat.ne_of_lt la) (Nat.ne_of_lt (Nat.lt_of_lt_of_le lb (Nat.le_add_right _ _))) (Nat.ne_of_lt (Nat.lt_of_lt_of_le lc (Nat.le_add_right _ _))), ⟨hz, hTI, ⟨_, _, _, hTO⟩, ⟨_, h1, rfl, rfl⟩, ⟨_, h2, rfl, rfl⟩, ⟨_, h3, rfl, rfl⟩⟩, fun d hdm => ?_, q⟩
        have e' : d = s1.heap.objs.size + 5 ∨ d = s1.heap.objs.size + 3 ∨ d = s1.heap.objs.size + 4 ∨ d = s1.heap.objs.size ∨ d = s1.heap.objs.size + 1 ∨ d = s1.heap.objs.size + 2 := by simpa using hdm
        have hle : s1.heap.objs.size ≤ d := by
          rcases e' with z | z | z | z | z | z
          · rw [z]; exact Nat.le_add_right _ _
          · rw [z]; exact Nat.le_add_right _ _
          · rw [z]; exact Nat.le_add_right _ _
          · rw [z]; exact Nat.le_refl _
          · rw [z]; exact Nat.le_add_right _ _
          · rw [z]; exact Nat.le_add_right _ _
        exact I1.fpOk hle (I1.hok.fresh hle)
def zipD3 : List D → List D → List D → List D
  | x :: xs, y :: ys, z :: zs => .tup [x, y, z] :: zipD3 xs ys zs
  | _, _, _ => []
theorem zipD3_get : ∀ {xs ys zs : List D} {i : Nat} {x y z : D}, xs[i]? = some x → ys[i]? = some y → zs[i]? = some z → (zipD3 xs ys zs)[i]? = some (.tup [x, y, z])
  | [], _, _, _, _, _, _, h, _, _ => by simp at h
  | _ :: _, [], _, _, _, _, _, _, h, _ => by simp at h
  | _ :: _, _ :: _, [], _, _, _, _, _, _, h => by simp at h
  | x :: xs, y :: ys, z :: zs, 0, _, _, _, h, h', h'' => by simp at h h' h''; subst h h' h''; rfl
  | x :: xs, y :: ys, z :: zs, i + 1, _, _, _, h, h', h'' => by
    show (zipD3 xs ys zs)[i]? = _
    exact zipD3_get (by simpa using h) (by simpa using h') (by simpa using h'')
theorem zipD3_length : ∀ xs ys zs : List D, (zipD3 xs ys zs).length = min (min xs.length ys.length) zs.length
  | [], ys, zs => by show 0 = min (min 0 _) _; omega
  | x :: xs, [], zs => by show 0 = min (min _ 0) _; omega
  | x :: xs, y :: ys, [] => by show 0 = min _ 0; omega
  | x :: xs, y :: ys, z :: zs => by
    show (zipD3 xs ys zs).length + 1 = min (min (xs.length + 1) (ys.length + 1)) (zs.length + 1)
    rw [zipD3_length xs ys zs]; omega
theorem it_zip3 {K : PySem.W.Frag} {F : Hp} {a b c : Addr} {xs ys zs : List D} {k1 k2 k3 : Mu → Prop} (h1 : ∀ F1 H1 μ1, Same F F1 → RepM K F1 H1 μ1 → k1 μ1 → ∃ vs, SqL K H1 a vs ∧ DenL K F1 vs xs)
    (h2 : ∀ F1 H1 μ1, Same F F1 → RepM K F1 H1 μ1 → k2 μ1 → ∃ vs, SqL K H1 b vs ∧ DenL K F1 vs ys) (h3 : ∀ F1 H1 μ1, Same F F1 → RepM K F1 H1 μ1 → k3 μ1 → ∃ vs, SqL K H1 c vs ∧ DenL K F1 vs zs) :
    ItOk K F (Itz3 K a b c) (zipD3 xs ys zs) (fun μ => k1 μ ∧ k2 μ ∧ k3 μ) := fun F1 H1 μ1 s R kp => by
  obtain ⟨vs, q1, d1⟩ := h1 F1 H1 μ1 s R kp.1
  obtain ⟨ws, q2, d2⟩ := h2 F1 H1 μ1 s R kp.2.1
  obtain ⟨us, q3, d3⟩ := h3 F1 H1 μ1 s R kp.2.2
  have l1 := d1.length
  have l2 := d2.length
  have l3 := d3.length
  rw [zipD3_length]
  refine ⟨fun i hi => ?_, vs, ws, us, q1, q2, q3, by omega, by omega, by omega, by omega⟩
  have i1 : i < vs.length := by omega
  have i2 : i < ws.length := by omega
  have i3 : i < us.length := by omega
  refine ⟨⟨vs, ws, us, vs[i], ws[i], us[i], q1, q2, q3, by simp [i1], by simp [i2], by simp [i3]⟩, fun x H2 hy => ?_⟩
  obtain ⟨T, x1, x2, x3, rfl, n, rfl, f1, f2, f3⟩ := hy
  obtain ⟨y1, g1, e1⟩ := d1.get (f1 _ q1)
  obtain ⟨y2, g2, e2⟩ := d2.get (f2 _ q2)
  obtain ⟨y3, g3, e3⟩ := d3.get (f3 _ q3)
  obtain ⟨sF, R2⟩ := R.frozen n (.tup [x1, x2, x3])
  exact ⟨_, sF, R2, _, zipD3_get g1 g2 g3, .tup (.inl (.inl upd_same)) (.cons (e1.ext sF) (.cons (e2.ext sF) (.cons (e3.ext sF) .nil)))⟩
def diZip3 (dr : DA) : DI := fun ρ μ kk => dr ρ μ fun ds μ1 => match ds with
  | [d, e, f] => ∃ p, still μ1 d = some p ∧ ∃ q, still μ1 e = some q ∧ ∃ r, still μ1 f = some r ∧ kk (zipD3 p.1 q.1 r.1) (fun μ => p.2 μ ∧ q.2 μ ∧ r.2 μ) μ1
  | _ => False
theorem pdi_zip3 {dr : DA} (hg : Gl X "zip") (hm : X.mg "zip" = none) (ha : PDA X [e, e2, e3] dr)
    (hs : starEach [e, e2, e3] X.env = (false, eval e X.env) :: starEach [e2, e3] X.env := by rfl) (hpl : (backTo pos (starEach [e2, e3] X.env)).any (·.1) = false := by rfl) : PDI X (.Tuple elts kk tpos) (.Call (.Name "zip" p) [e, e2, e3] [] pos) (diZip3 dr) :=
  PI.imp (pi_zip3 hg hm ha hs hpl) fun σ H RR ⟨F, ρ, μ, kk, R, E, h, C⟩ => ⟨F, ρ, μ, _, R, E, h, fun ds μ1 F1 vs H1 h1 s1 R1 D1 => by
    unfold diZip3 at *
    split at h1
    · obtain ⟨⟨xs, k1⟩, e1, ⟨ys, k2⟩, e2, ⟨zs, k3⟩, e3, h1⟩ := h1
      cases D1 with
      | cons q1 q2 => cases q2 with
        | cons q2 q3 => cases q3 with
          | cons q3 q4 =>
            cases q4
            obtain ⟨a, rfl, ⟨v1, b1, b2⟩, b3⟩ := still_ok R1 q1 e1
            obtain ⟨b, rfl, ⟨w1, c1, c2⟩, c3⟩ := still_ok R1 q2 e2
            obtain ⟨c, rfl, ⟨u1, d1, d2⟩, d3⟩ := still_ok R1 q3 e3
            exact ⟨a, b, c, v1, w1, u1, rfl, b1, c1, d1, C _ _ μ1 F1 H1 _ h1 s1 R1 (it_zip3 b3 c3 d3)⟩
    · exact h1.elim⟩
end

/-! sorted of pairs of numbers, in order -/
instance decLeP (p q : Int × Int) : Decidable (leP p q) := by unfold leP; infer_instance
theorem leP_tot (p q : Int × Int) : leP p q ∨ leP q p := by unfold leP; omega
theorem leP_trans {p q r : Int × Int} (h : leP p q) (h' : leP q r) : leP p r := by unfold leP at *; omega
theorem dataLe_P : PySem.W.dataLe false (fun b : V × (Int × Int) => PySem.W.Datum.toD b.2) = fun a b => decide (leP a.2 b.2) := by
  have := PySem.W.dataLe_ii (β := V × (Int × Int)) (fun b => b.2.1) (fun b => b.2.2)
  exact this
theorem each_readsP {X : Cx} {pins : List (Addr × Obj)} {σ : L2.St} {H : Hp} {s : Shared} (I : Inv X pins σ H s) : ∀ {xs : List V} {its : List Value} {ps : List (Int × Int)}, DpAll X.K H xs (ps.map PySem.W.Datum.toD) → Vals xs its → PySem.W.EachIs (fun (v : Value) (b : V × (Int × Int)) => ∃ as, Reads s.heap v (PySem.W.Datum.toD b.2) as) its (xs.zip ps)
  | _, _, [], .nil, .nil => .nil
  | _, _, _ :: _, .cons h hs, .cons r t => .cons (Dp.reads I _ _ _ h r) (each_readsP I hs t)
theorem each_valsP {xs : List V} {its : List Value} {ds : List (Int × Int)} (r : Vals xs its) (e : xs.length = ds.length) : PySem.W.EachIs (fun (v : Value) (b : V × (Int × Int)) => RelV b.1 v) its (xs.zip ds) := by
  induction r generalizing ds with
  | nil => cases ds with
    | nil => exact .nil
    | cons => cases e
  | cons r t ih => cases ds with
    | nil => cases e
    | cons d ds => exact .cons r (ih (Nat.succ.inj e))
theorem vals_eachP : ∀ {its : List Value} {bs : List (V × (Int × Int))}, PySem.W.EachIs (fun (v : Value) (b : V × (Int × Int)) => RelV b.1 v) its bs → Vals (bs.map (·.1)) its
  | _, _, .nil => .nil
  | _, _, .cons r t => .cons r (vals_eachP t)
theorem call_sortP {X : Cx} (hu : X.A.units + 65 < cLine) : CallR X (.builtin "sorted") (fun vs H Q => ∃ (a : Addr) (xs : List V) (ps : List (Int × Int)), vs = [V.ref a] ∧ SqL X.K H a xs ∧ DpAll X.K H xs (ps.map PySem.W.Datum.toD) ∧
    ∀ (bs : List (V × (Int × Int))) (p : Addr), bs.Perm (xs.zip ps) → bs.Pairwise (fun a b => leP a.2 b.2) → H p = none → Q (.ref p) (upd H p (.lst (bs.map (·.1))))) := by
  intro pins s σ H vs us Q I r h
  obtain ⟨a, xs, ps, rfl, hs, hd, q⟩ := h
  obtain ⟨its, rv, hl, hz⟩ := I.list hs
  rw [Vals.ref1 r]
  have hlen := dpAll_len hd
  rw [List.length_map] at hlen
  have em : (xs.zip ps).map (fun b : V × (Int × Int) => PySem.W.Datum.toD b.2) = ps.map PySem.W.Datum.toD := by
    rw [show (fun b : V × (Int × Int) => PySem.W.Datum.toD b.2) = PySem.W.Datum.toD ∘ Prod.snd from rfl, ← List.map_map, List.map_snd_zip]
    omega
  refine PySem.W.sorted_data (enc := fun b : V × (Int × Int) => PySem.W.Datum.toD b.2) hl.isList (each_valsP rv hlen) (each_readsP I hd rv) (by rw [em]; exact .of fun b b' => PySem.W.DatumOrd.alike b b') (by rw [em]; exact .tuples fun b => ⟨_, _, toD_pair b⟩) (by rw [List.length_zip]; omega) (fun b hb => by
      show X.A.units + 2 + (PySem.W.Datum.toD b.2).depth < cLine
      rw [toD_pair]
      simp only [PyData.depth, PyData.depthAll]
      omega) fun out h1 h2 => ?_
  obtain ⟨ep, he'⟩ := PyProof.Rows.sortedAll_at s.heap its out.toArray
  have pm := List.mergeSort_perm (xs.zip ps) (PySem.W.dataLe false fun b : V × (Int × Int) => PySem.W.Datum.toD b.2)
  have so : ((xs.zip ps).mergeSort (PySem.W.dataLe false fun b : V × (Int × Int) => PySem.W.Datum.toD b.2)).Pairwise (fun a b => leP a.2 b.2) := by
    rw [dataLe_P]
    have := List.pairwise_mergeSort (le := fun (a b : V × (Int × Int)) => decide (leP a.2 b.2)) (fun a b c h h' => by
      simp only [decide_eq_true_eq] at h h' ⊢
      exact leP_trans h h') (fun a b => by
      simp only [Bool.or_eq_true, decide_eq_true_eq]
      exact leP_tot _ _) (xs.zip ps)
    exact this.imp (by simp)
  refine ⟨.ref _, upd H (s.heap.objs.size + 1) (.lst (((xs.zip ps).mergeSort (PySem.W.dataLe false fun b : V × (Int × Int) => PySem.W.Datum.toD b.2)).map (·.1))), I.laid (t' := s.toks) (fun _ _ => PyProof.Rows.sortedAll_old) (Nat.le_succ _) ⟨?_, out, ep, vals_eachP h2, by simpa using he'⟩, rfl, q _ _ pm so (I.hok.fresh (Nat.le_succ _))⟩
  rw [List.length_map, pm.length_eq, List.length_zip]
  omega
def rdSortP (m : Bool) : DCall := fun ds μ k => match ds with
  | [d] => ∃ ps : List (Int × Int), lsR μ d = some (ps.map piD) ∧ ∀ qs : List (Int × Int), qs.Perm ps → qs.Pairwise leP → mk m (qs.map piD) μ k
  | _ => False
theorem denL_zip {K : PySem.W.Frag} {F : Hp} : ∀ {xs : List V} {ps : List (Int × Int)}, DenL K F xs (ps.map piD) → ∀ b ∈ xs.zip ps, Den K F b.1 (piD b.2)
  | [], _, _, b, hb => by simp at hb
  | _ :: _, [], _, b, hb => by simp at hb
  | x :: xs, p :: ps, h, b, hb => by
    cases h with
    | cons h1 h2 =>
      rw [List.zip_cons_cons] at hb
      rcases List.mem_cons.mp hb with rfl | hb
      · exact h1
      · exact denL_zip h2 b hb
theorem denL_of {K : PySem.W.Frag} {F : Hp} : ∀ {bs : List (V × (Int × Int))}, (∀ b ∈ bs, Den K F b.1 (piD b.2)) → DenL K F (bs.map (·.1)) ((bs.map (·.2)).map piD)
  | [], _ => .nil
  | b :: bs, h => .cons (h b (List.mem_cons_self ..)) (denL_of fun c hc => h c (List.mem_cons_of_mem _ hc))
theorem cd_sortP {X : Cx} (hu : X.A.units + 65 < cLine) (m : Bool) : CallD X (.builtin "sorted") (rdSortP m) := ⟨_, call_sortP hu, fun F H μ xs ds k Q R Dx h C => by
  unfold rdSortP at h
  split at h
  · cases Dx with
    | cons h1 h2 =>
      cases h2
      obtain ⟨ps, q, h⟩ := h
      obtain ⟨p, vs, rfl, hq, hv⟩ := lsR_seq R h1 q
      refine ⟨p, vs, ps, rfl, hq, by rw [← pys_pi]; exact hv.dp R.same (pures_pi ps), fun bs a pm so n => ?_⟩
      have hl := hv.length
      rw [List.length_map] at hl
      have em : (vs.zip ps).map (·.2) = ps := by rw [List.map_snd_zip]; omega
      refine mk_ok R (denL_of fun b hb => denL_zip hv b (pm.mem_iff.mp hb)) (h (bs.map (·.2)) ?_ ?_) C n
      · have := pm.map (·.2)
        rwa [em] at this
      · exact List.pairwise_map.mpr so
  · exact h.elim⟩
/-! list of a dict: its keys -/
def kD2 : Key → D
  | .inl i => .int i
  | .inr x => .str x
theorem den_kD2 {K : PySem.W.Frag} {F : Hp} (k : Key) : Den K F (kV k) (kD2 k) := by
  cases k with
  | inl i => exact .int _
  | inr x => exact .str _
def rdListK (m : Bool) : DCall := fun ds μ k => match ds with
  | [d] => onK d μ fun _ kvs => mk m (kvs.map fun kv => kD2 kv.1) μ k
  | _ => False
theorem kp_keys {K : PySem.W.Frag} {F : Hp} : ∀ {vs : List (Key × V)} {ks : List (Key × D)}, KP K F vs ks → DenL K F (vs.map fun kv => kV kv.1) (ks.map fun kv => kD2 kv.1)
  | _, _, .nil => .nil
  | _, _, .cons (a := a) (b := b) ⟨h1, h2⟩ t => .cons (by show Den K F (kV a.1) (kD2 b.1); rw [h1]; exact den_kD2 _) (kp_keys t)
theorem cd_listK {X : Cx} (hc : X.calm = true) (m : Bool) : CallD X (.type "list") (rdListK m) := ⟨_, call_listD hc, fun F H μ xs ds k Q R Dx h C => by
  unfold rdListK at h
  split at h
  · cases Dx with
    | cons h1 h2 =>
      cases h2
      obtain ⟨a, kvs, vs, rfl, rfl, e, n, hH, hp, h⟩ := onK_ok R h1 h
      exact ⟨a, vs, rfl, .inl hH, fun p n => mk_ok R (kp_keys hp) h C n⟩
  · exact h.elim⟩

section
variable {X : Cx} {o i : Expr} {pos : Pos} {da db : DE}
theorem pd_knin (hu : X.A.units + 65 < cLine) (hi : PD X i db) (ho : PD X o da) (hm : behindInMarks .NotIn o = false := by first | exact nomark _ | rfl) : PD X (.Compare i [.NotIn] [o] pos) (dKIn true db da) :=
  PE.imp (pe_cmp (pc_dnotin (hu1 hu) hi ho) hm) fun σ H Q ⟨F, ρ, μ, k, R, E, h, C⟩ => ⟨F, ρ, μ, _, R, E, h, fun e μ1 F1 v H1 h1 s1 R1 D1 => ⟨F1, ρ, μ1, _, R1, E.ext s1, h1, fun d μ2 F2 w H2 ⟨key, hk, h2⟩ s2 R2 D2 => by
    obtain ⟨a, kvs, vs, rfl, rfl, ea, _, hH, hp, hq⟩ := onK_ok R2 D2 h2
    have hw := keyD_den (D1.ext s2) hk
    subst hw
    refine ⟨a, valV vs key, rfl, DGet.k hH, ?_⟩
    have e : (valV vs key).isSome = (valD kvs key).isSome := by
      cases q : valD kvs key with
      | none => rw [hp.none q]; rfl
      | some d => obtain ⟨x, hx, _⟩ := hp.val q; rw [hx]; rfl
    rw [e]
    exact C _ _ F2 _ _ hq (s1.trans s2) R2 (.bl _)⟩⟩
theorem pdt_knin (hu : X.A.units + 65 < cLine) (hi : PD X i db) (ho : PD X o da) (hm : behindInMarks .NotIn o = false := by first | exact nomark _ | rfl) : PDT X (.Compare i [.NotIn] [o] pos) (dB (dKIn true db da)) :=
  PT.imp (pt_cmp (pc_dnotin (hu1 hu) hi ho) hm) fun σ H Q ⟨F, ρ, μ, k, R, E, h, C⟩ => ⟨F, ρ, μ, _, R, E, h, fun e μ1 F1 v H1 h1 s1 R1 D1 => ⟨F1, ρ, μ1, _, R1, E.ext s1, h1, fun d μ2 F2 w H2 ⟨key, hk, h2⟩ s2 R2 D2 => by
    obtain ⟨a, kvs, vs, rfl, rfl, ea, _, hH, hp, hq⟩ := onK_ok R2 D2 h2
    have hw := keyD_den (D1.ext s2) hk
    subst hw
    refine ⟨a, valV vs key, rfl, DGet.k hH, ?_⟩
    have e : (valV vs key).isSome = (valD kvs key).isSome := by
      cases q : valD kvs key with
      | none => rw [hp.none q]; rfl
      | some d => obtain ⟨x, hx, _⟩ := hp.val q; rw [hx]; rfl
    rw [e]
    obtain ⟨b, eb, hq⟩ := hq
    cases eb
    exact ⟨_, rfl, C _ _ F2 _ hq (s1.trans s2) R2⟩⟩⟩
end
end DL
/-! DLai: a text in a text, len(set(numbers)), sorted of a tuple of pairs. -/
namespace DL
open PySem PySem.Spec L2
open PyProof.Rows hiding St
variable [anc : Anc]
/-- a text in a text -/
def rdInW : D2 := fun d e μ k => match d, e with
  | .str x, .str z => k (.bl (!(Builtin.Str.occurrences z x 0 z.length 1).isEmpty)) μ
  | _, _ => False
theorem opd_inW {X : Cx} : OpD X (compareOp .In) rdInW := ⟨_, op_in_str, fun F H μ x y d e k Q R Dx Dy h Cn => by
  unfold rdInW at h
  split at h
  · rename_i x z
    cases Dx
    cases Dy
    exact ⟨x, z, rfl, rfl, Cn _ _ F _ _ h .refl R (.bl _)⟩
  · exact h.elim⟩
/-- a text that stands within -/
theorem inW_mid (x y z : List Nat) : (!(Builtin.Str.occurrences (⟨(x ++ y ++ z).toArray⟩ : Str) ⟨y.toArray⟩ 0 (⟨(x ++ y ++ z).toArray⟩ : Str).length 1).isEmpty) = true := by
  rw [StrLaws.found_iff]
  refine ⟨x.length, ?_, ?_⟩
  · show x.length + y.toArray.size ≤ (x ++ y ++ z).toArray.size
    simp only [List.size_toArray, List.length_append]; omega
  · rw [StrLaws.subAt_eq]
    show (((x ++ y ++ z).drop x.length).take y.toArray.size == y) = true
    rw [List.append_assoc, List.drop_left, List.size_toArray, List.take_left]
    exact beq_self_eq_true y
/-- len(set(numbers)), no two alike -/
def dLenSet (de : DE) : DE := fun ρ μ k => de ρ μ fun d μ1 => ∃ ns : List Int, lsR μ1 d = some (ns.map D.int) ∧ ns.Nodup ∧ ns.length ≤ 4000 ∧ k (.int (ns.length : Nat)) μ1
theorem denL_ints {K : PySem.W.Frag} {F : Hp} : ∀ {ns : List Int} {vs : List V}, DenL K F vs (ns.map D.int) → vs = ns.map V.int
  | [], _, .nil => rfl
  | n :: ns, _, .cons h t => by
    cases h
    rw [denL_ints t]; rfl
theorem pd_lenSet {X : Cx} {a : Expr} {de : DE} {p p2 q pos : Pos} (hg : Gl X "len") (hm : X.mg "len" = none) (hg2 : Gl X "set") (hm2 : X.mg "set" = none) (ha : PD X a de) (hc : X.calm = true := by rfl)
    (na : starEach [a] X.env = (false, eval a X.env) :: starEach [] X.env := by rfl) : PD X (.Call (.Name "len" p) [.Call (.Name "set" p2) [a] [] q] [] pos) (dLenSet de) :=
  PE.imp (RZ.pe_lenSetI hg hm hg2 hm2 ha hc na) fun σ H Q ⟨F, ρ, μ, k, R, E, h, C⟩ => ⟨F, ρ, μ, _, R, E, h, fun d μ1 F1 v H1 h1 s1 R1 D1 => by
    obtain ⟨ns, q1, nd, hl, h1⟩ := h1
    obtain ⟨p, vs, rfl, hs, hv⟩ := lsR_seq R1 D1 q1
    have := denL_ints hv
    subst this
    exact ⟨p, ns, rfl, hs, nd, hl, C _ _ F1 _ _ h1 s1 R1 (.int _)⟩⟩
/-! sorted of a tuple of pairs of numbers -/
theorem new_at {h h' : Heap} (k : ∀ b o, h.get? b = some o → h'.get? b = some o) : h.get? h'.objs.size = none := by
  cases e : h.get? h'.objs.size with
  | none => rfl
  | some o => exact absurd (Heap.lt_size (k _ _ e)) (Nat.lt_irrefl _)
theorem call_sortT {X : Cx} (hu : X.A.units + 65 < cLine) : CallR X (.builtin "sorted") (fun vs H Q => ∃ (a : Addr) (xs : List V) (ps : List (Int × Int)), vs = [V.ref a] ∧ SqT X.K H a xs ∧ DpAll X.K H xs (ps.map PySem.W.Datum.toD) ∧
    ∀ (bs : List (V × (Int × Int))) (p : Addr), bs.Perm (xs.zip ps) → bs.Pairwise (fun a b => leP a.2 b.2) → H p = none → Q (.ref p) (upd H p (.lst (bs.map (·.1))))) := by
  intro pins s σ H vs us Q I r h
  obtain ⟨a, xs, ps, rfl, hs, hd, q⟩ := h
  obtain ⟨its, rv, ⟨o, ho, hc, n, hdt⟩, hz⟩ := I.tuple hs
  rw [Vals.ref1 r]
  have hlen := dpAll_len hd
  rw [List.length_map] at hlen
  have hil : its.length = xs.length := rv.length.symm
  have em : (xs.zip ps).map (fun b : V × (Int × Int) => PySem.W.Datum.toD b.2) = ps.map PySem.W.Datum.toD := by
    rw [show (fun b : V × (Int × Int) => PySem.W.Datum.toD b.2) = PySem.W.Datum.toD ∘ Prod.snd from rfl, ← List.map_map, List.map_snd_zip]
    omega
  have hbl : (xs.zip ps).length = xs.length := by rw [List.length_zip]; omega
  have hL : its.length ≤ sizeLine := by omega
  refine PyProof.Rows.call_function_entry_kw PyProof.Rows.kind_sorted PyProof.Rows.plain_sorted PyProof.Rows.entry_sorted (PyProof.Rows.args_sorted1 _) ?_
  unfold Builtin.«sorted»
  refine wpAny_bind (m := checkCount "sorted" 1 1 _) (wpAny_pure ?_)
  refine wpAny_bind (wpAny_collect_seq a (.inr rfl) ho hc hdt (fun h' hk => ?_) (by rw [List.size_toArray]; exact hL))
  simp only [List.toList_toArray]
  refine wpAny_bind (wpAny_newList ?_ hL)
  have hA : (h'.push { cls := .type "list", data := .seq its.toArray }).get? h'.objs.size = some (seqObj "list" its.toArray 0) := Heap.get?_push_size _ rfl
  have old : ∀ {b : Addr} {o : Obj}, s.heap.get? b = some o → (h'.push { cls := .type "list", data := .seq its.toArray }).get? b = some o := fun e => Heap.get?_push_of_some _ (hk _ _ e)
  have ne : ∀ {b : Addr} {o : Obj}, s.heap.get? b = some o → b < h'.objs.size := fun e => Heap.lt_size (hk _ _ e)
  generalize hg : h'.push { cls := .type "list", data := .seq its.toArray } = g at hA old ⊢
  have gs : h'.objs.size < g.objs.size := Heap.lt_size hA
  have hal : PySem.W.AllAlike ((xs.zip ps).map fun b : V × (Int × Int) => PySem.W.Datum.toD b.2) := by rw [em]; exact .of fun b b' => PySem.W.DatumOrd.alike b b'
  have hsk : PySem.W.Sortable ((xs.zip ps).map fun b : V × (Int × Int) => PySem.W.Datum.toD b.2) := by rw [em]; exact .tuples fun b => ⟨_, _, toD_pair b⟩
  have er : PySem.W.EachIs (fun (v : Value) (b : V × (Int × Int)) => ∃ as, Reads (PySem.W.sortingHeap g h'.objs.size its) v (PySem.W.Datum.toD b.2) as) its (xs.zip ps) := (each_readsP I hd rv).mono fun _ _ ⟨as, r⟩ => ⟨as, PyProof.Rows.Reads.keeps (fun _ _ e => PySem.W.sortingHeap_old (Nat.ne_of_lt (ne e)) (old e)) r⟩
  refine wpAny_bind (wpAny_holding (PyProof.Rows.wpAny_call_entry_kw PyProof.Rows.slot_list_sort ⟨_, hA, rfl⟩ PyProof.Rows.entry_list_sort ?body (PyProof.Rows.args_list_sort _)))
  case body =>
    refine wpAny_mono (PySem.W.list_sort_vals (s := { s with heap := g }) (P := fun f s' => f = .done (.ret .none) ∧ s' = { s with heap := sortedHeap g h'.objs.size its (PySem.W.sortVals _ false its its).toArray }) hA (PySem.W.SortsAt.data (s := { s with heap := PySem.W.sortingHeap g h'.objs.size its }) (PySem.W.each_map (R := fun v d => ∃ as, Reads (PySem.W.sortingHeap g h'.objs.size its) v d as) (fun b : V × (Int × Int) => PySem.W.Datum.toD b.2) er) hal hsk (PySem.W.bound_map fun b hb => ?_)) hL ⟨rfl, rfl⟩) (fun f s' hf => ?_) fun _ _ e => e
    · show X.A.units + 2 + (PySem.W.Datum.toD b.2).depth < cLine
      rw [toD_pair]
      simp only [PyData.depth, PyData.depthAll]
      omega
    · obtain ⟨rfl, rfl⟩ := hf
      refine ⟨_, rfl, wpAny_pure ⟨_, rfl, ?_⟩⟩
      have h2 := PySem.W.sortVals_data false (each_valsP rv hlen.symm.symm) er hal
      have h1 := PySem.W.sortVals_length (κ := PySem.W.dataKind (PySem.W.sortingHeap g h'.objs.size its) ((xs.zip ps).map fun b : V × (Int × Int) => PySem.W.Datum.toD b.2)) false (rfl : its.length = its.length)
      obtain ⟨ep, he'⟩ := PyProof.Rows.sortedHeap_at (out := (PySem.W.sortVals (PySem.W.dataKind (PySem.W.sortingHeap g h'.objs.size its) ((xs.zip ps).map fun b : V × (Int × Int) => PySem.W.Datum.toD b.2)) false its its).toArray) hA
      have pm := List.mergeSort_perm (xs.zip ps) (PySem.W.dataLe false fun b : V × (Int × Int) => PySem.W.Datum.toD b.2)
      have so : ((xs.zip ps).mergeSort (PySem.W.dataLe false fun b : V × (Int × Int) => PySem.W.Datum.toD b.2)).Pairwise (fun a b => leP a.2 b.2) := by
        rw [dataLe_P]
        have := List.pairwise_mergeSort (le := fun (a b : V × (Int × Int)) => decide (leP a.2 b.2)) (fun a b c h h' => by
          simp only [decide_eq_true_eq] at h h' ⊢
          exact leP_trans h h') (fun a b => by
          simp only [Bool.or_eq_true, decide_eq_true_eq]
          exact leP_tot _ _) (xs.zip ps)
        exact this.imp (by simp)
      refine ⟨.ref _, upd H h'.objs.size (.lst (((xs.zip ps).mergeSort (PySem.W.dataLe false fun b : V × (Int × Int) => PySem.W.Datum.toD b.2)).map (·.1))), I.laidN (t' := s.toks) (fun b o e => by rw [PyProof.Rows.sortedHeap_old (Nat.ne_of_lt (ne e)) (Nat.lt_trans (ne e) gs)]; exact old e) (new_at hk) ((I.hok.kept hk).fresh (Nat.le_refl _)) ⟨?_, _, ep, vals_eachP h2, by simpa using he'⟩, rfl, q _ _ pm so ((I.hok.kept hk).fresh (Nat.le_refl _))⟩
      rw [List.length_map, pm.length_eq]
      omega
def rdSortT (m : Bool) : DCall := fun ds μ k => match ds with
  | [.tup xs] => ∃ ps : List (Int × Int), xs = ps.map piD ∧ ∀ qs : List (Int × Int), qs.Perm ps → qs.Pairwise leP → mk m (qs.map piD) μ k
  | _ => False
theorem cd_sortT {X : Cx} (hu : X.A.units + 65 < cLine) (m : Bool) : CallD X (.builtin "sorted") (rdSortT m) := ⟨_, call_sortT hu, fun F H μ xs ds k Q R Dx h C => by
  unfold rdSortT at h
  split at h
  · cases Dx with
    | cons h1 h2 =>
      cases h2
      obtain ⟨ps, rfl, h⟩ := h
      cases h1 with
      | tup hs hv =>
        rename_i p vs
        refine ⟨p, vs, ps, rfl, seqT_mono R.same hs, by rw [← pys_pi]; exact hv.dp R.same (pures_pi ps), fun bs a pm so n => ?_⟩
        have hl := hv.length
        rw [List.length_map] at hl
        have em : (vs.zip ps).map (·.2) = ps := by rw [List.map_snd_zip]; omega
        refine mk_ok R (denL_of fun b hb => denL_zip hv b (pm.mem_iff.mp hb)) (h (bs.map (·.2)) ?_ ?_) C n
        · have := pm.map (·.2)
          rwa [em] at this
        · exact List.pairwise_map.mpr so
  · exact h.elim⟩
end DL
/-! DLaj: dicts whose keys are tuples of tuples of numbers. -/
namespace DL
open PySem PySem.Spec L2
open PyProof.Rows hiding St
variable [anc : Anc]
def valN {α : Type} (kvs : List (NestedKey × α)) (k : NestedKey) : Option α := (kvs.find? fun kv => decide (kv.1 = k)).map (·.2)
mutual
theorem nk_hash (w w' : World) : ∀ k : NestedKey, nkn k = true → k.hash w = k.hash w'
  | .num i, _ => rfl
  | .tup ks, h => by
    simp only [nkn] at h
    simp only [NestedKey.hash, nk_hashes w w' ks h]
  | .none, h => by simp [nkn] at h
  | .text x, h => by simp [nkn] at h
theorem nk_hashes (w w' : World) : ∀ ks : List NestedKey, nkns ks = true → NestedKey.hashes w ks = NestedKey.hashes w' ks
  | [], _ => rfl
  | k :: ks, h => by
    simp only [nkns, Bool.and_eq_true] at h
    simp only [NestedKey.hashes, nk_hash w w' k h.1, nk_hashes w w' ks h.2]
end
theorem isNK.hash {k : NestedKey} (h : isNK k) (w w' : World) : k.hash w = k.hash w' := by
  cases k with
  | tup ks => exact nk_hash w w' (.tup ks) h.1
  | _ => exact h.elim
theorem isNK.depth {k : NestedKey} (h : isNK k) : k.depth ≤ 8 := by
  cases k with
  | tup ks => exact h.2
  | _ => exact h.elim
section
variable {X : Cx} {pins : List (Addr × Obj)} {σ : L2.St} {H F : Hp} {s : Shared}
mutual
theorem nk_is (I : Inv X pins σ H s) (sm : Same F H) : ∀ (k : NestedKey) {v : V} {u : Value}, Den X.K F v (dN k) → RelV v u → NestedIs s.heap k u
  | .none, v, u, d, r => by cases d; cases r; exact .none
  | .num i, v, u, d, r => by cases d; obtain ⟨t, rfl⟩ := r; exact .int _ _
  | .text x, v, u, d, r => by cases d; obtain ⟨t, rfl⟩ := r; exact .text _ _
  | .tup ks, v, u, d, r => by
    cases d with
    | tup e hd =>
      cases r
      obtain ⟨its, rv, ⟨o, h1, h2, n, h3⟩, _⟩ := I.tuple (seqT_mono sm e)
      exact .tup h1 h2 h3 (by simpa using nks_is I sm ks hd rv)
theorem nks_is (I : Inv X pins σ H s) (sm : Same F H) : ∀ (ks : List NestedKey) {vs : List V} {us : List Value}, DenL X.K F vs (dNs ks) → Vals vs us → NestedAll s.heap ks us
  | [], vs, us, d, r => by cases d; cases r; exact .nil
  | k :: ks, vs, us, d, r => by
    cases d with
    | cons d1 d2 =>
      cases r with
      | cons r1 r2 => exact .cons (nk_is I sm k d1 r1) (nks_is I sm ks d2 r2)
end
end
abbrev KN (K : PySem.W.Frag) (F : Hp) : List (NestedKey × Addr × V) → List (NestedKey × D) → Prop := Paired (fun (p : NestedKey × Addr × V) (q : NestedKey × D) => p.1 = q.1 ∧ isNK q.1 ∧ Den K F (.ref p.2.1) (dN q.1) ∧ Den K F p.2.2 q.2)
abbrev KX : List (NestedKey × Addr × V) → List (NestedKey × Addr × Value) → Prop := Paired (fun (p : NestedKey × Addr × V) (q : NestedKey × Addr × Value) => p.1 = q.1 ∧ p.2.1 = q.2.1 ∧ RelV p.2.2 q.2.2)
section
variable {K : PySem.W.Frag} {X : Cx} {pins : List (Addr × Obj)} {σ : L2.St} {H F : Hp} {s : Shared}
theorem KN.is (I : Inv X pins σ H s) (sm : Same F H) : ∀ {ys : List (NestedKey × Addr × V)} {kvs : List (NestedKey × D)} {xs : List (NestedKey × Addr × Value)}, KN X.K F ys kvs → KX ys xs → ∀ x ∈ xs, (nestedKind X.prog X.w).is s.heap x.1 x.2.1
  | _, _, _, .nil, .nil => fun x hx => nomatch hx
  | _, _, _, .cons ⟨a1, a2, a3, a4⟩ t, .cons ⟨b1, b2, b3⟩ t' => fun x hx => by
    rcases List.mem_cons.mp hx with rfl | hx
    · rw [← b1, ← b2, a1]
      exact ⟨nk_is I sm _ a3 rfl, a2.depth⟩
    · exact KN.is I sm t t' x hx
theorem KN.val {k : NestedKey} : ∀ {ys : List (NestedKey × Addr × V)} {kvs : List (NestedKey × D)} {xs : List (NestedKey × Addr × Value)}, KN K F ys kvs → KX ys xs →
    (valN kvs k = none → atKey xs k = none) ∧ ∀ d, valN kvs k = some d → ∃ b v u, atKey xs k = some (b, u) ∧ RelV v u ∧ Den K F v d
  | _, _, _, .nil, .nil => ⟨fun _ => rfl, fun d h => by simp [valN] at h⟩
  | _ :: ys, _ :: kvs, _ :: xs, .cons (a := a) (b := q) ⟨a1, a2, a3, a4⟩ t, .cons (b := x) ⟨b1, b2, b3⟩ t' => by
    have ih := KN.val (k := k) t t'
    by_cases c : q.1 = k
    · have c2 : x.1 = k := by rw [← b1, a1]; exact c
      refine ⟨fun z => ?_, fun d hd => ?_⟩
      · simp [valN, List.find?_cons, c] at z
      · simp only [valN, List.find?_cons, c, decide_true, Option.map_some, Option.some.injEq] at hd
        subst hd
        exact ⟨x.2.1, a.2.2, x.2.2, by simp [atKey, List.find?_cons, c2], b3, a4⟩
    · have c2 : ¬ x.1 = k := by rw [← b1, a1]; exact c
      have e1 : valN (q :: kvs) k = valN kvs k := by simp only [valN, List.find?_cons, c, decide_false]
      have e2 : atKey (x :: xs) k = atKey xs k := by simp only [atKey, List.find?_cons, c2, decide_false]
      exact ⟨fun z => by rw [e2]; exact ih.1 (by rw [← e1]; exact z), fun d hd => by rw [e2]; exact ih.2 d (by rw [← e1]; exact hd)⟩
end
/-- what a tracked dict of such keys is -/
theorem nd_of {X : Cx} {pins : List (Addr × Obj)} {σ : L2.St} {F H : Hp} {s : Shared} {a : Addr} {ys : List (NestedKey × Addr × V)} {kvs : List (NestedKey × D)} (I : Inv X pins σ H s) (sm : Same F H) (e : H a = some (NDict a ys)) (hp : KN X.K F ys kvs) :
    kvs.length ≤ sizeLine ∧ (a == sysModules) = false ∧ ∃ xs, KX ys xs ∧ xs.length = kvs.length ∧ s.heap.DictOfH (nestedKind X.prog X.w) a xs := by
  obtain ⟨⟨z, y, xs, r, o, es, ep, h1, h2, h3, h4, h5⟩, _, _⟩ := (show ObjOk X.prog X.w H s.heap a (NDict a ys) from I.hok a _ e)
  have l1 : ys.length = kvs.length := Paired.length hp
  have l2 : ys.length = xs.length := Paired.length r
  exact ⟨by omega, y, xs, r, by omega, o, es, ep, h1, h2, h3, h4 X.prog X.w, KN.is I sm hp r, h5⟩
theorem nd_ok {P : Program} {w : World} {H : Hp} {h : Heap} {a : Addr} {ys : List (NestedKey × Addr × V)} {xs : List (NestedKey × Addr × Value)} {o : Obj} {es : Array DictEntry} {ep : Nat} (z : ys.length ≤ sizeLine) (y : (a == sysModules) = false) (r : KX ys xs) (h1 : h.get? a = some o) (h2 : o.ExactDict) (h3 : o.data = .dict es ep) (h4 : ∀ P w, es.toList = xs.map (entryOfKey (nestedKind P w))) (h5 : (xs.map (·.1)).Nodup) :
    ObjOk P w H h a (NDict a ys) :=
  ⟨⟨z, y, xs, r, o, es, ep, h1, h2, h3, h4, h5⟩, ⟨o, h1⟩, fun g g' ⟨z, y, xs, r, o, es, ep, h1, h2, h3, h4, h5⟩ k => ⟨z, y, xs, r, o, es, ep, k _ h1, h2, h3, h4, h5⟩⟩

def valY (ys : List (NestedKey × Addr × V)) (k : NestedKey) : Option V := (ys.find? fun y => decide (y.1 = k)).map (·.2.2)
theorem KN.valY {K : PySem.W.Frag} {F : Hp} {k : NestedKey} : ∀ {ys : List (NestedKey × Addr × V)} {kvs : List (NestedKey × D)}, KN K F ys kvs →
    (valN kvs k = none → DL.valY ys k = none) ∧ ∀ d, valN kvs k = some d → ∃ v, DL.valY ys k = some v ∧ Den K F v d
  | _, _, .nil => ⟨fun _ => rfl, fun d h => by simp [valN] at h⟩
  | _ :: ys, _ :: kvs, .cons (a := a) (b := q) ⟨a1, a2, a3, a4⟩ t => by
    have ih := KN.valY (k := k) t
    by_cases c : q.1 = k
    · refine ⟨fun z => ?_, fun d hd => ?_⟩
      · simp [valN, List.find?_cons, c] at z
      · simp only [valN, List.find?_cons, c, decide_true, Option.map_some, Option.some.injEq] at hd
        subst hd
        exact ⟨a.2.2, by simp [DL.valY, List.find?_cons, a1, c], a4⟩
    · have c2 : ¬ a.1 = k := by rw [a1]; exact c
      have e1 : valN (q :: kvs) k = valN kvs k := by simp only [valN, List.find?_cons, c, decide_false]
      have e2 : DL.valY (a :: ys) k = DL.valY ys k := by simp only [DL.valY, List.find?_cons, c2, decide_false]
      exact ⟨fun z => by rw [e2]; exact ih.1 (by rw [← e1]; exact z), fun d hd => by rw [e2]; exact ih.2 d (by rw [← e1]; exact hd)⟩
theorem KX.val {k : NestedKey} : ∀ {ys : List (NestedKey × Addr × V)} {xs : List (NestedKey × Addr × Value)}, KX ys xs → (valY ys k = none → atKey xs k = none) ∧ ∀ v, valY ys k = some v → ∃ b u, atKey xs k = some (b, u) ∧ RelV v u
  | _, _, .nil => ⟨fun _ => rfl, fun v h => by simp [valY] at h⟩
  | _ :: ys, _ :: xs, .cons (a := a) (b := q) ⟨a1, a2, a3⟩ t => by
    have ih := KX.val (k := k) t
    by_cases c : a.1 = k
    · refine ⟨fun z => ?_, fun d hd => ?_⟩
      · simp [valY, List.find?_cons, c] at z
      · simp only [valY, List.find?_cons, c, decide_true, Option.map_some, Option.some.injEq] at hd
        subst hd
        exact ⟨q.2.1, q.2.2, by simp [atKey, List.find?_cons, ← a1, c], a3⟩
    · have c2 : ¬ q.1 = k := by rw [← a1]; exact c
      have e1 : atKey (q :: xs) k = atKey xs k := by simp only [atKey, List.find?_cons, c2, decide_false]
      have e2 : valY (a :: ys) k = valY ys k := by simp only [valY, List.find?_cons, c, decide_false]
      exact ⟨fun z => by rw [e1]; exact ih.1 (by rw [← e2]; exact z), fun d hd => by rw [e1]; exact ih.2 d (by rw [← e2]; exact hd)⟩
/-- what the dict at a holds at y -/
def NGet (K : PySem.W.Frag) (H : Hp) (a : Addr) (y : V) (r : Option V) : Prop := ∃ (F : Hp) (ys : List (NestedKey × Addr × V)) (kvs : List (NestedKey × D)) (key : NestedKey) (b : Addr),
  Same F H ∧ H a = some (NDict a ys) ∧ KN K F ys kvs ∧ y = .ref b ∧ isNK key ∧ Den K F (.ref b) (dN key) ∧ r = valY ys key
def NPut (K : PySem.W.Frag) (H : Hp) (a : Addr) (y v : V) (H' : Hp) : Prop := ∃ (F : Hp) (ys : List (NestedKey × Addr × V)) (kvs : List (NestedKey × D)) (key : NestedKey) (b : Addr),
  Same F H ∧ H a = some (NDict a ys) ∧ KN K F ys kvs ∧ y = .ref b ∧ isNK key ∧ Den K F (.ref b) (dN key) ∧ valY ys key = none ∧ ys.length < sizeLine ∧ H' = upd H a (NDict a (ys ++ [(key, b, v)]))
section
variable {X : Cx} {pins : List (Addr × Obj)} {σ : L2.St} {H : Hp} {s : Shared} {a : Addr} {y v : V} {u r : Value} {o : Option V} {A : Around} {E : Value → Shared → Prop}
theorem n_room (hu : A.units + 65 < cLine) : (nestedKind X.prog X.w).room A.in1 := by show A.units + 1 + 8 < cLine; omega
theorem n_in {Q : Value → Shared → Prop} (hu : A.units + 65 < cLine) (I : Inv X pins σ H s) (g : NGet X.K H a y o) (ry : RelV y u) (h : ∀ s', Inv X pins σ H s' → Q (.bool o.isSome) s') :
    wpAny (model X.prog X.w) A (compareOp .In u (.ref a)) Q E s := by
  obtain ⟨F, ys, kvs, key, b, sm, e, hp, rfl, nk, dn, rfl⟩ := g
  cases (show u = Value.ref b from ry)
  obtain ⟨z, hd, xs, rx, _, dd⟩ := nd_of I sm e hp
  refine wpAny_in_heap (n_room hu) ⟨nk_is I sm key dn rfl, nk.depth⟩ hd dd ?_
  have e2 : (atKey xs key).isSome = (valY ys key).isSome := by
    cases q : valY ys key with
    | none => rw [rx.val.1 q]; rfl
    | some v => obtain ⟨b, u, h1, _⟩ := rx.val.2 v q; rw [h1]; rfl
  rw [e2]
  exact h _ (I.tok _)
theorem n_notIn {Q : Value → Shared → Prop} (hu : A.units + 65 < cLine) (I : Inv X pins σ H s) (g : NGet X.K H a y o) (ry : RelV y u) (h : ∀ s', Inv X pins σ H s' → Q (.bool (!o.isSome)) s') :
    wpAny (model X.prog X.w) A (compareOp .NotIn u (.ref a)) Q E s := by
  obtain ⟨F, ys, kvs, key, b, sm, e, hp, rfl, nk, dn, rfl⟩ := g
  cases (show u = Value.ref b from ry)
  obtain ⟨z, hd, xs, rx, _, dd⟩ := nd_of I sm e hp
  refine wpAny_notIn_heap (n_room hu) ⟨nk_is I sm key dn rfl, nk.depth⟩ hd dd ?_
  have e2 : (atKey xs key).isSome = (valY ys key).isSome := by
    cases q : valY ys key with
    | none => rw [rx.val.1 q]; rfl
    | some v => obtain ⟨b, u, h1, _⟩ := rx.val.2 v q; rw [h1]; rfl
  rw [e2]
  exact h _ (I.tok _)
theorem n_getItem {Q : Value → Shared → Prop} (hu : A.units + 65 < cLine) (I : Inv X pins σ H s) (g : NGet X.K H a y (some v)) (ry : RelV y u) (h : ∀ w' s', Inv X pins σ H s' → RelV v w' → Q w' s') :
    wpAny (model X.prog X.w) A (getItem (.ref a) u) Q E s := by
  obtain ⟨F, ys, kvs, key, b, sm, e, hp, rfl, nk, dn, er⟩ := g
  cases (show u = Value.ref b from ry)
  obtain ⟨z, hd, xs, rx, _, dd⟩ := nd_of I sm e hp
  obtain ⟨b2, u2, h1, rv⟩ := rx.val.2 v er.symm
  exact wpAny_getItem_heap (n_room hu) ⟨nk_is I sm key dn rfl, nk.depth⟩ dd h1 (h _ _ (I.tok _) rv)
theorem n_setItem {H' : Hp} {Q : Unit → Shared → Prop} (hu : A.units + 65 < cLine) (I : Inv X pins σ H s) (g : NPut X.K H a y v H') (ry : RelV y u) (rv : RelV v r) (h : ∀ s', Inv X pins σ H' s' → Q () s') :
    wpAny (model X.prog X.w) A (setItem (.ref a) u r) Q E s := by
  obtain ⟨F, ys, kvs, key, b, sm, e, hp, rfl, nk, dn, er, hl, rfl⟩ := g
  cases (show u = Value.ref b from ry)
  obtain ⟨z, hd, xs, rx, lx, dd⟩ := nd_of I sm e hp
  have no := rx.val.1 er
  have ly : ys.length = xs.length := Paired.length rx
  refine wpAny_setItem_heap (hsz := by omega) (n_room hu) ⟨nk_is I sm key dn rfl, nk.depth⟩ dd fun h' dd' hs => h _ ?_
  rw [storedH_new no] at dd'
  obtain ⟨q, es, ep, hq, h2, h3, h4, _, h5⟩ := dd'
  have nks : ∀ {ys : List (NestedKey × Addr × V)} {kvs : List (NestedKey × D)} {xs : List (NestedKey × Addr × Value)}, KN X.K F ys kvs → KX ys xs → ∀ x ∈ xs, isNK x.1 := by
    intro ys kvs xs hp
    induction hp generalizing xs with
    | nil => intro rx x hx; cases rx; cases hx
    | cons a1 t ih =>
      intro rx x hx
      cases rx with
      | cons b1 t' =>
        rcases List.mem_cons.mp hx with rfl | hx
        · rw [← b1.1, a1.1]; exact a1.2.1
        · exact ih t' x hx
  refine d_write I (by rw [e]; exact True.intro) hs ⟨q, hq⟩ (nd_ok (by rw [List.length_append]; exact hl) hd (paired_append rx (.cons ⟨rfl, rfl, rv⟩ .nil)) hq h2 h3 (fun P w => ?_) h5)
  rw [h4]
  refine List.map_congr_left fun x hx => ?_
  have nx : isNK x.1 := by
    rcases List.mem_append.mp hx with hx | hx
    · exact nks hp rx x hx
    · rw [List.mem_singleton.mp hx]; exact nk
  show (⟨x.1.hash _, _, _⟩ : DictEntry) = ⟨x.1.hash _, _, _⟩
  rw [nx.hash X.w w]
theorem n_typeIs {y : V} {o : Option V} (I : Inv X pins σ H s) (g : NGet X.K H a y o) : s.TypeIs (.ref a) "dict" := by
  obtain ⟨F, ys, kvs, key, b, sm, e, hp, _⟩ := g
  obtain ⟨_, _, xs, _, _, dd⟩ := nd_of I sm e hp
  exact dd.typeIs
end
/-- a dict of such keys that may change -/
def onN (d : D) (μ : Mu) (f : Addr → List (NestedKey × D) → Prop) : Prop := match d with
  | .ref a => (match μ a with
    | some (.dn kvs) => f a kvs
    | _ => False)
  | _ => False
theorem onN_ok {K : PySem.W.Frag} {F H : Hp} {μ : Mu} {d : D} {v : V} {f : Addr → List (NestedKey × D) → Prop} (R : RepM K F H μ) (h : Den K F v d) (q : onN d μ f) :
    ∃ a kvs ys, v = .ref a ∧ d = .ref a ∧ μ a = some (.dn kvs) ∧ F a = none ∧ H a = some (NDict a ys) ∧ KN K F ys kvs ∧ f a kvs := by
  unfold onN at q
  split at q
  · rename_i a
    split at q
    · rename_i kvs e
      cases h
      obtain ⟨n, ys, hH, hp⟩ := R.mu a _ e
      exact ⟨a, kvs, ys, rfl, rfl, e, n, hH, hp, q⟩
    · exact q.elim
  · exact q.elim
/-- {} -/
def dNNew : DE := fun ρ μ k => ∀ a, μ a = none → k (.ref a) (mset μ a (.dn []))
def tNNew : TE := fun _ H Q => ∀ p, H p = none → Q (.ref p) (upd H p (NDict p []))
section
variable {X : Cx} {o i e f value : Expr} {pos pos' apos cpos : Pos} {da db dv : DE}
theorem pe_nnew : PE X (.Dict [] [] pos) tNNew := ⟨fun pins s σ H Q I h =>
  wpAny_Dict_empty ⟨.ref s.heap.objs.size, _, I.laid (a := s.heap.objs.size) (o := NDict s.heap.objs.size []) (t' := s.toks) (fun _ _ q => Heap.get?_push_of_some _ q) (Nat.le_refl _) (nd_ok (Nat.zero_le _) (beq_eq_false_iff_ne.mpr (Ne.symm (Nat.ne_of_lt I.big))) .nil (Heap.get?_push_size _ rfl) ⟨rfl, rfl, rfl⟩ rfl (fun _ _ => rfl) List.nodup_nil), rfl, h _ (I.hok.fresh (Nat.le_refl _))⟩⟩
theorem pd_nnew : PD X (.Dict [] [] pos) dNNew :=
  PE.imp pe_nnew fun σ H Q ⟨F, ρ, μ, k, R, E, h, C⟩ p np => by
    have nF := R.freshF np
    have nM := R.fresh np
    exact C _ _ F _ _ (h p nM) (.new np) (R.store nF ⟨[], upd_same, .nil⟩ (.new np)) (.ref p)
/-- k in d -/
def dNIn (neg : Bool) (db da : DE) : DE := fun ρ μ k => db ρ μ fun e μ1 => da ρ μ1 fun d μ2 => ∃ key, e = dN key ∧ isNK key ∧ onN d μ2 fun _ kvs => k (.bl (if neg then !(valN kvs key).isSome else (valN kvs key).isSome)) μ2
def tNIn (K : PySem.W.Frag) (ty td : TE) : TE := fun σ H Q => ty σ H fun y H1 => td σ H1 fun x H2 => ∃ a o, x = .ref a ∧ NGet K H2 a y o ∧ Q (.bl o.isSome) H2
def tNNotIn (K : PySem.W.Frag) (ty td : TE) : TE := fun σ H Q => ty σ H fun y H1 => td σ H1 fun x H2 => ∃ a o, x = .ref a ∧ NGet K H2 a y o ∧ Q (.bl (!o.isSome)) H2
def tNGet (K : PySem.W.Frag) (td ty : TE) : TE := fun σ H Q => td σ H fun x H1 => ty σ H1 fun y H2 => ∃ a v, x = .ref a ∧ NGet K H2 a y (some v) ∧ Q v H2
theorem pc_nnotin {ty td : TE} (hu : X.A.units + 65 < cLine) (hi : PE X i ty) (ho : PE X o td) : PC X .NotIn i o (tNNotIn X.K ty td) := by
  refine ⟨fun pins s σ H Q I h => ?_⟩
  refine thn (hi.run pins s σ H _ I h) fun iv s1 ⟨y, H1, I1, ry, q1⟩ => thn (ho.run pins s1 σ H1 _ I1 q1) fun u s2 ⟨x, H2, I2, rx, a, ov, ex, g, q2⟩ => ?_
  subst ex
  obtain rfl : u = Value.ref a := rx
  exact n_notIn hu I2 g ry fun s3 I3 => ⟨.bl (!ov.isSome), H2, I3, rfl, q2⟩
theorem pe_nget {ty td : TE} (hu : X.A.units + 65 < cLine) (ho : PE X o td) (hi : PE X i ty) (hs : NoSl i) : PE X (.Subscript o i pos) (tNGet X.K td ty) := by
  refine ⟨fun pins s σ H Q I h => ?_⟩
  refine subD_of PySem.F.slot_dict_getitem.lookup hs (thn (ho.run pins s σ H _ I h) fun u s1 ⟨x, H1, I1, rx, q1⟩ => thn (hi.run pins s1 σ H1 _ I1 q1) fun iv s2 ⟨y, H2, I2, ry, a, v, ex, g, q2⟩ => ?_)
  subst ex
  obtain rfl : u = Value.ref a := rx
  exact ⟨n_typeIs I2 g, n_getItem hu I2 g ry fun w' s3 I3 rw' => ⟨v, H2, I3, rw', q2⟩⟩
theorem pd_nnin (hu : X.A.units + 65 < cLine) (hi : PD X i db) (ho : PD X o da) (hm : behindInMarks .NotIn o = false := by first | exact nomark _ | rfl) : PD X (.Compare i [.NotIn] [o] pos) (dNIn true db da) :=
  PE.imp (pe_cmp (pc_nnotin hu hi ho) hm) fun σ H Q ⟨F, ρ, μ, k, R, E, h, C⟩ => ⟨F, ρ, μ, _, R, E, h, fun e μ1 F1 v H1 h1 s1 R1 D1 => ⟨F1, ρ, μ1, _, R1, E.ext s1, h1, fun d μ2 F2 w H2 ⟨key, hk, nk, h2⟩ s2 R2 D2 => by
    obtain ⟨a, kvs, ys, rfl, rfl, ea, _, hH, hp, hq⟩ := onN_ok R2 D2 h2
    subst hk
    have D1 := D1.ext s2
    obtain ⟨b, rfl⟩ : ∃ b, v = .ref b := by
      cases key with
      | tup ks => cases D1; exact ⟨_, rfl⟩
      | _ => exact nk.elim
    refine ⟨a, valY ys key, rfl, ⟨F2, ys, kvs, key, b, R2.same, hH, hp, rfl, nk, D1, rfl⟩, ?_⟩
    have e : (valY ys key).isSome = (valN kvs key).isSome := by
      cases q : valN kvs key with
      | none => rw [hp.valY.1 q]; rfl
      | some d => obtain ⟨x, hx, _⟩ := hp.valY.2 d q; rw [hx]; rfl
    rw [e]
    exact C _ _ F2 _ _ hq (s1.trans s2) R2 (.bl _)⟩⟩
/-- d[k] -/
def dNIx (da db : DE) : DE := fun ρ μ k => da ρ μ fun d μ1 => db ρ μ1 fun e μ2 => ∃ key, e = dN key ∧ isNK key ∧ onN d μ2 fun _ kvs => ∃ v, valN kvs key = some v ∧ k v μ2
theorem pd_nix (hu : X.A.units + 65 < cLine) (ho : PD X o da) (hi : PD X i db) (hs : NoSl i := by exact fun _ _ => rfl) : PD X (.Subscript o i pos) (dNIx da db) :=
  PE.imp (pe_nget hu ho hi hs) fun σ H Q ⟨F, ρ, μ, k, R, E, h, C⟩ => ⟨F, ρ, μ, _, R, E, h, fun d μ1 F1 v H1 h1 s1 R1 D1 => ⟨F1, ρ, μ1, _, R1, E.ext s1, h1, fun e μ2 F2 w H2 ⟨key, hk, nk, h2⟩ s2 R2 D2 => by
    obtain ⟨a, kvs, ys, rfl, rfl, ea, _, hH, hp, z, hz, hq⟩ := onN_ok R2 (D1.ext s2) h2
    subst hk
    obtain ⟨b, rfl⟩ : ∃ b, w = .ref b := by
      cases key with
      | tup ks => cases D2; exact ⟨_, rfl⟩
      | _ => exact nk.elim
    obtain ⟨x, hx, dx⟩ := hp.valY.2 z hz
    exact ⟨a, x, rfl, ⟨F2, ys, kvs, key, b, R2.same, hH, hp, rfl, nk, D2, hx.symm⟩, C _ _ F2 _ _ hq (s1.trans s2) R2 dx⟩⟩⟩
/-- d[k] = v as a target, for a key that is not there -/
def dgNKey (da db : DE) : DG := fun v ρ μ k => da ρ μ fun o μ1 => db ρ μ1 fun i μ2 => ∃ key, i = dN key ∧ isNK key ∧ onN o μ2 fun a kvs => kvs.length < sizeLine ∧ valN kvs key = none ∧ k ρ (mset μ2 a (.dn (kvs ++ [(key, v)])))
theorem set_ndict (hu : X.A.units + 65 < cLine) : PSet X (fun o i v H Q => ∃ a H', o = .ref a ∧ NPut X.K H a i v H' ∧ Q H') := by
  intro pins s σ H o i v ov iv u Q I ro ri rv ⟨a, H', ex, g, q⟩
  subst ex
  obtain rfl : ov = Value.ref a := ro
  exact n_setItem hu I g ri rv fun s' I' => ⟨H', I', q⟩
theorem pdg_nkey (hu : X.A.units + 65 < cLine) (ho : PD X o da) (hi : PD X i db)
    (ha : ∀ v, assign (.Subscript o i pos) X.env v = (do
      let ov ← holding [v] (eval o X.env)
      let iv ← holding [v, ov] (eval i X.env)
      standAt pos
      holding [v, ov, iv] (setItem ov iv v)
      release [v, ov, iv] []) := by intro _; rfl) : PDG X (.Subscript o i pos) (dgNKey da db) [] :=
  PG.imp (pg_sub ho hi (set_ndict hu) ha) fun v σ H Q ⟨F, ρ, μ, d, kk, R, E, Dx, h, C⟩ => ⟨F, ρ, μ, _, R, E, h, fun od μ1 F1 ov H1 h1 s1 R1 D1 => ⟨F1, ρ, μ1, _, R1, E.ext s1, h1, fun id μ2 F2 iv H2 ⟨key, hk, nk, h2⟩ s2 R2 D2 => by
    obtain ⟨a, kvs, ys, rfl, rfl, ea, nn, hH, hp, hl, hv, hq⟩ := onN_ok R2 (D1.ext s2) h2
    subst hk
    obtain ⟨b, rfl⟩ : ∃ b, iv = .ref b := by
      cases key with
      | tup ks => cases D2; exact ⟨_, rfl⟩
      | _ => exact nk.elim
    have s12 := s1.trans s2
    have ll : ys.length = kvs.length := Paired.length hp
    exact ⟨a, _, rfl, ⟨F2, ys, kvs, key, b, R2.same, hH, hp, rfl, nk, D2, hp.valY.1 hv, by omega, rfl⟩, C _ _ F2 _ _ hq (s12.trans (.put ea)) (R2.store nn ⟨_, upd_same, paired_append hp (.cons ⟨rfl, nk, D2, Dx.ext s12⟩ .nil)⟩ (.put ea)) (E.ext s12) .refl⟩⟩⟩
/-- list(d) -/
theorem call_list_nd (hc : X.calm = true) : CallR X (.type "list") (fun xs H Q => ∃ d ys, xs = [V.ref d] ∧ H d = some (NDict d ys) ∧ ∀ p, H p = none → Q (.ref p) (upd H p (.lst (ys.map fun y => V.ref y.2.1)))) := by
  intro pins s σ H xs us Q I r h
  obtain ⟨d, ys, rfl, hd, q⟩ := h
  obtain ⟨u, rfl, rx⟩ := r.one
  cases rx
  obtain ⟨⟨z, hs, ks, pr, o, es, ep, ho, hx, hdt, he0, hn⟩, _, _⟩ := (show ObjOk X.prog X.w H s.heap d (NDict d ys) from I.hok _ _ hd)
  have he := he0 X.prog X.w
  have l1 : es.size = ks.length := size_of_entries he
  have l2 : ys.length = ks.length := Paired.length pr
  refine PySem.W.kdl_call (kdl_raw hs hx hdt) (I.ok.hd hc) ho (by omega) fun h' tk acc' c' kp e it => ?_
  have ea : acc'.toList = ks.map fun x => Value.ref x.2.1 := by
    have hl : acc'.toList.length = ks.length := by rw [Array.length_toList, it.1]; exact l1
    apply List.ext_getElem?
    intro j
    rw [List.getElem?_map]
    cases hj : acc'.toList[j]? with
    | none =>
      have h1 := List.getElem?_eq_none_iff.mp hj
      rw [List.getElem?_eq_none (by omega)]
      all_goals rfl
    | some v =>
      obtain ⟨en, hen, hv⟩ := it.2 j v (by rw [← Array.getElem?_toList]; exact hj)
      have qe := entry_at he j
      rw [hen] at qe
      cases hb : ks[j]? with
      | none =>
        rw [hb] at qe
        exact nomatch (show some en = none from qe)
      | some b =>
        rw [hb] at qe
        have e2 : en = entryOfKey (nestedKind X.prog X.w) b := Option.some.inj qe
        rw [hv, e2]
        all_goals rfl
  have rv : ∀ {ys : List (NestedKey × Addr × V)} {ks : List (NestedKey × Addr × Value)}, KX ys ks → Vals (ys.map fun y => V.ref y.2.1) (ks.map fun x => Value.ref x.2.1) := by
    intro ys ks pr
    induction pr with
    | nil => exact .nil
    | cons h t ih => exact .cons (by show Value.ref _ = Value.ref _; rw [h.2.1]) ih
  have rv := rv pr
  rw [← ea] at rv
  have hz : (ys.map fun y => V.ref y.2.1).length ≤ sizeLine := by rw [List.length_map]; omega
  refine ⟨.ref s.heap.objs.size, _, I.laid (t' := tk) (o := .lst (ys.map fun y => V.ref y.2.1)) kp (Nat.le_refl _) ?_, rfl, q _ (I.hok.fresh (Nat.le_refl _))⟩
  exact ⟨hz, acc'.toList, c', rv, by rw [Array.toArray_toList]; exact e⟩
end
section
variable {X : Cx} {o i : Expr} {pos : Pos} {da db : DE}
theorem pdt_nnin (hu : X.A.units + 65 < cLine) (hi : PD X i db) (ho : PD X o da) (hm : behindInMarks .NotIn o = false := by first | exact nomark _ | rfl) : PDT X (.Compare i [.NotIn] [o] pos) (dB (dNIn true db da)) :=
  PT.imp (pt_cmp (pc_nnotin hu hi ho) hm) fun σ H Q ⟨F, ρ, μ, k, R, E, h, C⟩ => ⟨F, ρ, μ, _, R, E, h, fun e μ1 F1 v H1 h1 s1 R1 D1 => ⟨F1, ρ, μ1, _, R1, E.ext s1, h1, fun d μ2 F2 w H2 ⟨key, hk, nk, h2⟩ s2 R2 D2 => by
    obtain ⟨a, kvs, ys, rfl, rfl, ea, _, hH, hp, hq⟩ := onN_ok R2 D2 h2
    subst hk
    have D1 := D1.ext s2
    obtain ⟨b, rfl⟩ : ∃ b, v = .ref b := by
      cases key with
      | tup ks => cases D1; exact ⟨_, rfl⟩
      | _ => exact nk.elim
    refine ⟨a, valY ys key, rfl, ⟨F2, ys, kvs, key, b, R2.same, hH, hp, rfl, nk, D1, rfl⟩, ?_⟩
    have e : (valY ys key).isSome = (valN kvs key).isSome := by
      cases q : valN kvs key with
      | none => rw [hp.valY.1 q]; rfl
      | some d => obtain ⟨x, hx, _⟩ := hp.valY.2 d q; rw [hx]; rfl
    rw [e]
    obtain ⟨b, eb, hq⟩ := hq
    cases eb
    exact ⟨_, rfl, C _ _ F2 _ hq (s1.trans s2) R2⟩⟩⟩
end
def rdListN (m : Bool) : DCall := fun ds μ k => match ds with
  | [d] => onN d μ fun _ kvs => mk m (kvs.map fun kv => dN kv.1) μ k
  | _ => False
theorem kn_keys {K : PySem.W.Frag} {F : Hp} : ∀ {ys : List (NestedKey × Addr × V)} {kvs : List (NestedKey × D)}, KN K F ys kvs → DenL K F (ys.map fun y => V.ref y.2.1) (kvs.map fun kv => dN kv.1)
  | _, _, .nil => .nil
  | _, _, .cons h t => .cons h.2.2.1 (kn_keys t)
theorem cd_listN {X : Cx} (hc : X.calm = true) (m : Bool) : CallD X (.type "list") (rdListN m) := ⟨_, call_list_nd hc, fun F H μ xs ds k Q R Dx h C => by
  unfold rdListN at h
  split at h
  · cases Dx with
    | cons h1 h2 =>
      cases h2
      obtain ⟨a, kvs, ys, rfl, rfl, e, n, hH, hp, h⟩ := onN_ok R h1 h
      exact ⟨a, ys, rfl, hH, fun p n => mk_ok R (kn_keys hp) h C n⟩
  · exact h.elim⟩
end DL
/-! DLak: lambdas that keep cells of the def around them: made there, handed on, called in another def. -/
namespace DL
open PySem PySem.Spec L2
open PyProof.Rows hiding St
/-- a call's wish, with what the cells hold -/
abbrev liftC (K : PySem.W.Frag) (n : Nat) (dsp : DCall) (ws : List V) (cs : List D) : Sp := fun vs H Q _ => ∃ F ds μ k, @RepM anc0 K F H μ ∧ DenL K F ws cs ∧ DenL K F vs ds ∧ ds.length = n ∧ dsp ds μ k ∧ @Cont anc0 K F H μ k Q
/-! ### a lambda as it can be called in a frame -/
structure LamHere [anc : Anc] (X : Cx) (k n : Nat) (L : LamT) (dsp : DCall) : Prop where
  run : ∀ (pins : List (Addr × Obj)) (σ : L2.St) (H : Hp) (s : Shared) (f c : Addr) (m t : Value) (us : List Value) (vs : List V) (Q : VK), Inv X pins σ H s → RoomG k X.A →
    s.heap.get? f = some (PySem.W.kla_obj "<lambda>" L.q L.ps L.bd L.sc L.cl m c t) → s.heap.CodeRec (.ref c) L.q → Vals vs us → (∃ F ds μ k, RepM X.K F H μ ∧ DenL X.K F vs ds ∧ ds.length = n ∧ dsp ds μ k ∧ @Cont anc0 X.K F H μ k Q) →
    codeAny (model X.prog X.w) X.A (.call (.ref f) ⟨us, []⟩) (CR CX0 X.stack X.prog X.w H s Q E0) s
theorem LamHere.any [anc : Anc] {X : Cx} {k n : Nat} {ls : List (LamT × DCall)} (h : ∀ p ∈ ls, LamHere X k n p.1 p.2) (L : LamT) : LamHere X k n L (lamT ls L) :=
  ⟨fun pins σ H s f c m t us vs Q I hr hf hc r ⟨F, ds, μ, k0, R, Dv, e, ⟨p, hp, hL, z⟩, C⟩ => by
    subst hL
    exact (h p hp).run pins σ H s f c m t us vs Q I hr hf hc r ⟨F, ds, μ, k0, R, Dv, e, z, C⟩⟩
theorem LamHere.mono [anc : Anc] {X : Cx} {j k n : Nat} {L : LamT} {dsp : DCall} (h : LamHere X j n L dsp) (l : j ≤ k) : LamHere X k n L dsp :=
  ⟨fun pins σ H s f c m t us vs Q I hr => h.run pins σ H s f c m t us vs Q I (hr.mono l)⟩
section
variable [anc : Anc]
variable {X : Cx} {x : Str} {p pos : Pos} {e : Expr} {es : List Expr} {da : DA} {k n : Nat}
theorem pd_callH {T : LamT → DCall} (D : ∀ L, LamHere X k n L (T L)) (hr : RoomG k X.A) (i : Nat) (ha : PDA X (e :: es) da) (hN : X.N[i]? = some x := by rfl) (hv : Vis X.env.scope x := by first | exact Or.inl rfl | exact Or.inr (Or.inl rfl) | exact Or.inr (Or.inr rfl))
    (hd : (x == ("__debug__" : Str)) = false := by decide) (hcd : (x == ("__classdict__" : Str)) = false := by decide)
    (he : starEach (e :: es) X.env = (false, eval e X.env) :: starEach es X.env := by rfl) (hpl : (backTo pos (starEach es X.env)).any (·.1) = false := by rfl) :
    PD X (.Call (.Name x p) (e :: es) [] pos) (dCallV i n T da) := by
  refine ⟨fun pins s σ H Q I ⟨F, ρ, μ, k, R, E, ⟨a, L, h1, h2, h⟩, C⟩ => ?_⟩
  have at_ : ∀ {F1 H1 : Hp} {μ1 : Mu} {s1 : Shared}, Inv X pins σ H1 s1 → RepM X.K F1 H1 μ1 → μ1 a = some (.fn L) → ∃ c m t, s1.heap.get? a = some (PySem.W.kla_obj "<lambda>" L.q L.ps L.bd L.sc L.cl m c t) ∧ s1.heap.CodeRec (.ref c) L.q := fun {F1 H1 μ1 s1} I1 R1 e1 => by
    obtain ⟨_, c, z1, z2⟩ := R1.mu a _ e1
    obtain ⟨m, t, z⟩ := lamO_at I1.hok z1
    exact ⟨c, m, t, z, codeO_at I1.hok (R1.same _ _ z2)⟩
  obtain ⟨v, hs, dv⟩ := EnvD.get (i := i) E h1
  cases dv
  refine wpAny_Call_Name_kw (thn ((pe_var (pos := p) (i := i) hN hv hd hcd).run pins s σ H (fun v H1 => v = .ref a ∧ H1 = H) I ⟨.ref a, hs, rfl, rfl⟩) fun u s1 ⟨v, H1, I1, r1, q1⟩ => ?_)
  obtain ⟨rfl, rfl⟩ := q1
  obtain rfl : u = Value.ref a := r1
  obtain ⟨c, m, t, z, _⟩ := at_ I1 R h2
  refine PySem.W.callWith_F (first := []) ⟨_, _, _, _, z⟩ ?_ he hpl
  refine thn (ha.run pos pins s1 σ H1 (fun vs H2 => ∃ F2 ds μ2, Ext F H1 μ F2 H2 μ2 ∧ RepM X.K F2 H2 μ2 ∧ DenL X.K F2 vs ds ∧ μ2 a = some (.fn L) ∧ ds.length = n ∧ T L ds μ2 k) I1 ⟨F, ρ, μ, _, R, E, h, fun ds μ2 F2 vs H2 hk x2 R2 D2 => ⟨F2, ds, μ2, x2, R2, D2, hk⟩⟩) fun us s2 ⟨vs, H2, I2, r2, F2, ds, μ2, x2, R2, D2, e2, hn, ht⟩ => ?_
  obtain ⟨c, m, t, z, zc⟩ := at_ I2 R2 e2
  refine ⟨⟨_, _, _, _, z⟩, ?_⟩
  refine wpAny_call (codeAny_mono ((D L).run pins σ H2 s2 a c m t us vs Q I2 hr z zc r2 ⟨F2, ds, μ2, k, R2, D2, hn, ht, (C.mono x2).bare R2⟩) fun r s' hq => ?_)
  match r, hq with
  | .error e, hq => exact False.elim hq
  | .ok (.ret u), hq => exact I2.after hq
  | .ok .next, hq => exact False.elim hq
  | .ok .brk, hq => exact False.elim hq
  | .ok .cont, hq => exact False.elim hq
/-- a lambda that keeps cells of this def -/
theorem pd_lamC {c P : Addr} {params : Arguments} {body : Expr} {scope : Scope} {pos : Pos} (TB : LamX.TabB X.base X.mg c P) (hcode : X.env.code = .ref c) (hb : ∀ y ∈ scope.names, y.2 = .free → X.env.scope.names.lookup y.1 = some .cell ∨ X.env.scope.names.lookup y.1 = some .free) (hdef : defaultsOf params X.env = ([], []) := by rfl) :
    PD X (.Lambda params body scope pos) (dLam P ⟨X.env.qual ++ "<lambda>", params, body, scope, cloFrom X.env.cells scope.names []⟩) := by
  refine ⟨fun pins s σ H Q I ⟨F, ρ, μ, k, R, E, ⟨hP, h⟩, C⟩ => ?_⟩
  obtain ⟨_, ps, hH, ht, ha⟩ := R.mu P _ hP
  refine PySem.W.kla_eval hdef ?_
  have inP : s.heap.get? P = some { cls := .none, data := .fields ps } := I.hok P _ hH
  have bP : s.heap.BuiltinsAt X.mg P := TB.bm.keeps I.bk
  have cl : closureFor scope X.env = pure (cloFrom X.env.cells scope.names []) := closure_ok fun y hy e => (hb y hy e).elim (fun z => I.ok.has _ (.inl z)) fun z => I.ok.has _ (.inr z)
  cases hc : codeAmong pos ps.toList with
  | none =>
    refine PySem.W.kla_makeFunction (mg := X.mg) (c := c) (P := P) (ps := ps) cl I.ok.glob (I.mod.glob.keeps I.bk) hcode (TB.code.keeps I.bk) inP ht hc TB.gP bP fun c' ctv h' tk hx hge hlt hrec htb => ?_
    obtain ⟨_, oc, vs, t, e2, r1, r2, r3⟩ := hrec
    cases e2
    have nC : H c' = none := I.hok.fresh hge
    have I1 := LamX.inv_table (t' := tk) I hH hx htb hge ⟨oc, vs, t, r1, r2, r3⟩
    obtain ⟨x1, R1⟩ := tab_grows (p := pos) R hP hH ht ha nC
    have nf := I1.hok.fresh (Nat.le_refl h'.objs.size)
    obtain ⟨x2, R2⟩ := lam_lays (L := ⟨X.env.qual ++ "<lambda>", params, body, scope, cloFrom X.env.cells scope.names []⟩) x1 R1 nf upd_same
    have I2 := I1.laidN (t' := tk) (fun b o e => Heap.get?_push_of_some _ e) (Heap.get?_none_of_le (Nat.le_refl _)) nf (lamO_ok (c := c') (m := (X.mg "__name__").getD .none) (t := ctv) (L := ⟨X.env.qual ++ "<lambda>", params, body, scope, cloFrom X.env.cells scope.names []⟩) (Heap.get?_push_size h' rfl))
    exact ⟨.ref _, _, I2, rfl, C _ _ _ _ _ (h _ (R1.fresh nf)) x2 R2 (.ref _)⟩
  | some cv =>
    obtain ⟨c', e, hF⟩ := ha pos cv hc
    subst e
    refine PySem.W.kla_makeFunctionHit (mg := X.mg) (c := c) (P := P) (ps := ps) cl I.ok.glob (I.mod.glob.keeps I.bk) hcode (TB.code.keeps I.bk) inP ht hc bP fun ctv h' tk hx hsz => ?_
    have nf := I.hok.fresh hsz
    obtain ⟨x2, R2⟩ := lam_lays (L := ⟨X.env.qual ++ "<lambda>", params, body, scope, cloFrom X.env.cells scope.names []⟩) .refl R nf hF
    have I2 := I.laidN (t' := tk) (fun b o e => Heap.get?_push_of_some _ (hx b o e)) (Heap.get?_none_of_le hsz) nf (lamO_ok (c := c') (m := (X.mg "__name__").getD .none) (t := ctv) (L := ⟨X.env.qual ++ "<lambda>", params, body, scope, cloFrom X.env.cells scope.names []⟩) (Heap.get?_push_size h' rfl))
    exact ⟨.ref _, _, I2, rfl, C _ _ _ _ _ (h _ (R.fresh nf)) x2 R2 (.ref _)⟩
end
/-! ### its promise -/
structure DLamC (P : Program) (w : World) (K : PySem.W.Frag) (mg : Str → Option Value) (base : Heap) (k n : Nat) (L : LamT) (fr : List Str) (cs : List D) (dsp : DCall) : Prop where
  run : ∀ (A : Around) (outer : List PySem.Env) (s : Shared) (H : Hp) (f c : Addr) (m t : Value) (us : List Value) (vs ws : List V) (Q : VK), RoomG k A → Env0 P w K mg base A outer s H →
    s.heap.get? f = some (PySem.W.kla_obj "<lambda>" L.q L.ps L.bd L.sc L.cl m c t) → s.heap.CodeRec (.ref c) L.q → NdefX.CellsAt L.cl fr (ws.map some) s.heap H → Vals vs us → liftC K n dsp ws cs vs H Q E0 →
    codeAny (model P w) A (.call (.ref f) ⟨us, []⟩) (CR CX0 outer P w H s Q E0) s
/-- the slots at its entry: what it is called with, what its cells hold -/
def startN (n : Nat) (ds cs : List D) : Env := ds.map some ++ (cs.map some ++ List.replicate (n - ds.length - cs.length) none)
/-- a lambda as a nested function -/
abbrev LamT.nf (L : LamT) (c : Addr) : NdefX.NF := ⟨"<lambda>", L.q, L.ps, [], L.sc, L.cl, c⟩
section
variable {P : Program} {w : World} {K : PySem.W.Frag} {mg : Str → Option Value} {base : Heap}
theorem DLamC.mono {j k n : Nat} {L : LamT} {fr : List Str} {cs : List D} {dsp : DCall} (h : DLamC P w K mg base j n L fr cs dsp) (l : j ≤ k) : DLamC P w K mg base k n L fr cs dsp :=
  ⟨fun A outer s H f c m t us vs ws Q hr => h.run A outer s H f c m t us vs ws Q (hr.mono l)⟩
theorem DLamC.of {L : LamT} {N ps fr : List Str} {k : Nat} {cs : List D} {dsp : DCall} {d : DE} (S : NdefX.NScope N ps fr L.sc)
    (hb : ∀ (us : List Value) (m c t : Value), us.length = ps.length → bindArgs (PySem.W.kla_fn "<lambda>" L.q L.ps L.bd L.sc L.cl m c t) ⟨us, []⟩ = pure (ps.zip us))
    (body : ∀ (f c : Addr) (A : Around) (outer : List PySem.Env) (s : Shared) (H : Hp) (E : XK), RoomG k (A.deeper (NdefX.envF (L.nf c) f s.heap.objs.size)) → PD (NdefX.ncx CX0 P w K mg base N (L.nf c) f A outer s H E).nox L.bd d)
    (spec : ∀ ds μ k, ds.length = ps.length → dsp ds μ k → d (startN N.length ds cs) μ (wk k)) : DLamC P w K mg base (k + 1) ps.length L fr cs dsp := by
  refine ⟨fun A outer s H f c m t us vs ws Q hr e0 hf hc Cw r hsp => ?_⟩
  obtain ⟨F0, ds, μ, k0, R, Dw, Dv, e, h, C⟩ := hsp
  have hl : vs.length = ps.length := Dv.length.trans e
  have lim : s.heap.NoLimit := e0.mod.nolimit.keeps fun b o e => (e0.bs b o e).1
  refine PySem.W.kla_callFunE hr.rm.depth hf rfl S.co S.gen rfl hc ?_
  rw [hb us m _ t (by rw [← r.length]; exact hl)]
  refine wpAny_pure (wpAny_newFunctionEnv S.nocell (fun ⟨n, _⟩ hy => S.par n (List.of_mem_zip hy).1) (fun h₁ hns hsb => ⟨lim.fresh _ hsb, ?_⟩) S.kind)
  refine PySem.W.kla_codeExpr ?_
  have kp : ∀ b o, s.heap.get? b = some o → h₁.get? b = some o := fun b o e => hsb.extBut b o (Nat.ne_of_lt (Heap.lt_size e)) (Heap.get?_push_of_some _ e)
  have I : Inv (NdefX.ncx CX0 P w K mg base N (L.nf c) f A outer s H E0) [] (NdefX.startF N vs (ws.map some)) H { s with heap := h₁, toks := s.toks + (ps.zip us).length } := NdefX.inv_startN S hr.rm.hd e0 hl r Cw hns kp
  have W := wk_cont C
  have up : up K d (NdefX.startF N vs (ws.map some)) H Q := by
    refine ⟨F0, startN N.length ds cs, μ, _, R, ?_, spec ds μ k0 e h, W⟩
    unfold NdefX.startF startN
    rw [Dv.length, List.length_map, Dw.length]
    exact paired_append (env_start (N := N) Dv) (paired_append (env_start (N := N) Dw) (env_none _))
  refine wpAny_mono ((body f c A outer s H E0 (hr.deeper _)).nox.run [] _ (NdefX.startF N vs (ws.map some)) H Q I up) (fun u s' hs => ?_) fun e s' hs => hs
  obtain ⟨v, H', J, rv, z⟩ := hs
  exact ⟨v, H', J.os, J.bare, J.base, J.hok, rv, z⟩
end
/-! ### a def that is handed such lambdas -/
structure DFnC (P : Program) (w : World) (K : PySem.W.Frag) (mg : Str → Option Value) (base : Heap) (x : Str) (k n : Nat) (Ls : List LamT) (fr : List Str) (cs : List D) (dsp : DCall) : Prop where
  ex : ∃ f fd ps, List.length ps = n ∧ mg x = some (.ref f) ∧ PySem.W.keepIn K (.ref f) = true ∧ Binds K fd ps [] ∧
    ∀ (A : Around) (outer : List PySem.Env) (s : Shared) (H : Hp) (args : Args) (us : List Value) (vs ws : List V) (Q : VK) (E : XK), RoomG k A → Env0 P w K mg base A outer s H → BindsTo s fd args (ps.zip us) → Vals vs us →
      (∀ L ∈ Ls, NdefX.CellsAt L.cl fr (ws.map some) s.heap H ∧ ∀ y c, L.cl.lookup y = some c → c ∉ frs outer) → liftC K n dsp ws cs vs H Q E → codeAny (model P w) A (.call (.ref f) args) (CR CX0 outer P w H s Q E) s
section
variable {P : Program} {w : World} {K : PySem.W.Frag} {mg : Str → Option Value} {base : Heap}
theorem DFnC.mono {x : Str} {j k n : Nat} {Ls : List LamT} {fr : List Str} {cs : List D} {dsp : DCall} (h : DFnC P w K mg base x j n Ls fr cs dsp) (l : j ≤ k) : DFnC P w K mg base x k n Ls fr cs dsp := by
  obtain ⟨f, fd, ps, h1, h2, h3, h4, h5⟩ := h.ex
  exact ⟨f, fd, ps, h1, h2, h3, h4, fun A outer s H args us vs ws Q E hr => h5 A outer s H args us vs ws Q E (hr.mono l)⟩
theorem DFnC.of {x : Str} {st : Stmt} {f : Addr} {fd : FuncData} {N ps fr : List Str} {k m : Nat} {ls : List (LamT × DCall)} {cs : List D} {dsp : DCall} {d : DS} (F : Fun K x x st f fd) (hm : mg x = some (.ref f)) (b : Binds K fd ps []) (S : FnScope N ps (defScope st))
    (lam : ∀ p ∈ ls, DLamC P w K mg base k m p.1 fr cs p.2)
    (body : ∀ (anc : Anc) (cdv : Value) (A : Around) (outer : List PySem.Env) (s : Shared) (H : Hp) (E : XK), (∀ L, LamHere (cxOf CX0 P w K mg base N x (defScope st) f cdv A outer s H E).nox k m L (lamT ls L)) → RoomG k (A.deeper (envOfC x (defScope st) s.heap.objs.size f cdv)) →
      PDSs (cxOf CX0 P w K mg base N x (defScope st) f cdv A outer s H E).nox (defBody st) d)
    (spec : ∀ ds μ k, ds.length = ps.length → dsp ds μ k → d { nx := fun _ μ' => wk k .non μ', rt := wk k } (startD N.length ds) μ) : DFnC P w K mg base x (k + 1) ps.length (ls.map (·.1)) fr cs dsp := by
  obtain ⟨oc, od, kV, doc, pm, an, cdv, ct, osl, rfl, lk, hcd⟩ := F.ex
  refine ⟨f, _, ps, rfl, hm, F.kp, b, fun A outer s H args us vs ws Q E hr e0 hb r Cw hsp => ?_⟩
  obtain ⟨F0, ds, μ, k0, R, Dw, Dv, e, h, C⟩ := hsp
  have hl : vs.length = ps.length := Dv.length.trans e
  have inK : K.In s.heap := e0.mod.kin.keeps fun b o e => (e0.bs b o e).1
  have noL : s.heap.NoLimit := e0.mod.nolimit.keeps fun b o e => (e0.bs b o e).1
  refine codeAny_call_function hr.rm.depth (inK _ _ lk) rfl S.co S.gen rfl (PySem.W.codeRec_of inK hcd) (hb _ _ _ _ ?_)
  refine wpAny_newFunctionEnv_cells S.kind (fun ⟨n, v⟩ hy => ?_) fun env he s1 xc => ?_
  · rcases S.par n (List.of_mem_zip hy).1 with z | z
    · exact .inl z
    · exact .inr ⟨z, PySem.W.cellsFrom_some _ _ _ (.inl z)⟩
  subst he
  refine ⟨noL.keeps xc.toInCall.keep, codeAny_func ?_⟩
  have I : Inv (cxOf CX0 P w K mg base N x (defScope st) f cdv A outer s H E) [] (L2.start N vs) H s1 := inv_start S hr.rm.hd e0 hl r xc
  have R1 : @RepM ⟨some (F0, H, μ)⟩ K F0 H μ := @RepM.over ⟨some (F0, H, μ)⟩ K F0 H μ R (fun p z => by cases z; exact Ext.refl)
  have up : @upS ⟨some (F0, H, μ)⟩ K d { nx := fun _ H' => Q .non H', rt := Q } (L2.start N vs) H := by
    refine ⟨F0, startD N.length ds, μ, _, R1, ?_, spec ds μ k0 e h, ?_⟩
    · unfold L2.start startD
      rw [Dv.length]
      exact paired_append (env_start (N := N) Dv) (env_none _)
    · have C1 : @Cont ⟨some (F0, H, μ)⟩ K F0 H μ k0 Q := fun d μ' F' v H' hk s R' D' => C d μ' F' v H' hk s (@RepM.bare ⟨some (F0, H, μ)⟩ _ _ _ _ R') D'
      have W := @wk_cont ⟨some (F0, H, μ)⟩ _ _ _ _ _ _ C1
      exact @ContS.mk ⟨some (F0, H, μ)⟩ K F0 H μ { nx := fun _ μ' => wk k0 .non μ', rt := wk k0 } { nx := fun _ H' => Q .non H', rt := Q } (fun ρ' μ' F' σ' H' h s R' E' => W .non μ' F' .non H' h s R' .non) W (fun _ _ _ _ _ h => h.elim) (fun _ _ _ _ _ h => h.elim)
  have here : ∀ L, @LamHere ⟨some (F0, H, μ)⟩ (cxOf CX0 P w K mg base N x (defScope st) f cdv A outer s H E).nox k m L (lamT ls L) := @LamHere.any ⟨some (F0, H, μ)⟩ _ _ _ _ fun p hp =>
    @LamHere.mk ⟨some (F0, H, μ)⟩ _ _ _ _ _ fun pins σ H' s' f' c m t us' vs' Q' I' hr' hg hcr hv hsp' => by
      obtain ⟨z1, z2⟩ := Cw p.1 (List.mem_map.mpr ⟨p, hp, rfl⟩)
      obtain ⟨F2, ds2, μ2, k2, R2, D2, e2, h2, C2⟩ := hsp'
      have sm : Same F0 F2 := ((@RepM.an ⟨some (F0, H, μ)⟩ _ _ _ _ R2) _ rfl).same
      exact (lam p hp).run _ _ s' H' f' c m t us' vs' ws Q' hr' I'.env0 hg hcr (NdefX.CellsAt.later (X := (cxOf CX0 P w K mg base N x (defScope st) f cdv A outer s H E).nox) z1 z2 (fun y c _ z => absurd (show c ∈ ([] : List Addr) from z) (by simp)) I') hv
        ⟨F2, ds2, μ2, k2, @RepM.bare ⟨some (F0, H, μ)⟩ _ _ _ _ R2, Dw.mono sm, D2, e2, h2, C2⟩
  refine wpAny_mono ((body ⟨some (F0, H, μ)⟩ cdv A outer s H E here (hr.deeper _)).nox.run [] s1 (L2.start N vs) H _ I up) (fun fl s' hs => ?_) fun e s' hs => hs
  cases fl with
  | ret u =>
    obtain ⟨v, σ', H', J, rv, z⟩ := hs
    exact ⟨v, H', J.os, J.bare, J.base, J.hok, rv, z⟩
  | next =>
    obtain ⟨σ', H', J, z⟩ := hs
    exact ⟨V.non, H', J.os, J.bare, J.base, J.hok, rfl, z⟩
  | brk =>
    obtain ⟨_, _, _, z⟩ := hs
    exact False.elim z
  | cont =>
    obtain ⟨_, _, _, z⟩ := hs
    exact False.elim z
/-- the law, whose lambdas keep its cells -/
theorem fng_ofLC {x q : Str} {st : Stmt} {f : Addr} {fd : FuncData} {N ps : List Str} {k : Nat} {dsp : DCall} {d : List (Str × Addr) → DS} (F : Fun K x q st f fd) (S : FnScope N ps (defScope st))
    (body : ∀ (cdv : Value) (A : Around) (outer : List PySem.Env) (s : Shared) (H : Hp) (E : XK), fd.code = cdv → RoomG k (A.deeper (envOfC q (defScope st) s.heap.objs.size f cdv)) →
      PDSs (cxOf CX0 P w K mg base N q (defScope st) f cdv A outer s H E).nox (defBody st) (d (envOfC q (defScope st) s.heap.objs.size f cdv).cells))
    (spec : ∀ cells ds μ k, ds.length = ps.length → dsp ds μ k → d cells { nx := fun _ μ' => wk k .non μ', rt := wk k } (startD N.length ds) μ) : FnG P w K mg base (k + 1) f fd ps (liftSp K ps.length dsp) := by
  have len : ∀ vs H Q E, liftSp K ps.length dsp vs H Q E → vs.length = ps.length := fun vs H Q E ⟨_, ds, _, _, _, Dv, e, _⟩ => Dv.length.trans e
  obtain ⟨oc, od, kV, doc, pm, an, cdv, ct, osl, rfl, lk, hcd⟩ := F.ex
  refine ⟨len, fun A outer s H args us vs Q E hr e0 hb r hsp => ?_⟩
  have hl := len _ _ _ _ hsp
  have inK : K.In s.heap := e0.mod.kin.keeps fun b o e => (e0.bs b o e).1
  have noL : s.heap.NoLimit := e0.mod.nolimit.keeps fun b o e => (e0.bs b o e).1
  refine codeAny_call_function hr.rm.depth (inK _ _ lk) rfl S.co S.gen rfl (PySem.W.codeRec_of inK hcd) (hb _ _ _ _ ?_)
  refine wpAny_newFunctionEnv_cells S.kind (fun ⟨n, v⟩ hy => ?_) fun env he s1 xc => ?_
  · rcases S.par n (List.of_mem_zip hy).1 with z | z
    · exact .inl z
    · exact .inr ⟨z, PySem.W.cellsFrom_some _ _ _ (.inl z)⟩
  subst he
  obtain ⟨F0, ds, μ, k0, R, Dv, e, h, C⟩ := hsp
  refine ⟨noL.keeps xc.toInCall.keep, codeAny_func ?_⟩
  have I : Inv (cxOf CX0 P w K mg base N q (defScope st) f cdv A outer s H E) [] (L2.start N vs) H s1 := inv_start S hr.rm.hd e0 hl r xc
  have W := wk_cont C
  have up : upS K (d (envOfC q (defScope st) s.heap.objs.size f cdv).cells) { nx := fun _ H' => Q .non H', rt := Q } (L2.start N vs) H := by
    refine ⟨F0, startD N.length ds, μ, _, R, ?_, spec _ ds μ k0 e h, ?_⟩
    · unfold L2.start startD
      rw [Dv.length]
      exact paired_append (env_start (N := N) Dv) (env_none _)
    · exact ⟨fun ρ' μ' F' σ' H' h s R' E' => W .non μ' F' .non H' h s R' .non, W, fun _ _ _ _ _ h => h.elim, fun _ _ _ _ _ h => h.elim⟩
  refine wpAny_mono ((body cdv A outer s H E rfl (hr.deeper _)).nox.run [] s1 (L2.start N vs) H _ I up) (fun fl s' hs => ?_) fun e s' hs => hs
  cases fl with
  | ret u =>
    obtain ⟨v, σ', H', J, rv, z⟩ := hs
    exact ⟨v, H', J.os, J.bare, J.base, J.hok, rv, z⟩
  | next =>
    obtain ⟨σ', H', J, z⟩ := hs
    exact ⟨V.non, H', J.os, J.bare, J.base, J.hok, rfl, z⟩
  | brk =>
    obtain ⟨_, _, _, z⟩ := hs
    exact False.elim z
  | cont =>
    obtain ⟨_, _, _, z⟩ := hs
    exact False.elim z
end
/-- f(e, ..), f a def that is handed lambdas which keep this def's names at the slots js -/
def dCallC (n : Nat) (js : List Nat) (sp : List D → DCall) (da : DA) : DE := fun ρ μ k => ∃ cs : List D, js.map (fun j => ρ[j]?) = cs.map (fun d => some (some d)) ∧ da ρ μ fun ds μ1 => ds.length = n ∧ sp cs ds μ1 k
section
variable [anc : Anc]
variable {X : Cx} {x : Str} {p pos : Pos} {e : Expr} {es : List Expr} {da : DA} {k n : Nat}
theorem slots_den {K : PySem.W.Frag} {F : Hp} {σ : L2.St} {ρ : Env} (E : EnvD K F σ ρ) : ∀ {js : List Nat} {cs : List D}, js.map (fun j => ρ[j]?) = cs.map (fun d => some (some d)) → ∃ ws : List V, js.map (NdefX.slotAt σ) = ws.map some ∧ DenL K F ws cs
  | [], [], _ => ⟨[], rfl, .nil⟩
  | [], _ :: _, h => by simp at h
  | _ :: _, [], h => by simp at h
  | j :: js, d :: cs, h => by
    rw [List.map_cons, List.map_cons] at h
    injection h with h1 h2
    obtain ⟨ws, e1, e2⟩ := slots_den E h2
    obtain ⟨v, hv, r⟩ := EnvD.get (i := j) E h1
    exact ⟨v :: ws, by rw [List.map_cons, List.map_cons, e1, NdefX.slotAt_of hv], .cons r e2⟩
theorem pd_callC {Ls : List LamT} {fr : List Str} {js : List Nat} {sp : List D → DCall} (D : ∀ cs, DFnC X.prog X.w X.K X.mg X.base x k n Ls fr cs (sp cs)) (hr : RoomG k X.A) (caps : X.Ok → ∀ L ∈ Ls, NdefX.Caps X L.cl fr js) (hfn : ∀ y, X.fn y = true) (ha : PDA X (e :: es) da) (hg : Gl X x := by rfl)
    (hdb : (x == ("__debug__" : Str)) = false := by decide) (he : starEach (e :: es) X.env = (false, eval e X.env) :: starEach es X.env := by rfl) (hpl : (backTo pos (starEach es X.env)).any (·.1) = false := by rfl) :
    PD X (.Call (.Name x p) (e :: es) [] pos) (dCallC n js sp da) := by
  refine ⟨fun pins s σ H Q I ⟨F, ρ, μ, k, R, E, ⟨cs, h1, h⟩, C⟩ => ?_⟩
  obtain ⟨f, fd, ps, e1, hm, hk, hb, run⟩ := (D cs).ex
  obtain ⟨ws, hw, Dw⟩ := slots_den E h1
  refine wpAny_Call_Name_kw (ld_glob I hg hm (PySem.W.callWith_K (h₀ := X.base) I.ok.mod.kin hk (thn (ha.run pos pins s σ H (fun vs H2 => ∃ F2 ds μ2, Ext F H μ F2 H2 μ2 ∧ RepM X.K F2 H2 μ2 ∧ DenL X.K F2 vs ds ∧ ds.length = n ∧ sp cs ds μ2 k) I
    ⟨F, ρ, μ, _, R, E, h, fun ds μ2 F2 vs H2 hk x2 R2 D2 => ⟨F2, ds, μ2, x2, R2, D2, hk⟩⟩) fun us s2 ⟨vs, H2, I2, r2, F2, ds, μ2, x2, R2, D2, hn, ht⟩ => ⟨I2.kIn, ?_⟩) he hpl) hdb)
  have hl : us.length = ps.length := by rw [← r2.length, D2.length, hn, e1]
  have hb' := hb s2 us I2.kIn (by rw [List.append_nil]; exact hl)
  rw [List.append_nil] at hb'
  refine wpAny_call (codeAny_mono (run X.A X.stack s2 H2 ⟨us, []⟩ us vs ws Q E0 hr I2.env0 hb' r2 (fun L hL => ⟨?_, fun y c hc z => ?_⟩) ⟨F2, ds, μ2, k, R2.bare, Dw.mono x2.same, D2, hn, ht, (C.mono x2).bare R2⟩) fun r s' hq => ?_)
  · rw [← hw]
    exact NdefX.cells_of I2 (caps I2.ok L hL)
  · have hx := (caps I2.ok L hL).sub y c hc
    have n1 := I2.cne y c hx
    have n2 := I2.ok.cab y c (hfn y) hx
    have inO : c ∈ X.fs → False := fun z => by
      obtain ⟨_, o, ho, _⟩ := I2.ok.funs.mem z
      exact absurd (Heap.lt_size ho) (Nat.not_lt.mpr n2)
    rcases I2.ok.stk with e | ⟨e, e'⟩
    · rw [e] at z
      exact inO z
    · rw [e] at z
      unfold frs at z
      rw [List.filterMap_cons, e'] at z
      rcases List.mem_cons.mp z with z | z
      · exact n1 z
      · exact inO z
  · match r, hq with
    | .error e, hq => exact False.elim hq
    | .ok (.ret u), hq => exact I2.after hq
    | .ok .next, hq => exact False.elim hq
    | .ok .brk, hq => exact False.elim hq
    | .ok .cont, hq => exact False.elim hq
end
end DL
namespace K37
open PySem PySem.Spec L2 DL
open PyProof.Rows hiding St
def topS (i : Nat) : Stmt := PySem.Challenge.pw_faultways_k37_papers_spoilt_anywhere.main.body.getD i (.Pass ⟨0, 0, 0, 0⟩)
structure Bt (mg : Str → Option Value) : Prop where
  f_abs : mg "abs" = none
  f_all : mg "all" = none
  f_bool : mg "bool" = none
  f_enumerate : mg "enumerate" = none
  f_int : mg "int" = none
  f_isinstance : mg "isinstance" = none
  f_len : mg "len" = none
  f_list : mg "list" = none
  f_min : mg "min" = none
  f_range : mg "range" = none
  f_repr : mg "repr" = none
  f_sorted : mg "sorted" = none
  f_str : mg "str" = none
  f_tuple : mg "tuple" = none
  f_zip : mg "zip" = none
structure Ct (mg : Str → Option Value) : Prop where
section
variable {P : Program} {w : World} {K : PySem.W.Frag} {mg : Str → Option Value} {base : Heap}
/-! is_number -/
abbrev st_is_number : Stmt := topS 1
abbrev N_is_number : List Str := ["thing"]
theorem sc_is_number : FnScope N_is_number ["thing"] (defScope st_is_number) := ⟨rfl, rfl, rfl, by decide +kernel, rfl, by decide +kernel, by decide +kernel⟩
def d_is_number : DS :=
    dRet (dAndV (dIsi "int" (dVar 0)) (dAndV (dNotV (dIsi "bool" (dVar 0))) (dOp (rdI0 fun i j => .bl (decide (j ≤ i))) (dVar 0) (dC (.int 0)))))
theorem body_is_number (B : Bt mg) (C : Ct mg) {f : Addr} {k : Nat} (cdv : Value) (A : Around) (outer : List PySem.Env) (s : Shared) (H : Hp) (E : XK) (hr : RoomG k (A.deeper (envOfC "is_number" (defScope st_is_number) s.heap.objs.size f cdv))) :
    PDSs (cxOf CX0 P w K mg base N_is_number "is_number" (defScope st_is_number) f cdv A outer s H E).nox (defBody st_is_number) (d_is_number) := by
  have nd := sc_is_number.nd
  exact pdss_one (pds_ret (pd_and (pd_isi (pd_var 0) (by rfl) B.f_int (by rfl) B.f_isinstance) (pd_and (pd_not (pd_isi (pd_var 0) (by rfl) B.f_bool (by rfl) B.f_isinstance)) (pd_one (pd_cmp opd_ge (pd_var 0) (pd_int))))))
/-! are_rising -/
abbrev st_are_rising : Stmt := topS 3
abbrev N_are_rising : List Str := ["thing", "many", "one", "other"]
theorem sc_are_rising : FnScope N_are_rising ["thing", "many"] (defScope st_are_rising) := ⟨rfl, rfl, rfl, by decide +kernel, rfl, by decide +kernel, by decide +kernel⟩
def d_are_rising (sp_is_number : DCall) : DS :=
    dSeq (dIfS (dOr (dNot (dTru (dIsi "list" (dVar 0)))) (dNot (dTru (dCB rdAll (dCons (dLc false (diSeq (dVar 0)) (dgName 2) (dYes) (dAndV (dCall 1 sp_is_number (dCons (dVar 2) (dNil))) (dOp (rdI0 fun i j => .bl (decide (i < j))) (dVar 2) (dVar 1))) [2]) (dNil)))))) (dRet (dC (.bl false))) (dNext))
    (dRet (dCB rdAll (dCons (dLc false (diZip (dCons (dVar 0) (dCons (dSl false (dVar 0) (dPart (dC (.int 1))) dNoPart) (dNil)))) (dgTup 2 (dgCons (dgName 2) (dgCons (dgName 3) (dgNil)))) (dYes) (dOp (rdI0 fun i j => .bl (decide (i < j))) (dVar 2) (dVar 3)) [2, 3]) (dNil))))
theorem body_are_rising (B : Bt mg) (C : Ct mg) {f : Addr} {k : Nat} {sp_is_number : DCall} (D_is_number : DFnG P w K mg base "is_number" k 1 sp_is_number) (cdv : Value) (A : Around) (outer : List PySem.Env) (s : Shared) (H : Hp) (E : XK) (hr : RoomG k (A.deeper (envOfC "are_rising" (defScope st_are_rising) s.heap.objs.size f cdv))) :
    PDSs (cxOf CX0 P w K mg base N_are_rising "are_rising" (defScope st_are_rising) f cdv A outer s H E).nox (defBody st_are_rising) (d_are_rising sp_is_number) := by
  have nd := sc_are_rising.nd
  exact pdss_cons (pds_if (pdt_w (pdw_or (pdt_not (pdt_tru (pd_isi (pd_var 0) (by rfl) B.f_list (by rfl) B.f_isinstance))) (pdw_or1 (pdt_not (pdt_tru (pd_callB (cd_all rfl) (by rfl) B.f_all bb_all (pda_cons (pd_lc false (own := [("one", 2)]) rfl nd (pdi_seq (pd_var 0)) (blkOk_by (N := N_are_rising) (sc := (defScope st_are_rising)) (own := [("one", 2)]) (by decide +kernel)) (fun _ _ _ _ _ => pdg_name 2 nd) (fun _ _ _ _ _ => pdts_nil) (fun _ _ _ _ _ => pd_and (pd_callG D_is_number hr pass0 (pda_cons (pd_var 2) (pda_nil))) (pd_one (pd_cmp opd_lt (pd_var 2) (pd_var 1))))) (pda_nil)))))))) (pdss_one (pds_ret (pd_bl))) (pdss_nil))
    (pdss_one (pds_ret (pd_callB (cd_all rfl) (by rfl) B.f_all bb_all (pda_cons (pd_lc false (own := [("one", 2), ("other", 3)]) rfl nd (pdi_zip (by rfl) B.f_zip (pda_cons (pd_var 0) (pda_cons (pd_sl false (pd_var 0) (pdo_some (pd_int)) pdo_none) (pda_nil)))) (blkOk_by (N := N_are_rising) (sc := (defScope st_are_rising)) (own := [("one", 2), ("other", 3)]) (by decide +kernel)) (fun _ _ _ _ _ => pdg_tup rfl (pdgs_cons (pdg_name 2 nd) (pdgs_cons (pdg_name 3 nd) (pdgs_nil)))) (fun _ _ _ _ _ => pdts_nil) (fun _ _ _ _ _ => pd_cmp opd_lt (pd_var 2) (pd_var 3))) (pda_nil)))))
/-! parted_between -/
abbrev st_parted_between : Stmt := topS 4
abbrev N_parted_between : List Str := ["due", "one", "other", "row"]
theorem sc_parted_between : FnScope N_parted_between ["due", "one", "other"] (defScope st_parted_between) := ⟨rfl, rfl, rfl, by decide +kernel, rfl, by decide +kernel, by decide +kernel⟩
def d_parted_between : DS :=
    dSeq (dFor (diRng2 (dCons (dVar 1) (dCons (dOp (rdAdd false) (dVar 2) (dC (.int 1))) (dNil)))) (dgName 3) (dIfS (dAnd (dB (dOp rdIsNot (dOp rdIx (dVar 0) (dVar 3)) (dC .non))) (dB (dOp rdNe (dOp rdIx (dVar 0) (dVar 3)) (dOp rdIx (dVar 0) (dVar 1))))) (dRet (dC (.bl true))) (dNext)))
    (dRet (dC (.bl false)))
theorem body_parted_between (B : Bt mg) (C : Ct mg) {f : Addr} {k : Nat} (cdv : Value) (A : Around) (outer : List PySem.Env) (s : Shared) (H : Hp) (E : XK) (hr : RoomG k (A.deeper (envOfC "parted_between" (defScope st_parted_between) s.heap.objs.size f cdv))) :
    PDSs (cxOf CX0 P w K mg base N_parted_between "parted_between" (defScope st_parted_between) f cdv A outer s H E).nox (defBody st_parted_between) (d_parted_between) := by
  have nd := sc_parted_between.nd
  exact pdss_cons (pds_for PassesOwn.never rfl (pdi_range2 (by rfl) B.f_range (pda_cons (pd_var 1) (pda_cons (pd_op (opd_add false) (pd_var 2) (pd_int)) (pda_nil)))) (pdg_name 3 nd) (pdss_one (pds_if (pdt_w (pdw_and (pdt_cmp opd_isNot (pd_ix (pd_var 0) (pd_var 3)) (pd_non)) (pdw_and1 (pdt_cmp (opd_ne hr.units) (pd_ix (pd_var 0) (pd_var 3)) (pd_ix (pd_var 0) (pd_var 1)))))) (pdss_one (pds_ret (pd_bl))) (pdss_nil))))
    (pdss_one (pds_ret (pd_bl)))
/-! shows_least -/
abbrev st_shows_least : Stmt := topS 5
abbrev N_shows_least : List Str := ["due", "table", "paper", "row", "one", "other"]
theorem sc_shows_least : FnScope N_shows_least ["due", "table", "paper"] (defScope st_shows_least) := ⟨rfl, rfl, rfl, by decide +kernel, rfl, by decide +kernel, by decide +kernel⟩
def d_shows_least (sp_are_rising : DCall) (sp_parted_between : DCall) : DS :=
    dSeq (dIfS (dOr (dNot (dTru (dCall 2 sp_are_rising (dCons (dVar 2) (dCons (dCB rdLen (dCons (dVar 0) (dNil))) (dNil)))))) (dB (dOp rdNe (dCB rdLen (dCons (dVar 2) (dNil))) (dCB rdLen (dCons (dVar 1) (dNil)))))) (dRet (dC (.bl false))) (dNext))
    (dSeq (dIfS (dNot (dTru (dCB rdAll (dCons (dLc false (diSeq (dVar 2)) (dgName 3) (dYes) (dAndV (dOp rdIsNot (dOp rdIx (dVar 0) (dVar 3)) (dC .non)) (dOp rdNe (dOp rdIx (dVar 0) (dVar 3)) (dTup (dNil)))) [3]) (dNil))))) (dRet (dC (.bl false))) (dNext))
    (dRet (dCB rdAll (dCons (dLc false (diZip (dCons (dVar 2) (dCons (dSl false (dVar 2) (dPart (dC (.int 1))) dNoPart) (dNil)))) (dgTup 2 (dgCons (dgName 4) (dgCons (dgName 5) (dgNil)))) (dYes) (dCall 3 sp_parted_between (dCons (dVar 0) (dCons (dVar 4) (dCons (dVar 5) (dNil))))) [4, 5]) (dNil)))))
theorem body_shows_least (B : Bt mg) (C : Ct mg) {f : Addr} {k : Nat} {sp_are_rising : DCall} (D_are_rising : DFnG P w K mg base "are_rising" k 2 sp_are_rising) {sp_parted_between : DCall} (D_parted_between : DFnG P w K mg base "parted_between" k 3 sp_parted_between) (cdv : Value) (A : Around) (outer : List PySem.Env) (s : Shared) (H : Hp) (E : XK) (hr : RoomG k (A.deeper (envOfC "shows_least" (defScope st_shows_least) s.heap.objs.size f cdv))) :
    PDSs (cxOf CX0 P w K mg base N_shows_least "shows_least" (defScope st_shows_least) f cdv A outer s H E).nox (defBody st_shows_least) (d_shows_least sp_are_rising sp_parted_between) := by
  have nd := sc_shows_least.nd
  exact pdss_cons (pds_if (pdt_w (pdw_or (pdt_not (pdt_tru (pd_callG D_are_rising hr pass0 (pda_cons (pd_var 2) (pda_cons (pd_callB cd_len (by rfl) B.f_len bb_len (pda_cons (pd_var 0) (pda_nil))) (pda_nil)))))) (pdw_or1 (pdt_cmp (opd_ne hr.units) (pd_callB cd_len (by rfl) B.f_len bb_len (pda_cons (pd_var 2) (pda_nil))) (pd_callB cd_len (by rfl) B.f_len bb_len (pda_cons (pd_var 1) (pda_nil))))))) (pdss_one (pds_ret (pd_bl))) (pdss_nil))
    (pdss_cons (pds_if (pdt_not (pdt_tru (pd_callB (cd_all rfl) (by rfl) B.f_all bb_all (pda_cons (pd_lc false (own := [("row", 3)]) rfl nd (pdi_seq (pd_var 2)) (blkOk_by (N := N_shows_least) (sc := (defScope st_shows_least)) (own := [("row", 3)]) (by decide +kernel)) (fun _ _ _ _ _ => pdg_name 3 nd) (fun _ _ _ _ _ => pdts_nil) (fun _ _ _ _ _ => pd_and (pd_cmp opd_isNot (pd_ix (pd_var 0) (pd_var 3)) (pd_non)) (pd_one (pd_cmp (opd_ne hr.units) (pd_ix (pd_var 0) (pd_var 3)) (pd_tup (pda_nil)))))) (pda_nil))))) (pdss_one (pds_ret (pd_bl))) (pdss_nil))
    (pdss_one (pds_ret (pd_callB (cd_all rfl) (by rfl) B.f_all bb_all (pda_cons (pd_lc false (own := [("one", 4), ("other", 5)]) rfl nd (pdi_zip (by rfl) B.f_zip (pda_cons (pd_var 2) (pda_cons (pd_sl false (pd_var 2) (pdo_some (pd_int)) pdo_none) (pda_nil)))) (blkOk_by (N := N_shows_least) (sc := (defScope st_shows_least)) (own := [("one", 4), ("other", 5)]) (by decide +kernel)) (fun _ _ _ _ _ => pdg_tup rfl (pdgs_cons (pdg_name 4 nd) (pdgs_cons (pdg_name 5 nd) (pdgs_nil)))) (fun _ _ _ _ _ => pdts_nil) (fun _ _ _ _ _ => pd_callG D_parted_between hr pass0 (pda_cons (pd_var 0) (pda_cons (pd_var 4) (pda_cons (pd_var 5) (pda_nil)))))) (pda_nil))))))
/-! _law_cell_at -/
abbrev st_l_cell_at : Stmt := topS 7
abbrev N_l_cell_at : List Str := ["_law_script", "_law_k"]
theorem sc_l_cell_at : FnScope N_l_cell_at ["_law_script", "_law_k"] (defScope st_l_cell_at) := ⟨rfl, rfl, rfl, by decide +kernel, rfl, by decide +kernel, by decide +kernel⟩
def d_l_cell_at : DS :=
    dRet (dIf (dB (dOp (rdI0 fun i j => .bl (decide (i < j))) (dVar 1) (dCB rdLen (dCons (dVar 0) (dNil))))) (dOp rdIx (dVar 0) (dVar 1)) (dC (.int 0)))
theorem body_l_cell_at (B : Bt mg) (C : Ct mg) {f : Addr} {k : Nat} (cdv : Value) (A : Around) (outer : List PySem.Env) (s : Shared) (H : Hp) (E : XK) (hr : RoomG k (A.deeper (envOfC "_law_cell_at" (defScope st_l_cell_at) s.heap.objs.size f cdv))) :
    PDSs (cxOf CX0 P w K mg base N_l_cell_at "_law_cell_at" (defScope st_l_cell_at) f cdv A outer s H E).nox (defBody st_l_cell_at) (d_l_cell_at) := by
  have nd := sc_l_cell_at.nd
  exact pdss_one (pds_ret (pd_ifExp (pdt_cmp opd_lt (pd_var 1) (pd_callB cd_len (by rfl) B.f_len bb_len (pda_cons (pd_var 0) (pda_nil)))) (pd_ix (pd_var 0) (pd_var 1)) (pd_int)))
/-! _law_tape -/
abbrev st_l_tape : Stmt := topS 8
abbrev N_l_tape : List Str := ["_law_script", "_law_k", "_law_cell"]
theorem sc_l_tape : FnScope N_l_tape ["_law_script", "_law_k"] (defScope st_l_tape) := ⟨rfl, rfl, rfl, by decide +kernel, rfl, by decide +kernel, by decide +kernel⟩
def d_l_tape (sp_l_cell_at : DCall) : DS :=
    dSeq (dSet 2 (dCall 2 sp_l_cell_at (dCons (dVar 0) (dCons (dVar 1) (dNil)))))
    (dRet (dOp (rdAdd true) (dLst false (dCons (dOp (rdMul false) (dCB rdAbs (dCons (dVar 2) (dNil))) (dCB rdInt (dCons (dOp (rdI0 fun i j => .bl (decide (j ≤ i))) (dCB rdAbs (dCons (dVar 2) (dNil))) (dOp (rdI CPow fun i j => .int (i ^ j.toNat)) (dC (.int 10)) (dC (.int 18)))) (dNil)))) (dCons (dOp (rdI (fun _ j => 0 < j) fun i j => .int (i % j)) (dOp (rdMul false) (dOp (rdAdd false) (dOp (rdAdd false) (dOp (rdI (fun _ j => 0 < j) fun i j => .int (i % j)) (dVar 2) (dC (.int 2147483647))) (dOp (rdMul false) (dC (.int 7919)) (dVar 1))) (dC (.int 11))) (dC (.int 48271))) (dC (.int 2147483629))) (dNil)))) (dOp (rdMul false) (dLst false (dCons (dC (.int 0)) (dNil))) (dC (.int 5)))))
theorem body_l_tape (B : Bt mg) (C : Ct mg) {f : Addr} {k : Nat} {sp_l_cell_at : DCall} (D_l_cell_at : DFnG P w K mg base "_law_cell_at" k 2 sp_l_cell_at) (cdv : Value) (A : Around) (outer : List PySem.Env) (s : Shared) (H : Hp) (E : XK) (hr : RoomG k (A.deeper (envOfC "_law_tape" (defScope st_l_tape) s.heap.objs.size f cdv))) :
    PDSs (cxOf CX0 P w K mg base N_l_tape "_law_tape" (defScope st_l_tape) f cdv A outer s H E).nox (defBody st_l_tape) (d_l_tape sp_l_cell_at) := by
  have nd := sc_l_tape.nd
  exact pdss_cons (pds_set 2 nd (pd_callG D_l_cell_at hr pass0 (pda_cons (pd_var 0) (pda_cons (pd_var 1) (pda_nil)))))
    (pdss_one (pds_ret (pd_op (opd_add true) (pd_lst false (pda_cons (pd_op (opd_mul false) (pd_callB cd_abs (by rfl) B.f_abs bb_abs (pda_cons (pd_var 2) (pda_nil))) (pd_callTy cd_int (by rfl) B.f_int bb_int (pda_cons (pd_cmp opd_ge (pd_callB cd_abs (by rfl) B.f_abs bb_abs (pda_cons (pd_var 2) (pda_nil))) (pd_op opd_pow (pd_int) (pd_int))) (pda_nil)))) (pda_cons (pd_op opd_mod (pd_op (opd_mul false) (pd_op (opd_add false) (pd_op (opd_add false) (pd_op opd_mod (pd_var 2) (pd_int)) (pd_op (opd_mul false) (pd_int) (pd_var 1))) (pd_int)) (pd_int)) (pd_int)) (pda_nil)))) (pd_op (opd_mul false) (pd_lst false (pda_cons (pd_int) (pda_nil))) (pd_int)))))
/-! _law_take -/
abbrev st_l_take : Stmt := topS 9
abbrev N_l_take : List Str := ["_law_tape_here", "_law_many", "_law_found", "_law_once"]
theorem sc_l_take : FnScope N_l_take ["_law_tape_here", "_law_many"] (defScope st_l_take) := ⟨rfl, rfl, rfl, by decide +kernel, rfl, by decide +kernel, by decide +kernel⟩
def d_l_take : DS :=
    dSeq (dIfS (dB (dOp (rdI0 fun i j => .bl (decide (j < i))) (dOp rdIx (dVar 0) (dC (.int 0))) (dC (.int 0)))) (dSeq (dSet 2 (dOp (rdI (fun _ j => 0 < j) fun i j => .int (i % j)) (dOp rdIx (dVar 0) (dC (.int 0))) (dVar 1)))
    (dSeq (dAsg (dOp (rdI CDivW fun i j => .int (i / j)) (dOp rdIx (dVar 0) (dC (.int 0))) (dVar 1)) (dgSub (dVar 0) (dC (.int 0))))
    (dRet (dVar 2)))) (dNext))
    (dSeq (dAsg (dOp (rdAdd false) (dOp rdIx (dVar 0) (dC (.int 2))) (dC (.int 1))) (dgSub (dVar 0) (dC (.int 2))))
    (dSeq (dSet 3 (dOp (rdI (fun _ j => 0 < j) fun i j => .int (i % j)) (dOp (rdMul false) (dOp (rdAdd false) (dOp rdIx (dVar 0) (dC (.int 1))) (dOp (rdMul false) (dC (.int 39373)) (dOp rdIx (dVar 0) (dC (.int 2))))) (dOp (rdAdd false) (dC (.int 48271)) (dOp rdIx (dVar 0) (dC (.int 2))))) (dC (.int 2147483647))))
    (dSeq (dAsg (dOp (rdI (fun _ j => 0 < j) fun i j => .int (i % j)) (dOp (rdAdd false) (dOp (rdMul false) (dVar 3) (dOp (rdAdd false) (dOp (rdI (fun _ j => 0 < j) fun i j => .int (i % j)) (dVar 3) (dC (.int 40009))) (dC (.int 7)))) (dOp rdIx (dVar 0) (dC (.int 2)))) (dC (.int 2147483629))) (dgSub (dVar 0) (dC (.int 1))))
    (dRet (dOp (rdI (fun _ j => 0 < j) fun i j => .int (i % j)) (dOp (rdI CDivW fun i j => .int (i / j)) (dOp (rdI (fun _ j => 0 < j) fun i j => .int (i % j)) (dOp (rdMul false) (dOp rdIx (dVar 0) (dC (.int 1))) (dOp (rdAdd false) (dOp (rdI (fun _ j => 0 < j) fun i j => .int (i % j)) (dOp rdIx (dVar 0) (dC (.int 1))) (dC (.int 1009))) (dC (.int 3)))) (dC (.int 998244353))) (dC (.int 7))) (dVar 1))))))
theorem body_l_take (B : Bt mg) (C : Ct mg) {f : Addr} {k : Nat} (cdv : Value) (A : Around) (outer : List PySem.Env) (s : Shared) (H : Hp) (E : XK) (hr : RoomG k (A.deeper (envOfC "_law_take" (defScope st_l_take) s.heap.objs.size f cdv))) :
    PDSs (cxOf CX0 P w K mg base N_l_take "_law_take" (defScope st_l_take) f cdv A outer s H E).nox (defBody st_l_take) (d_l_take) := by
  have nd := sc_l_take.nd
  exact pdss_cons (pds_if (pdt_cmp opd_gt (pd_ix (pd_var 0) (pd_int)) (pd_int)) (pdss_cons (pds_set 2 nd (pd_op opd_mod (pd_ix (pd_var 0) (pd_int)) (pd_var 1)))
    (pdss_cons (pds_asg (pd_op opd_fdivW (pd_ix (pd_var 0) (pd_int)) (pd_var 1)) (pdg_sub (pd_var 0) (pd_int)))
    (pdss_one (pds_ret (pd_var 2))))) (pdss_nil))
    (pdss_cons (pds_asg (pd_op (opd_add false) (pd_ix (pd_var 0) (pd_int)) (pd_int)) (pdg_sub (pd_var 0) (pd_int)))
    (pdss_cons (pds_set 3 nd (pd_op opd_mod (pd_op (opd_mul false) (pd_op (opd_add false) (pd_ix (pd_var 0) (pd_int)) (pd_op (opd_mul false) (pd_int) (pd_ix (pd_var 0) (pd_int)))) (pd_op (opd_add false) (pd_int) (pd_ix (pd_var 0) (pd_int)))) (pd_int)))
    (pdss_cons (pds_asg (pd_op opd_mod (pd_op (opd_add false) (pd_op (opd_mul false) (pd_var 3) (pd_op (opd_add false) (pd_op opd_mod (pd_var 3) (pd_int)) (pd_int))) (pd_ix (pd_var 0) (pd_int))) (pd_int)) (pdg_sub (pd_var 0) (pd_int)))
    (pdss_one (pds_ret (pd_op opd_mod (pd_op opd_fdivW (pd_op opd_mod (pd_op (opd_mul false) (pd_ix (pd_var 0) (pd_int)) (pd_op (opd_add false) (pd_op opd_mod (pd_ix (pd_var 0) (pd_int)) (pd_int)) (pd_int))) (pd_int)) (pd_int)) (pd_var 1)))))))
/-! _law_thing -/
abbrev st_l_thing : Stmt := topS 10
abbrev N_l_thing : List Str := ["_law_tape_here", "_law_many", "_law_wide", "_law_k"]
theorem sc_l_thing : FnScope N_l_thing ["_law_tape_here"] (defScope st_l_thing) := ⟨rfl, rfl, rfl, by decide +kernel, rfl, by decide +kernel, by decide +kernel⟩
def d_l_thing (sp_l_take : DCall) : DS :=
    dSeq (dSet 1 (dOp (rdAdd false) (dC (.int 1)) (dCall 2 sp_l_take (dCons (dVar 0) (dCons (dC (.int 3)) (dNil))))))
    (dSeq (dIfS (dB (dOp rdEq (dCall 2 sp_l_take (dCons (dVar 0) (dCons (dC (.int 8)) (dNil)))) (dC (.int 0)))) (dSet 1 (dOp (rdAdd false) (dC (.int 4)) (dCall 2 sp_l_take (dCons (dVar 0) (dCons (dC (.int 9)) (dNil)))))) (dNext))
    (dSeq (dSet 2 (dOp rdIx (dLst false (dCons (dC (.int 2)) (dCons (dC (.int 3)) (dCons (dC (.int 12)) (dCons (dOp (rdI CPow fun i j => .int (i ^ j.toNat)) (dC (.int 10)) (dC (.int 6))) (dNil)))))) (dCall 2 sp_l_take (dCons (dVar 0) (dCons (dC (.int 4)) (dNil))))))
    (dRet (dCB rdTuple (dCons (dLc false (diRng1 (dCons (dVar 1) (dNil))) (dgName 3) (dYes) (dTup (dCons (dCall 2 sp_l_take (dCons (dVar 0) (dCons (dVar 2) (dNil)))) (dCons (dCall 2 sp_l_take (dCons (dVar 0) (dCons (dVar 2) (dNil)))) (dNil)))) [3]) (dNil))))))
theorem body_l_thing (B : Bt mg) (C : Ct mg) {f : Addr} {k : Nat} {sp_l_take : DCall} (D_l_take : DFnG P w K mg base "_law_take" k 2 sp_l_take) (cdv : Value) (A : Around) (outer : List PySem.Env) (s : Shared) (H : Hp) (E : XK) (hr : RoomG k (A.deeper (envOfC "_law_thing" (defScope st_l_thing) s.heap.objs.size f cdv))) :
    PDSs (cxOf CX0 P w K mg base N_l_thing "_law_thing" (defScope st_l_thing) f cdv A outer s H E).nox (defBody st_l_thing) (d_l_thing sp_l_take) := by
  have nd := sc_l_thing.nd
  exact pdss_cons (pds_set 1 nd (pd_op (opd_add false) (pd_int) (pd_callG D_l_take hr pass0 (pda_cons (pd_var 0) (pda_cons (pd_int) (pda_nil))))))
    (pdss_cons (pds_if (pdt_cmp (opd_eq hr.units) (pd_callG D_l_take hr pass0 (pda_cons (pd_var 0) (pda_cons (pd_int) (pda_nil)))) (pd_int)) (pdss_one (pds_set 1 nd (pd_op (opd_add false) (pd_int) (pd_callG D_l_take hr pass0 (pda_cons (pd_var 0) (pda_cons (pd_int) (pda_nil))))))) (pdss_nil))
    (pdss_cons (pds_set 2 nd (pd_ix (pd_lst false (pda_cons (pd_int) (pda_cons (pd_int) (pda_cons (pd_int) (pda_cons (pd_op opd_pow (pd_int) (pd_int)) (pda_nil)))))) (pd_callG D_l_take hr pass0 (pda_cons (pd_var 0) (pda_cons (pd_int) (pda_nil))))))
    (pdss_one (pds_ret (pd_callTy cd_tuple (by rfl) B.f_tuple bb_tuple (pda_cons (pd_lc false (own := [("_law_k", 3)]) rfl nd (pdi_range1 (by rfl) B.f_range (pda_cons (pd_var 1) (pda_nil))) (blkOk_by (N := N_l_thing) (sc := (defScope st_l_thing)) (own := [("_law_k", 3)]) (by decide +kernel)) (fun _ _ _ _ _ => pdg_name 3 nd) (fun _ _ _ _ _ => pdts_nil) (fun _ _ _ _ _ => pd_tup (pda_cons (pd_callG D_l_take hr pass0 (pda_cons (pd_var 0) (pda_cons (pd_var 2) (pda_nil)))) (pda_cons (pd_callG D_l_take hr pass0 (pda_cons (pd_var 0) (pda_cons (pd_var 2) (pda_nil)))) (pda_nil))))) (pda_nil)))))))
/-! _law_due -/
abbrev st_l_due : Stmt := topS 11
abbrev N_l_due : List Str := ["_law_tape_here", "_law_pool", "_law_k", "_law_many", "_law_made", "_law_way"]
theorem sc_l_due : FnScope N_l_due ["_law_tape_here"] (defScope st_l_due) := ⟨rfl, rfl, rfl, by decide +kernel, rfl, by decide +kernel, by decide +kernel⟩
def d_l_due (sp_l_take : DCall) (sp_l_thing : DCall) : DS :=
    dSeq (dSet 1 (dLc false (diRng1 (dCons (dOp (rdAdd false) (dC (.int 1)) (dCall 2 sp_l_take (dCons (dVar 0) (dCons (dC (.int 3)) (dNil))))) (dNil))) (dgName 2) (dYes) (dCall 1 sp_l_thing (dCons (dVar 0) (dNil))) [2]))
    (dSeq (dSet 3 (dCall 2 sp_l_take (dCons (dVar 0) (dCons (dC (.int 13)) (dNil)))))
    (dSeq (dIfS (dB (dOp rdEq (dCall 2 sp_l_take (dCons (dVar 0) (dCons (dC (.int 8)) (dNil)))) (dC (.int 0)))) (dSet 3 (dOp (rdAdd false) (dC (.int 13)) (dCall 2 sp_l_take (dCons (dVar 0) (dCons (dC (.int 386)) (dNil)))))) (dNext))
    (dSeq (dSet 4 (dLst true (dNil)))
    (dSeq (dFor (diRng1 (dCons (dVar 3) (dNil))) (dgName 2) (dSeq (dSet 5 (dCall 2 sp_l_take (dCons (dVar 0) (dCons (dC (.int 8)) (dNil)))))
    (dIfS (dB (dOp (rdI0 fun i j => .bl (decide (i < j))) (dVar 5) (dC (.int 2)))) (dDrop (dBM rdAppend (dVar 4) (dCons (dC .non) (dNil)))) (dIfS (dB (dOp rdEq (dVar 5) (dC (.int 2)))) (dDrop (dBM rdAppend (dVar 4) (dCons (dTup (dNil)) (dNil)))) (dIfS (dAnd (dB (dOp (rdI0 fun i j => .bl (decide (i < j))) (dVar 5) (dC (.int 6)))) (dB (dOp rdNe (dVar 4) (dLst false (dNil))))) (dDrop (dBM rdAppend (dVar 4) (dCons (dOp rdIx (dVar 4) (dUn rdNeg (dC (.int 1)))) (dNil)))) (dDrop (dBM rdAppend (dVar 4) (dCons (dOp rdIx (dVar 1) (dCall 2 sp_l_take (dCons (dVar 0) (dCons (dCB rdLen (dCons (dVar 1) (dNil))) (dNil))))) (dNil)))))))))
    (dRet (dVar 4))))))
theorem body_l_due (B : Bt mg) (C : Ct mg) {f : Addr} {k : Nat} {sp_l_take : DCall} (D_l_take : DFnG P w K mg base "_law_take" k 2 sp_l_take) {sp_l_thing : DCall} (D_l_thing : DFnG P w K mg base "_law_thing" k 1 sp_l_thing) (cdv : Value) (A : Around) (outer : List PySem.Env) (s : Shared) (H : Hp) (E : XK) (hr : RoomG k (A.deeper (envOfC "_law_due" (defScope st_l_due) s.heap.objs.size f cdv))) :
    PDSs (cxOf CX0 P w K mg base N_l_due "_law_due" (defScope st_l_due) f cdv A outer s H E).nox (defBody st_l_due) (d_l_due sp_l_take sp_l_thing) := by
  have nd := sc_l_due.nd
  exact pdss_cons (pds_setLc false 1 (own := [("_law_k", 2)]) rfl nd (pdi_range1 (by rfl) B.f_range (pda_cons (pd_op (opd_add false) (pd_int) (pd_callG D_l_take hr pass0 (pda_cons (pd_var 0) (pda_cons (pd_int) (pda_nil))))) (pda_nil))) (blkOk_by (N := N_l_due) (sc := (defScope st_l_due)) (own := [("_law_k", 2)]) (by decide +kernel)) (fun _ _ _ _ _ => pdg_name 2 nd) (fun _ _ _ _ _ => pdts_nil) (fun _ _ _ _ _ => pd_callG D_l_thing hr pass0 (pda_cons (pd_var 0) (pda_nil))))
    (pdss_cons (pds_set 3 nd (pd_callG D_l_take hr pass0 (pda_cons (pd_var 0) (pda_cons (pd_int) (pda_nil)))))
    (pdss_cons (pds_if (pdt_cmp (opd_eq hr.units) (pd_callG D_l_take hr pass0 (pda_cons (pd_var 0) (pda_cons (pd_int) (pda_nil)))) (pd_int)) (pdss_one (pds_set 3 nd (pd_op (opd_add false) (pd_int) (pd_callG D_l_take hr pass0 (pda_cons (pd_var 0) (pda_cons (pd_int) (pda_nil))))))) (pdss_nil))
    (pdss_cons (pds_set 4 nd (pd_lst true (pda_nil)))
    (pdss_cons (pds_for PassesOwn.never rfl (pdi_range1 (by rfl) B.f_range (pda_cons (pd_var 3) (pda_nil))) (pdg_name 2 nd) (pdss_cons (pds_set 5 nd (pd_callG D_l_take hr pass0 (pda_cons (pd_var 0) (pda_cons (pd_int) (pda_nil)))))
    (pdss_one (pds_if (pdt_cmp opd_lt (pd_var 5) (pd_int)) (pdss_one (pds_expr (pd_bm PySem.F.slot_list_append PySem.F.type_list_append md_append (pd_var 4) (pda_cons (pd_non) (pda_nil))))) (pdss_one (pds_if (pdt_cmp (opd_eq hr.units) (pd_var 5) (pd_int)) (pdss_one (pds_expr (pd_bm PySem.F.slot_list_append PySem.F.type_list_append md_append (pd_var 4) (pda_cons (pd_tup (pda_nil)) (pda_nil))))) (pdss_one (pds_if (pdt_w (pdw_and (pdt_cmp opd_lt (pd_var 5) (pd_int)) (pdw_and1 (pdt_cmp (opd_ne hr.units) (pd_var 4) (pd_lst false (pda_nil)))))) (pdss_one (pds_expr (pd_bm PySem.F.slot_list_append PySem.F.type_list_append md_append (pd_var 4) (pda_cons (pd_ix (pd_var 4) (pd_un und_neg (pd_int))) (pda_nil))))) (pdss_one (pds_expr (pd_bm PySem.F.slot_list_append PySem.F.type_list_append md_append (pd_var 4) (pda_cons (pd_ix (pd_var 1) (pd_callG D_l_take hr pass0 (pda_cons (pd_var 0) (pda_cons (pd_callB cd_len (by rfl) B.f_len bb_len (pda_cons (pd_var 1) (pda_nil))) (pda_nil))))) (pda_nil)))))))))))))
    (pdss_one (pds_ret (pd_var 4)))))))
/-! _law_least -/
abbrev st_l_least : Stmt := topS 12
abbrev N_l_least : List Str := ["_law_due_here", "_law_asked_rows", "_law_row", "_law_one", "_law_made", "_law_at"]
theorem sc_l_least : FnScope N_l_least ["_law_due_here"] (defScope st_l_least) := ⟨rfl, rfl, rfl, by decide +kernel, rfl, by decide +kernel, by decide +kernel⟩
def d_l_least : DS :=
    dSeq (dSet 1 (dLc false (diEnumA (dCons (dVar 0) (dNil))) (dgTup 2 (dgCons (dgName 2) (dgCons (dgName 3) (dgNil)))) (dB (dOp rdIsNot (dVar 3) (dC .non))) (dVar 2) [2, 3]))
    (dSeq (dSet 4 (dLst true (dNil)))
    (dSeq (dFor (diEnumA (dCons (dVar 1) (dNil))) (dgTup 2 (dgCons (dgName 5) (dgCons (dgName 2) (dgNil)))) (dSeq (dIfS (dB (dOp rdEq (dOp rdIx (dVar 0) (dVar 2)) (dTup (dNil)))) (dCont) (dNext))
    (dIfS (dAnd (dB (dOp (rdI0 fun i j => .bl (decide (j < i))) (dVar 5) (dC (.int 0)))) (dB (dOp rdEq (dOp rdIx (dVar 0) (dOp rdIx (dVar 1) (dOp (rdI0 fun i j => .int (i - j)) (dVar 5) (dC (.int 1))))) (dOp rdIx (dVar 0) (dVar 2))))) (dAsg (dTup (dCons (dOp rdIx (dOp rdIx (dVar 4) (dUn rdNeg (dC (.int 1)))) (dC (.int 0))) (dCons (dOp (rdAdd false) (dVar 2) (dC (.int 1))) (dCons (dOp rdIx (dVar 0) (dVar 2)) (dNil))))) (dgSub (dVar 4) (dUn rdNeg (dC (.int 1))))) (dDrop (dBM rdAppend (dVar 4) (dCons (dTup (dCons (dVar 2) (dCons (dOp (rdAdd false) (dVar 2) (dC (.int 1))) (dCons (dOp rdIx (dVar 0) (dVar 2)) (dNil))))) (dNil)))))))
    (dRet (dVar 4))))
theorem body_l_least (B : Bt mg) (C : Ct mg) {f : Addr} {k : Nat} (cdv : Value) (A : Around) (outer : List PySem.Env) (s : Shared) (H : Hp) (E : XK) (hr : RoomG k (A.deeper (envOfC "_law_least" (defScope st_l_least) s.heap.objs.size f cdv))) :
    PDSs (cxOf CX0 P w K mg base N_l_least "_law_least" (defScope st_l_least) f cdv A outer s H E).nox (defBody st_l_least) (d_l_least) := by
  have nd := sc_l_least.nd
  exact pdss_cons (pds_setLc false 1 (own := [("_law_row", 2), ("_law_one", 3)]) rfl nd (pdi_enumA (by rfl) B.f_enumerate (pda_cons (pd_var 0) (pda_nil))) (blkOk_by (N := N_l_least) (sc := (defScope st_l_least)) (own := [("_law_row", 2), ("_law_one", 3)]) (by decide +kernel)) (fun _ _ _ _ _ => pdg_tup rfl (pdgs_cons (pdg_name 2 nd) (pdgs_cons (pdg_name 3 nd) (pdgs_nil)))) (fun _ _ _ _ _ => pdts_one (pdt_cmp opd_isNot (pd_var 3) (pd_non))) (fun _ _ _ _ _ => pd_var 2))
    (pdss_cons (pds_set 4 nd (pd_lst true (pda_nil)))
    (pdss_cons (pds_for PassesOwn.never rfl (pdi_enumA (by rfl) B.f_enumerate (pda_cons (pd_var 1) (pda_nil))) (pdg_tup rfl (pdgs_cons (pdg_name 5 nd) (pdgs_cons (pdg_name 2 nd) (pdgs_nil)))) (pdss_cons (pds_if (pdt_cmp (opd_eq hr.units) (pd_ix (pd_var 0) (pd_var 2)) (pd_tup (pda_nil))) (pdss_one (pds_continue)) (pdss_nil))
    (pdss_one (pds_if (pdt_w (pdw_and (pdt_cmp opd_gt (pd_var 5) (pd_int)) (pdw_and1 (pdt_cmp (opd_eq hr.units) (pd_ix (pd_var 0) (pd_ix (pd_var 1) (pd_op opd_sub (pd_var 5) (pd_int)))) (pd_ix (pd_var 0) (pd_var 2)))))) (pdss_one (pds_asg (pd_tup (pda_cons (pd_ix (pd_ix (pd_var 4) (pd_un und_neg (pd_int))) (pd_int)) (pda_cons (pd_op (opd_add false) (pd_var 2) (pd_int)) (pda_cons (pd_ix (pd_var 0) (pd_var 2)) (pda_nil))))) (pdg_sub (pd_var 4) (pd_un und_neg (pd_int))))) (pdss_one (pds_expr (pd_bm PySem.F.slot_list_append PySem.F.type_list_append md_append (pd_var 4) (pda_cons (pd_tup (pda_cons (pd_var 2) (pda_cons (pd_op (opd_add false) (pd_var 2) (pd_int)) (pda_cons (pd_ix (pd_var 0) (pd_var 2)) (pda_nil))))) (pda_nil)))))))))
    (pdss_one (pds_ret (pd_var 4)))))
/-! _law_shows -/
abbrev st_l_shows : Stmt := topS 13
abbrev N_l_shows : List Str := ["_law_due_here", "_law_many", "_law_thing_here", "_law_row", "_law_one", "_law_other"]
theorem sc_l_shows : FnScope N_l_shows ["_law_due_here", "_law_many", "_law_thing_here"] (defScope st_l_shows) := ⟨rfl, rfl, rfl, by decide +kernel, rfl, by decide +kernel, by decide +kernel⟩
def d_l_shows : DS :=
    dSeq (dIfS (dOr (dNot (dTru (dIsi "list" (dVar 2)))) (dB (dOp rdNe (dCB rdLen (dCons (dVar 2) (dNil))) (dVar 1)))) (dRet (dC (.bl false))) (dNext))
    (dSeq (dFor (diSeq (dVar 2)) (dgName 3) (dIfS (dOr (dNot (dTru (dIsi "int" (dVar 3)))) (dOr (dTru (dIsi "bool" (dVar 3))) (dOr (dNot (dB (dChain (rdI0 fun i j => .bl (decide (i ≤ j))) (rdI0 fun i j => .bl (decide (i < j))) (dC (.int 0)) (dVar 3) (dCB rdLen (dCons (dVar 0) (dNil)))))) (dB (dOp (rdInT false) (dOp rdIx (dVar 0) (dVar 3)) (dTup (dCons (dC .non) (dCons (dTup (dNil)) (dNil))))))))) (dRet (dC (.bl false))) (dNext)))
    (dSeq (dFor (diZip (dCons (dVar 2) (dCons (dSl false (dVar 2) (dPart (dC (.int 1))) dNoPart) (dNil)))) (dgTup 2 (dgCons (dgName 4) (dgCons (dgName 5) (dgNil)))) (dSeq (dIfS (dB (dOp (rdI0 fun i j => .bl (decide (j ≤ i))) (dVar 4) (dVar 5))) (dRet (dC (.bl false))) (dNext))
    (dIfS (dB (dOp rdEq (dLc false (diRng2 (dCons (dVar 4) (dCons (dOp (rdAdd false) (dVar 5) (dC (.int 1))) (dNil)))) (dgName 3) (dB (dOp (rdInT true) (dOp rdIx (dVar 0) (dVar 3)) (dTup (dCons (dC .non) (dCons (dOp rdIx (dVar 0) (dVar 4)) (dNil)))))) (dVar 3) [3]) (dLst false (dNil)))) (dRet (dC (.bl false))) (dNext))))
    (dRet (dC (.bl true)))))
theorem body_l_shows (B : Bt mg) (C : Ct mg) {f : Addr} {k : Nat} (cdv : Value) (A : Around) (outer : List PySem.Env) (s : Shared) (H : Hp) (E : XK) (hr : RoomG k (A.deeper (envOfC "_law_shows" (defScope st_l_shows) s.heap.objs.size f cdv))) :
    PDSs (cxOf CX0 P w K mg base N_l_shows "_law_shows" (defScope st_l_shows) f cdv A outer s H E).nox (defBody st_l_shows) (d_l_shows) := by
  have nd := sc_l_shows.nd
  exact pdss_cons (pds_if (pdt_w (pdw_or (pdt_not (pdt_tru (pd_isi (pd_var 2) (by rfl) B.f_list (by rfl) B.f_isinstance))) (pdw_or1 (pdt_cmp (opd_ne hr.units) (pd_callB cd_len (by rfl) B.f_len bb_len (pda_cons (pd_var 2) (pda_nil))) (pd_var 1))))) (pdss_one (pds_ret (pd_bl))) (pdss_nil))
    (pdss_cons (pds_for PassesOwn.never rfl (pdi_seq (pd_var 2)) (pdg_name 3 nd) (pdss_one (pds_if (pdt_w (pdw_or (pdt_not (pdt_tru (pd_isi (pd_var 3) (by rfl) B.f_int (by rfl) B.f_isinstance))) (pdw_or (pdt_tru (pd_isi (pd_var 3) (by rfl) B.f_bool (by rfl) B.f_isinstance)) (pdw_or (pdt_not (pdt_chain opd_le opd_lt (pd_int) (pd_var 3) (pd_callB cd_len (by rfl) B.f_len bb_len (pda_cons (pd_var 0) (pda_nil))))) (pdw_or1 (pdt_cmp (opd_inT (room65 hr.rm)) (pd_ix (pd_var 0) (pd_var 3)) (pd_tup (pda_cons (pd_non) (pda_cons (pd_tup (pda_nil)) (pda_nil)))))))))) (pdss_one (pds_ret (pd_bl))) (pdss_nil))))
    (pdss_cons (pds_for PassesOwn.never rfl (pdi_zip (by rfl) B.f_zip (pda_cons (pd_var 2) (pda_cons (pd_sl false (pd_var 2) (pdo_some (pd_int)) pdo_none) (pda_nil)))) (pdg_tup rfl (pdgs_cons (pdg_name 4 nd) (pdgs_cons (pdg_name 5 nd) (pdgs_nil)))) (pdss_cons (pds_if (pdt_cmp opd_ge (pd_var 4) (pd_var 5)) (pdss_one (pds_ret (pd_bl))) (pdss_nil))
    (pdss_one (pds_if (pdt_cmp (opd_eq hr.units) (pd_lc false (own := [("_law_row", 3)]) rfl nd (pdi_range2 (by rfl) B.f_range (pda_cons (pd_var 4) (pda_cons (pd_op (opd_add false) (pd_var 5) (pd_int)) (pda_nil)))) (blkOk_by (N := N_l_shows) (sc := (defScope st_l_shows)) (own := [("_law_row", 3)]) (by decide +kernel)) (fun _ _ _ _ _ => pdg_name 3 nd) (fun _ _ _ _ _ => pdts_one (pdt_cmp (opd_notInT (room65 hr.rm)) (pd_ix (pd_var 0) (pd_var 3)) (pd_tup (pda_cons (pd_non) (pda_cons (pd_ix (pd_var 0) (pd_var 4)) (pda_nil)))))) (fun _ _ _ _ _ => pd_var 3)) (pd_lst false (pda_nil))) (pdss_one (pds_ret (pd_bl))) (pdss_nil)))))
    (pdss_one (pds_ret (pd_bl)))))
/-! _law_spots -/
abbrev st_l_spots : Stmt := topS 14
abbrev N_l_spots : List Str := ["_law_thing_here", "_law_found", "_law_at", "_law_one", "_law_spot"]
theorem sc_l_spots : FnScope N_l_spots ["_law_thing_here"] (defScope st_l_spots) := ⟨rfl, rfl, rfl, by decide +kernel, rfl, by decide +kernel, by decide +kernel⟩
def d_l_spots (sp_l_spots : DCall) : DS :=
    dSeq (dSet 1 (dLst true (dNil)))
    (dSeq (dIfS (dTru (dIsi2 "list" "tuple" (dVar 0))) (dFor (diEnumA (dCons (dVar 0) (dNil))) (dgTup 2 (dgCons (dgName 2) (dgCons (dgName 3) (dgNil)))) (dSeq (dDrop (dBM rdAppend (dVar 1) (dCons (dTup (dCons (dVar 2) (dNil))) (dNil))))
    (dDrop (dBM rdExtend (dVar 1) (dCons (dLc false (diSeq (dCall 1 sp_l_spots (dCons (dVar 3) (dNil)))) (dgName 4) (dYes) (dOp (rdAdd false) (dTup (dCons (dVar 2) (dNil))) (dVar 4)) [4]) (dNil)))))) (dNext))
    (dRet (dVar 1)))
theorem body_l_spots (B : Bt mg) (C : Ct mg) {f : Addr} {k : Nat} {sp_l_spots : DCall} (D_l_spots : DFnG P w K mg base "_law_spots" k 1 sp_l_spots) (cdv : Value) (A : Around) (outer : List PySem.Env) (s : Shared) (H : Hp) (E : XK) (hr : RoomG k (A.deeper (envOfC "_law_spots" (defScope st_l_spots) s.heap.objs.size f cdv))) :
    PDSs (cxOf CX0 P w K mg base N_l_spots "_law_spots" (defScope st_l_spots) f cdv A outer s H E).nox (defBody st_l_spots) (d_l_spots sp_l_spots) := by
  have nd := sc_l_spots.nd
  exact pdss_cons (pds_set 1 nd (pd_lst true (pda_nil)))
    (pdss_cons (pds_if (pdt_tru (pd_isi2 (pd_var 0) (by rfl) B.f_list (by rfl) B.f_tuple (by rfl) B.f_isinstance)) (pdss_one (pds_for PassesOwn.never rfl (pdi_enumA (by rfl) B.f_enumerate (pda_cons (pd_var 0) (pda_nil))) (pdg_tup rfl (pdgs_cons (pdg_name 2 nd) (pdgs_cons (pdg_name 3 nd) (pdgs_nil)))) (pdss_cons (pds_expr (pd_bm PySem.F.slot_list_append PySem.F.type_list_append md_append (pd_var 1) (pda_cons (pd_tup (pda_cons (pd_var 2) (pda_nil))) (pda_nil))))
    (pdss_one (pds_expr (pd_bm PySem.F.slot_list_extend PySem.F.type_list_extend md_extend (pd_var 1) (pda_cons (pd_lc false (own := [("_law_spot", 4)]) rfl nd (pdi_seq (pd_callG D_l_spots hr pass0 (pda_cons (pd_var 3) (pda_nil)))) (blkOk_by (N := N_l_spots) (sc := (defScope st_l_spots)) (own := [("_law_spot", 4)]) (by decide +kernel)) (fun _ _ _ _ _ => pdg_name 4 nd) (fun _ _ _ _ _ => pdts_nil) (fun _ _ _ _ _ => pd_op (opd_add false) (pd_tup (pda_cons (pd_var 2) (pda_nil))) (pd_var 4))) (pda_nil)))))))) (pdss_nil))
    (pdss_one (pds_ret (pd_var 1))))
/-! _law_as -/
abbrev st_l_as : Stmt := topS 15
abbrev N_l_as : List Str := ["_law_thing_here", "_law_inner"]
theorem sc_l_as : FnScope N_l_as ["_law_thing_here", "_law_inner"] (defScope st_l_as) := ⟨rfl, rfl, rfl, by decide +kernel, rfl, by decide +kernel, by decide +kernel⟩
def d_l_as : DS :=
    dRet (dIf (dTru (dIsi "tuple" (dVar 0))) (dCB rdTuple (dCons (dVar 1) (dNil))) (dVar 1))
theorem body_l_as (B : Bt mg) (C : Ct mg) {f : Addr} {k : Nat} (cdv : Value) (A : Around) (outer : List PySem.Env) (s : Shared) (H : Hp) (E : XK) (hr : RoomG k (A.deeper (envOfC "_law_as" (defScope st_l_as) s.heap.objs.size f cdv))) :
    PDSs (cxOf CX0 P w K mg base N_l_as "_law_as" (defScope st_l_as) f cdv A outer s H E).nox (defBody st_l_as) (d_l_as) := by
  have nd := sc_l_as.nd
  exact pdss_one (pds_ret (pd_ifExp (pdt_tru (pd_isi (pd_var 0) (by rfl) B.f_tuple (by rfl) B.f_isinstance)) (pd_callTy cd_tuple (by rfl) B.f_tuple bb_tuple (pda_cons (pd_var 1) (pda_nil))) (pd_var 1)))
/-! _law_step_of_many -/
abbrev st_l_step_of_many : Stmt := topS 16
abbrev N_l_step_of_many : List Str := ["_law_tape_here", "_law_thing_here", "_law_inner", "_law_at", "_law_way", "_law_more"]
theorem sc_l_step_of_many : FnScope N_l_step_of_many ["_law_tape_here", "_law_thing_here"] (defScope st_l_step_of_many) := ⟨rfl, rfl, rfl, by decide +kernel, rfl, by decide +kernel, by decide +kernel⟩
def d_l_step_of_many_t1 (sp_l_take : DCall) (sp_l_as : DCall) : DS :=
    dSeq (dIfS (dB (dOp (rdI0 fun i j => .bl (decide (i < j))) (dVar 4) (dC (.int 2)))) (dRet (dCall 2 sp_l_as (dCons (dVar 1) (dCons (dOp (rdAdd false) (dSl false (dVar 2) dNoPart (dPart (dVar 3))) (dSl false (dVar 2) (dPart (dOp (rdAdd false) (dVar 3) (dC (.int 1)))) dNoPart)) (dNil))))) (dNext))
    (dSeq (dIfS (dB (dOp rdEq (dVar 4) (dC (.int 2)))) (dRet (dCall 2 sp_l_as (dCons (dVar 1) (dCons (dOp (rdAdd false) (dOp (rdAdd false) (dSl false (dVar 2) dNoPart (dPart (dVar 3))) (dSl false (dVar 2) (dPart (dVar 3)) (dPart (dOp (rdAdd false) (dVar 3) (dC (.int 1)))))) (dSl false (dVar 2) (dPart (dVar 3)) dNoPart)) (dNil))))) (dNext))
    (dSeq (dIfS (dB (dOp rdEq (dVar 4) (dC (.int 3)))) (dRet (dCall 2 sp_l_as (dCons (dVar 1) (dCons (dRev false (dVar 2)) (dNil))))) (dNext))
    (dSeq (dIfS (dB (dOp rdEq (dVar 4) (dC (.int 4)))) (dRet (dIf (dTru (dIsi "tuple" (dVar 1))) (dVar 2) (dCB rdTuple (dCons (dVar 2) (dNil))))) (dNext))
    (dSeq (dIfS (dB (dOp (rdI0 fun i j => .bl (decide (i < j))) (dVar 4) (dC (.int 7)))) (dRet (dCall 2 sp_l_as (dCons (dVar 1) (dCons (dOp (rdAdd false) (dOp (rdAdd false) (dSl false (dVar 2) dNoPart (dPart (dVar 3))) (dLst false (dCons (dVar 5) (dNil)))) (dSl false (dVar 2) (dPart (dVar 3)) dNoPart)) (dNil))))) (dNext))
    (dRet (dOp rdIx (dLst false (dCons (dTup (dNil)) (dCons (dC .non) (dNil)))) (dOp (rdI0 fun i j => .int (i - j)) (dVar 4) (dC (.int 7)))))))))
def d_l_step_of_many (sp_l_take : DCall) (sp_l_as : DCall) : DS :=
    dSeq (dSet 2 (dCB (rdList false) (dCons (dVar 1) (dNil))))
    (dSeq (dSet 3 (dCall 2 sp_l_take (dCons (dVar 0) (dCons (dOp (rdAdd false) (dCB rdLen (dCons (dVar 2) (dNil))) (dC (.int 1))) (dNil)))))
    (dSeq (dSet 4 (dCall 2 sp_l_take (dCons (dVar 0) (dCons (dC (.int 9)) (dNil)))))
    (dSeq (dSet 5 (dOp rdIx (dLst false (dCons (dC (.int 0)) (dCons (dC (.int 1)) (dCons (dC .non) (dCons (dC (.bl true)) (dCons (dTup (dNil)) (dCons (dIf (dB (dOp rdNe (dVar 2) (dLst false (dNil)))) (dOp rdIx (dVar 2) (dUn rdNeg (dC (.int 1)))) (dUn rdNeg (dC (.int 1)))) (dNil)))))))) (dCall 2 sp_l_take (dCons (dVar 0) (dCons (dC (.int 6)) (dNil))))))
    ((d_l_step_of_many_t1 sp_l_take sp_l_as)))))
theorem body_l_step_of_many (B : Bt mg) (C : Ct mg) {f : Addr} {k : Nat} {sp_l_take : DCall} (D_l_take : DFnG P w K mg base "_law_take" k 2 sp_l_take) {sp_l_as : DCall} (D_l_as : DFnG P w K mg base "_law_as" k 2 sp_l_as) (cdv : Value) (A : Around) (outer : List PySem.Env) (s : Shared) (H : Hp) (E : XK) (hr : RoomG k (A.deeper (envOfC "_law_step_of_many" (defScope st_l_step_of_many) s.heap.objs.size f cdv))) :
    PDSs (cxOf CX0 P w K mg base N_l_step_of_many "_law_step_of_many" (defScope st_l_step_of_many) f cdv A outer s H E).nox (defBody st_l_step_of_many) (d_l_step_of_many sp_l_take sp_l_as) := by
  have nd := sc_l_step_of_many.nd
  exact pdss_cons (pds_set 2 nd (pd_callTy (cd_list false) (by rfl) B.f_list bb_list (pda_cons (pd_var 1) (pda_nil))))
    (pdss_cons (pds_set 3 nd (pd_callG D_l_take hr pass0 (pda_cons (pd_var 0) (pda_cons (pd_op (opd_add false) (pd_callB cd_len (by rfl) B.f_len bb_len (pda_cons (pd_var 2) (pda_nil))) (pd_int)) (pda_nil)))))
    (pdss_cons (pds_set 4 nd (pd_callG D_l_take hr pass0 (pda_cons (pd_var 0) (pda_cons (pd_int) (pda_nil)))))
    (pdss_cons (pds_set 5 nd (pd_ix (pd_lst false (pda_cons (pd_int) (pda_cons (pd_int) (pda_cons (pd_non) (pda_cons (pd_bl) (pda_cons (pd_tup (pda_nil)) (pda_cons (pd_ifExp (pdt_cmp (opd_ne hr.units) (pd_var 2) (pd_lst false (pda_nil))) (pd_ix (pd_var 2) (pd_un und_neg (pd_int))) (pd_un und_neg (pd_int))) (pda_nil)))))))) (pd_callG D_l_take hr pass0 (pda_cons (pd_var 0) (pda_cons (pd_int) (pda_nil))))))
    (pdss_cons (pds_if (pdt_cmp opd_lt (pd_var 4) (pd_int)) (pdss_one (pds_ret (pd_callG D_l_as hr pass0 (pda_cons (pd_var 1) (pda_cons (pd_op (opd_add false) (pd_sl false (pd_var 2) pdo_none (pdo_some (pd_var 3))) (pd_sl false (pd_var 2) (pdo_some (pd_op (opd_add false) (pd_var 3) (pd_int))) pdo_none)) (pda_nil)))))) (pdss_nil))
    (pdss_cons (pds_if (pdt_cmp (opd_eq hr.units) (pd_var 4) (pd_int)) (pdss_one (pds_ret (pd_callG D_l_as hr pass0 (pda_cons (pd_var 1) (pda_cons (pd_op (opd_add false) (pd_op (opd_add false) (pd_sl false (pd_var 2) pdo_none (pdo_some (pd_var 3))) (pd_sl false (pd_var 2) (pdo_some (pd_var 3)) (pdo_some (pd_op (opd_add false) (pd_var 3) (pd_int))))) (pd_sl false (pd_var 2) (pdo_some (pd_var 3)) pdo_none)) (pda_nil)))))) (pdss_nil))
    (pdss_cons (pds_if (pdt_cmp (opd_eq hr.units) (pd_var 4) (pd_int)) (pdss_one (pds_ret (pd_callG D_l_as hr pass0 (pda_cons (pd_var 1) (pda_cons (pd_rev false (pd_var 2)) (pda_nil)))))) (pdss_nil))
    (pdss_cons (pds_if (pdt_cmp (opd_eq hr.units) (pd_var 4) (pd_int)) (pdss_one (pds_ret (pd_ifExp (pdt_tru (pd_isi (pd_var 1) (by rfl) B.f_tuple (by rfl) B.f_isinstance)) (pd_var 2) (pd_callTy cd_tuple (by rfl) B.f_tuple bb_tuple (pda_cons (pd_var 2) (pda_nil)))))) (pdss_nil))
    (pdss_cons (pds_if (pdt_cmp opd_lt (pd_var 4) (pd_int)) (pdss_one (pds_ret (pd_callG D_l_as hr pass0 (pda_cons (pd_var 1) (pda_cons (pd_op (opd_add false) (pd_op (opd_add false) (pd_sl false (pd_var 2) pdo_none (pdo_some (pd_var 3))) (pd_lst false (pda_cons (pd_var 5) (pda_nil)))) (pd_sl false (pd_var 2) (pdo_some (pd_var 3)) pdo_none)) (pda_nil)))))) (pdss_nil))
    (pdss_one (pds_ret (pd_ix (pd_lst false (pda_cons (pd_tup (pda_nil)) (pda_cons (pd_non) (pda_nil)))) (pd_op opd_sub (pd_var 4) (pd_int)))))))))))))
/-! _law_step -/
abbrev st_l_step : Stmt := topS 17
abbrev N_l_step : List Str := ["_law_tape_here", "_law_thing_here", "_law_way", "_law_at", "_law_some"]
theorem sc_l_step : FnScope N_l_step ["_law_tape_here", "_law_thing_here"] (defScope st_l_step) := ⟨rfl, rfl, rfl, by decide +kernel, rfl, by decide +kernel, by decide +kernel⟩
def d_l_step (sp_l_step_of_many : DCall) (sp_l_take : DCall) : DS :=
    dSeq (dIfS (dTru (dIsi2 "list" "tuple" (dVar 1))) (dRet (dCall 2 sp_l_step_of_many (dCons (dVar 0) (dCons (dVar 1) (dNil))))) (dNext))
    (dSeq (dSet 2 (dCall 2 sp_l_take (dCons (dVar 0) (dCons (dC (.int 9)) (dNil)))))
    (dSeq (dIfS (dTru (dIsi "str" (dVar 1))) (dSeq (dSet 3 (dCall 2 sp_l_take (dCons (dVar 0) (dCons (dOp (rdAdd false) (dCB rdLen (dCons (dVar 1) (dNil))) (dC (.int 1))) (dNil)))))
    (dSeq (dSet 4 (dLst false (dCons (dOp (rdAdd false) (dOp (rdAdd false) (dSlT (dVar 1) dNoPart (dPart (dVar 3))) (dC (.str "0"))) (dSlT (dVar 1) (dPart (dOp (rdAdd false) (dVar 3) (dC (.int 1)))) dNoPart)) (dCons (dOp (rdAdd false) (dOp (rdAdd false) (dSlT (dVar 1) dNoPart (dPart (dVar 3))) (dC (.str "1"))) (dSlT (dVar 1) (dPart (dOp (rdAdd false) (dVar 3) (dC (.int 1)))) dNoPart)) (dCons (dOp (rdAdd false) (dOp (rdAdd false) (dSlT (dVar 1) dNoPart (dPart (dVar 3))) (dC (.str "1"))) (dSlT (dVar 1) (dPart (dVar 3)) dNoPart)) (dNil))))))
    (dSeq (dSet 4 (dOp (rdAdd false) (dVar 4) (dLst false (dCons (dOp (rdAdd false) (dSlT (dVar 1) dNoPart (dPart (dVar 3))) (dSlT (dVar 1) (dPart (dOp (rdAdd false) (dVar 3) (dC (.int 1)))) dNoPart)) (dCons (dOp (rdAdd false) (dOp (rdAdd false) (dSlT (dVar 1) dNoPart (dPart (dVar 3))) (dC (.str "2"))) (dSlT (dVar 1) (dPart (dOp (rdAdd false) (dVar 3) (dC (.int 1)))) dNoPart)) (dCons (dC (.str "")) (dCons (dC .non) (dCons (dC (.int 0)) (dCons (dTup (dCons (dVar 1) (dNil))) (dNil))))))))))
    (dRet (dOp rdIx (dVar 4) (dVar 2)))))) (dNext))
    (dSeq (dIfS (dAnd (dTru (dIsi "int" (dVar 1))) (dNot (dTru (dIsi "bool" (dVar 1))))) (dRet (dOp rdIx (dLst false (dCons (dOp (rdAdd false) (dVar 1) (dC (.int 1))) (dCons (dOp (rdI0 fun i j => .int (i - j)) (dVar 1) (dC (.int 1))) (dCons (dOp (rdI0 fun i j => .int (i - j)) (dC (.int 0)) (dVar 1)) (dCons (dOp (rdMul false) (dC (.int 2)) (dVar 1)) (dCons (dC (.bl true)) (dCons (dC .non) (dCons (dCB rdStr (dCons (dVar 1) (dNil))) (dCons (dLst false (dCons (dVar 1) (dNil))) (dCons (dC (.bl false)) (dNil))))))))))) (dVar 2))) (dNext))
    (dRet (dOp rdIx (dLst false (dCons (dC (.int 0)) (dCons (dC (.int 1)) (dCons (dTup (dNil)) (dCons (dC (.str "")) (dCons (dC .non) (dCons (dC (.bl true)) (dCons (dC (.bl false)) (dCons (dLst false (dNil)) (dCons (dC (.int 2)) (dNil))))))))))) (dVar 2))))))
theorem body_l_step (B : Bt mg) (C : Ct mg) {f : Addr} {k : Nat} {sp_l_step_of_many : DCall} (D_l_step_of_many : DFnG P w K mg base "_law_step_of_many" k 2 sp_l_step_of_many) {sp_l_take : DCall} (D_l_take : DFnG P w K mg base "_law_take" k 2 sp_l_take) (cdv : Value) (A : Around) (outer : List PySem.Env) (s : Shared) (H : Hp) (E : XK) (hr : RoomG k (A.deeper (envOfC "_law_step" (defScope st_l_step) s.heap.objs.size f cdv))) :
    PDSs (cxOf CX0 P w K mg base N_l_step "_law_step" (defScope st_l_step) f cdv A outer s H E).nox (defBody st_l_step) (d_l_step sp_l_step_of_many sp_l_take) := by
  have nd := sc_l_step.nd
  exact pdss_cons (pds_if (pdt_tru (pd_isi2 (pd_var 1) (by rfl) B.f_list (by rfl) B.f_tuple (by rfl) B.f_isinstance)) (pdss_one (pds_ret (pd_callG D_l_step_of_many hr pass0 (pda_cons (pd_var 0) (pda_cons (pd_var 1) (pda_nil)))))) (pdss_nil))
    (pdss_cons (pds_set 2 nd (pd_callG D_l_take hr pass0 (pda_cons (pd_var 0) (pda_cons (pd_int) (pda_nil)))))
    (pdss_cons (pds_if (pdt_tru (pd_isi (pd_var 1) (by rfl) B.f_str (by rfl) B.f_isinstance)) (pdss_cons (pds_set 3 nd (pd_callG D_l_take hr pass0 (pda_cons (pd_var 0) (pda_cons (pd_op (opd_add false) (pd_callB cd_len (by rfl) B.f_len bb_len (pda_cons (pd_var 1) (pda_nil))) (pd_int)) (pda_nil)))))
    (pdss_cons (pds_set 4 nd (pd_lst false (pda_cons (pd_op (opd_add false) (pd_op (opd_add false) (pd_slT (pd_var 1) pdo_none (pdo_some (pd_var 3))) (pd_str)) (pd_slT (pd_var 1) (pdo_some (pd_op (opd_add false) (pd_var 3) (pd_int))) pdo_none)) (pda_cons (pd_op (opd_add false) (pd_op (opd_add false) (pd_slT (pd_var 1) pdo_none (pdo_some (pd_var 3))) (pd_str)) (pd_slT (pd_var 1) (pdo_some (pd_op (opd_add false) (pd_var 3) (pd_int))) pdo_none)) (pda_cons (pd_op (opd_add false) (pd_op (opd_add false) (pd_slT (pd_var 1) pdo_none (pdo_some (pd_var 3))) (pd_str)) (pd_slT (pd_var 1) (pdo_some (pd_var 3)) pdo_none)) (pda_nil))))))
    (pdss_cons (pds_set 4 nd (pd_op (opd_add false) (pd_var 4) (pd_lst false (pda_cons (pd_op (opd_add false) (pd_slT (pd_var 1) pdo_none (pdo_some (pd_var 3))) (pd_slT (pd_var 1) (pdo_some (pd_op (opd_add false) (pd_var 3) (pd_int))) pdo_none)) (pda_cons (pd_op (opd_add false) (pd_op (opd_add false) (pd_slT (pd_var 1) pdo_none (pdo_some (pd_var 3))) (pd_str)) (pd_slT (pd_var 1) (pdo_some (pd_op (opd_add false) (pd_var 3) (pd_int))) pdo_none)) (pda_cons (pd_str) (pda_cons (pd_non) (pda_cons (pd_int) (pda_cons (pd_tup (pda_cons (pd_var 1) (pda_nil))) (pda_nil))))))))))
    (pdss_one (pds_ret (pd_ix (pd_var 4) (pd_var 2))))))) (pdss_nil))
    (pdss_cons (pds_if (pdt_w (pdw_and (pdt_tru (pd_isi (pd_var 1) (by rfl) B.f_int (by rfl) B.f_isinstance)) (pdw_and1 (pdt_not (pdt_tru (pd_isi (pd_var 1) (by rfl) B.f_bool (by rfl) B.f_isinstance)))))) (pdss_one (pds_ret (pd_ix (pd_lst false (pda_cons (pd_op (opd_add false) (pd_var 1) (pd_int)) (pda_cons (pd_op opd_sub (pd_var 1) (pd_int)) (pda_cons (pd_op opd_sub (pd_int) (pd_var 1)) (pda_cons (pd_op (opd_mul false) (pd_int) (pd_var 1)) (pda_cons (pd_bl) (pda_cons (pd_non) (pda_cons (pd_callTy cd_str (by rfl) B.f_str bb_str (pda_cons (pd_var 1) (pda_nil))) (pda_cons (pd_lst false (pda_cons (pd_var 1) (pda_nil))) (pda_cons (pd_bl) (pda_nil))))))))))) (pd_var 2)))) (pdss_nil))
    (pdss_one (pds_ret (pd_ix (pd_lst false (pda_cons (pd_int) (pda_cons (pd_int) (pda_cons (pd_tup (pda_nil)) (pda_cons (pd_str) (pda_cons (pd_non) (pda_cons (pd_bl) (pda_cons (pd_bl) (pda_cons (pd_lst false (pda_nil)) (pda_cons (pd_int) (pda_nil))))))))))) (pd_var 2)))))))
/-! _law_bent_at -/
abbrev st_l_bent_at : Stmt := topS 18
abbrev N_l_bent_at : List Str := ["_law_tape_here", "_law_thing_here", "_law_spot", "_law_inner"]
theorem sc_l_bent_at : FnScope N_l_bent_at ["_law_tape_here", "_law_thing_here", "_law_spot"] (defScope st_l_bent_at) := ⟨rfl, rfl, rfl, by decide +kernel, rfl, by decide +kernel, by decide +kernel⟩
def d_l_bent_at (sp_l_step : DCall) (sp_l_bent_at : DCall) (sp_l_as : DCall) : DS :=
    dSeq (dIfS (dB (dOp rdEq (dVar 2) (dTup (dNil)))) (dRet (dCall 2 sp_l_step (dCons (dVar 0) (dCons (dVar 1) (dNil))))) (dNext))
    (dSeq (dSet 3 (dCB (rdList true) (dCons (dVar 1) (dNil))))
    (dSeq (dAsg (dCall 3 sp_l_bent_at (dCons (dVar 0) (dCons (dOp rdIx (dVar 3) (dOp rdIx (dVar 2) (dC (.int 0)))) (dCons (dSl false (dVar 2) (dPart (dC (.int 1))) dNoPart) (dNil))))) (dgSub (dVar 3) (dOp rdIx (dVar 2) (dC (.int 0)))))
    (dRet (dCall 2 sp_l_as (dCons (dVar 1) (dCons (dVar 3) (dNil)))))))
theorem body_l_bent_at (B : Bt mg) (C : Ct mg) {f : Addr} {k : Nat} {sp_l_step : DCall} (D_l_step : DFnG P w K mg base "_law_step" k 2 sp_l_step) {sp_l_bent_at : DCall} (D_l_bent_at : DFnG P w K mg base "_law_bent_at" k 3 sp_l_bent_at) {sp_l_as : DCall} (D_l_as : DFnG P w K mg base "_law_as" k 2 sp_l_as) (cdv : Value) (A : Around) (outer : List PySem.Env) (s : Shared) (H : Hp) (E : XK) (hr : RoomG k (A.deeper (envOfC "_law_bent_at" (defScope st_l_bent_at) s.heap.objs.size f cdv))) :
    PDSs (cxOf CX0 P w K mg base N_l_bent_at "_law_bent_at" (defScope st_l_bent_at) f cdv A outer s H E).nox (defBody st_l_bent_at) (d_l_bent_at sp_l_step sp_l_bent_at sp_l_as) := by
  have nd := sc_l_bent_at.nd
  exact pdss_cons (pds_if (pdt_cmp (opd_eq hr.units) (pd_var 2) (pd_tup (pda_nil))) (pdss_one (pds_ret (pd_callG D_l_step hr pass0 (pda_cons (pd_var 0) (pda_cons (pd_var 1) (pda_nil)))))) (pdss_nil))
    (pdss_cons (pds_set 3 nd (pd_callTy (cd_list true) (by rfl) B.f_list bb_list (pda_cons (pd_var 1) (pda_nil))))
    (pdss_cons (pds_asg (pd_callG D_l_bent_at hr pass0 (pda_cons (pd_var 0) (pda_cons (pd_ix (pd_var 3) (pd_ix (pd_var 2) (pd_int))) (pda_cons (pd_sl false (pd_var 2) (pdo_some (pd_int)) pdo_none) (pda_nil))))) (pdg_sub (pd_var 3) (pd_ix (pd_var 2) (pd_int))))
    (pdss_one (pds_ret (pd_callG D_l_as hr pass0 (pda_cons (pd_var 1) (pda_cons (pd_var 3) (pda_nil))))))))
/-! _law_bent -/
abbrev st_l_bent : Stmt := topS 19
abbrev N_l_bent : List Str := ["_law_tape_here", "_law_handed", "_law_found", "_law_turn", "_law_spots_here"]
theorem sc_l_bent : FnScope N_l_bent ["_law_tape_here", "_law_handed"] (defScope st_l_bent) := ⟨rfl, rfl, rfl, by decide +kernel, rfl, by decide +kernel, by decide +kernel⟩
def d_l_bent (sp_l_take : DCall) (sp_l_spots : DCall) (sp_l_bent_at : DCall) : DS :=
    dSeq (dSet 2 (dCB (rdList false) (dCons (dVar 1) (dNil))))
    (dSeq (dFor (diRng1 (dCons (dOp (rdAdd false) (dC (.int 1)) (dCB rdInt (dCons (dOp rdEq (dCall 2 sp_l_take (dCons (dVar 0) (dCons (dC (.int 4)) (dNil)))) (dC (.int 0))) (dNil)))) (dNil))) (dgName 3) (dSeq (dSet 4 (dCall 1 sp_l_spots (dCons (dVar 2) (dNil))))
    (dSet 2 (dCall 3 sp_l_bent_at (dCons (dVar 0) (dCons (dVar 2) (dCons (dOp rdIx (dVar 4) (dCall 2 sp_l_take (dCons (dVar 0) (dCons (dCB rdLen (dCons (dVar 4) (dNil))) (dNil))))) (dNil))))))))
    (dRet (dVar 2)))
theorem body_l_bent (B : Bt mg) (C : Ct mg) {f : Addr} {k : Nat} {sp_l_take : DCall} (D_l_take : DFnG P w K mg base "_law_take" k 2 sp_l_take) {sp_l_spots : DCall} (D_l_spots : DFnG P w K mg base "_law_spots" k 1 sp_l_spots) {sp_l_bent_at : DCall} (D_l_bent_at : DFnG P w K mg base "_law_bent_at" k 3 sp_l_bent_at) (cdv : Value) (A : Around) (outer : List PySem.Env) (s : Shared) (H : Hp) (E : XK) (hr : RoomG k (A.deeper (envOfC "_law_bent" (defScope st_l_bent) s.heap.objs.size f cdv))) :
    PDSs (cxOf CX0 P w K mg base N_l_bent "_law_bent" (defScope st_l_bent) f cdv A outer s H E).nox (defBody st_l_bent) (d_l_bent sp_l_take sp_l_spots sp_l_bent_at) := by
  have nd := sc_l_bent.nd
  exact pdss_cons (pds_set 2 nd (pd_callTy (cd_list false) (by rfl) B.f_list bb_list (pda_cons (pd_var 1) (pda_nil))))
    (pdss_cons (pds_for PassesOwn.never rfl (pdi_range1 (by rfl) B.f_range (pda_cons (pd_op (opd_add false) (pd_int) (pd_callTy cd_int (by rfl) B.f_int bb_int (pda_cons (pd_cmp (opd_eq hr.units) (pd_callG D_l_take hr pass0 (pda_cons (pd_var 0) (pda_cons (pd_int) (pda_nil)))) (pd_int)) (pda_nil)))) (pda_nil))) (pdg_name 3 nd) (pdss_cons (pds_set 4 nd (pd_callG D_l_spots hr pass0 (pda_cons (pd_var 2) (pda_nil))))
    (pdss_one (pds_set 2 nd (pd_callG D_l_bent_at hr pass0 (pda_cons (pd_var 0) (pda_cons (pd_var 2) (pda_cons (pd_ix (pd_var 4) (pd_callG D_l_take hr pass0 (pda_cons (pd_var 0) (pda_cons (pd_callB cd_len (by rfl) B.f_len bb_len (pda_cons (pd_var 4) (pda_nil))) (pda_nil))))) (pda_nil)))))))))
    (pdss_one (pds_ret (pd_var 2))))
/-! _law_right -/
abbrev st_l_right : Stmt := topS 20
abbrev N_l_right : List Str := ["_law_tape_here", "_law_ask", "_law_due_here", "_law_handed", "_law_turn", "_law_some", "_law_before", "_law_found"]
theorem sc_l_right : FnScope N_l_right ["_law_tape_here", "_law_ask", "_law_due_here", "_law_handed"] (defScope st_l_right) := ⟨rfl, rfl, rfl, by decide +kernel, rfl, by decide +kernel, by decide +kernel⟩
def d_l_right (sp_l_bent : DCall) (sp_LAM : LamT → DCall) : DS :=
    dSeq (dFor (diRng1 (dCons (dC (.int 9)) (dNil))) (dgName 4) (dSeq (dSet 5 (dIf (dB (dOp rdEq (dVar 4) (dC (.int 0)))) (dCB (rdList false) (dCons (dVar 3) (dNil))) (dCall 2 sp_l_bent (dCons (dVar 0) (dCons (dVar 3) (dNil))))))
    (dSeq (dSet 6 (dCB rdRepr (dCons (dVar 5) (dNil))))
    (dSeq (dSet 7 (dCallV 1 1 sp_LAM (dCons (dVar 5) (dNil))))
    (dIfS (dOr (dNot (dTru (dIsi "bool" (dVar 7)))) (dOr (dB (dOp rdNe (dVar 7) (dCallV 2 1 sp_LAM (dCons (dVar 5) (dNil))))) (dB (dOp rdNeS (dCB rdRepr (dCons (dVar 5) (dNil))) (dVar 6))))) (dRet (dC (.bl false))) (dNext))))))
    (dRet (dC (.bl true)))
theorem body_l_right (B : Bt mg) (C : Ct mg) {f : Addr} {k : Nat} {sp_l_bent : DCall} (D_l_bent : DFnG P w K mg base "_law_bent" k 2 sp_l_bent) {sp_LAM : LamT → DCall} (cdv : Value) (A : Around) (outer : List PySem.Env) (s : Shared) (H : Hp) (E : XK) [anc : Anc] (D_LAM : ∀ L, LamHere (cxOf CX0 P w K mg base N_l_right "_law_right" (defScope st_l_right) f cdv A outer s H E).nox k 1 L (sp_LAM L)) (hr : RoomG k (A.deeper (envOfC "_law_right" (defScope st_l_right) s.heap.objs.size f cdv))) :
    PDSs (cxOf CX0 P w K mg base N_l_right "_law_right" (defScope st_l_right) f cdv A outer s H E).nox (defBody st_l_right) (d_l_right sp_l_bent sp_LAM) := by
  have nd := sc_l_right.nd
  exact pdss_cons (pds_for PassesOwn.never rfl (pdi_range1 (by rfl) B.f_range (pda_cons (pd_int) (pda_nil))) (pdg_name 4 nd) (pdss_cons (pds_set 5 nd (pd_ifExp (pdt_cmp (opd_eq hr.units) (pd_var 4) (pd_int)) (pd_callTy (cd_list false) (by rfl) B.f_list bb_list (pda_cons (pd_var 3) (pda_nil))) (pd_callG D_l_bent hr pass0 (pda_cons (pd_var 0) (pda_cons (pd_var 3) (pda_nil))))))
    (pdss_cons (pds_set 6 nd (pd_callB (cd_repr hr) (by rfl) B.f_repr bb_repr (pda_cons (pd_var 5) (pda_nil))))
    (pdss_cons (pds_set 7 nd (pd_callH D_LAM hr 1 (pda_cons (pd_var 5) (pda_nil))))
    (pdss_one (pds_if (pdt_w (pdw_or (pdt_not (pdt_tru (pd_isi (pd_var 7) (by rfl) B.f_bool (by rfl) B.f_isinstance))) (pdw_or (pdt_cmp (opd_ne hr.units) (pd_var 7) (pd_callH D_LAM hr 2 (pda_cons (pd_var 5) (pda_nil)))) (pdw_or1 (pdt_cmp opd_neS (pd_callB (cd_repr hr) (by rfl) B.f_repr bb_repr (pda_cons (pd_var 5) (pda_nil))) (pd_var 6)))))) (pdss_one (pds_ret (pd_bl))) (pdss_nil)))))))
    (pdss_one (pds_ret (pd_bl)))
/-! law -/
abbrev st_law : Stmt := topS 21
abbrev N_law : List Str := ["_law_script", "_law_k", "_law_tape_here", "_law_due_here", "_law_table", "_law_paper", "_law_begin", "_law_end", "_law_thing_here", "_law_ask", "_law_check", "_law_own", "_law_one", "_law_odd", "_law_told"]
theorem sc_law : FnScope N_law ["_law_script"] (defScope st_law) := ⟨rfl, rfl, rfl, by decide +kernel, rfl, by decide +kernel, by decide +kernel⟩
abbrev lam_law_1 (cells : List (Str × Addr)) : LamT := match (defBody st_law).getD 0 (.Pass ⟨0, 0, 0, 0⟩) with | (.For _ _ [_, _, _, _, (.Assign _ (.Lambda ar bo sc _) _), _, _, _, _, _] _ _) => ⟨(envOfC "law" (defScope st_law) 0 0 .none).qual ++ "<lambda>", ar, bo, sc, cloFrom cells sc.names []⟩ | _ => ⟨"", defArgs st_law, .Constant .none 0 ⟨0, 0, 0, 0⟩, defScope st_law, []⟩
abbrev N_lam_law_1 : List Str := ["_law_some", "_law_due_here", "_law_table"]
theorem sc_lam_law_1 {cells : List (Str × Addr)} : NdefX.NScope N_lam_law_1 ["_law_some"] ["_law_due_here", "_law_table"] (lam_law_1 cells).sc := NdefX.nscope_by (sc := (lam_law_1 []).sc) (by decide +kernel)
theorem free_lam_law_1 : ∀ y ∈ (lam_law_1 []).sc.names, y.2 = NameKind.free → (defScope st_law).names.lookup y.1 = some .cell ∨ (defScope st_law).names.lookup y.1 = some .free := by decide +kernel
theorem frk_lam_law_1 : ∀ y ∈ (["_law_due_here", "_law_table"] : List Str), (y, NameKind.free) ∈ (lam_law_1 []).sc.names := by decide +kernel
def d_lam_law_1 (sp_shows_least : DCall) : DE :=
    dCall 3 sp_shows_least (dCons (dVar 1) (dCons (dVar 2) (dCons (dOp rdIx (dVar 0) (dC (.int 0))) (dNil))))
theorem body_lam_law_1 (B : Bt mg) (C : Ct mg) {k : Nat} {sp_shows_least : DCall} (D_shows_least : DFnG P w K mg base "shows_least" k 3 sp_shows_least) (cells : List (Str × Addr)) (f c : Addr) (A : Around) (outer : List PySem.Env) (s : Shared) (H : Hp) (E : XK) (hr : RoomG k (A.deeper (NdefX.envF ((lam_law_1 cells).nf c) f s.heap.objs.size))) :
    PD (NdefX.ncx CX0 P w K mg base N_lam_law_1 ((lam_law_1 cells).nf c) f A outer s H E).nox (lam_law_1 cells).bd (d_lam_law_1 sp_shows_least) := by
  exact pd_callG D_shows_least hr pass0 (pda_cons (pd_var 1) (pda_cons (pd_var 2) (pda_cons (pd_ix (pd_var 0) (pd_int)) (pda_nil))))
abbrev lam_law_2 (cells : List (Str × Addr)) : LamT := match (defBody st_law).getD 0 (.Pass ⟨0, 0, 0, 0⟩) with | (.For _ _ [_, _, _, _, _, (.Assign _ (.Lambda ar bo sc _) _), _, _, _, _] _ _) => ⟨(envOfC "law" (defScope st_law) 0 0 .none).qual ++ "<lambda>", ar, bo, sc, cloFrom cells sc.names []⟩ | _ => ⟨"", defArgs st_law, .Constant .none 0 ⟨0, 0, 0, 0⟩, defScope st_law, []⟩
abbrev N_lam_law_2 : List Str := ["_law_some", "_law_due_here", "_law_table"]
theorem sc_lam_law_2 {cells : List (Str × Addr)} : NdefX.NScope N_lam_law_2 ["_law_some"] ["_law_due_here", "_law_table"] (lam_law_2 cells).sc := NdefX.nscope_by (sc := (lam_law_2 []).sc) (by decide +kernel)
theorem free_lam_law_2 : ∀ y ∈ (lam_law_2 []).sc.names, y.2 = NameKind.free → (defScope st_law).names.lookup y.1 = some .cell ∨ (defScope st_law).names.lookup y.1 = some .free := by decide +kernel
theorem frk_lam_law_2 : ∀ y ∈ (["_law_due_here", "_law_table"] : List Str), (y, NameKind.free) ∈ (lam_law_2 []).sc.names := by decide +kernel
def d_lam_law_2 (sp_l_shows : DCall) : DE :=
    dCall 3 sp_l_shows (dCons (dVar 1) (dCons (dCB rdLen (dCons (dVar 2) (dNil))) (dCons (dOp rdIx (dVar 0) (dC (.int 0))) (dNil))))
theorem body_lam_law_2 (B : Bt mg) (C : Ct mg) {k : Nat} {sp_l_shows : DCall} (D_l_shows : DFnG P w K mg base "_law_shows" k 3 sp_l_shows) (cells : List (Str × Addr)) (f c : Addr) (A : Around) (outer : List PySem.Env) (s : Shared) (H : Hp) (E : XK) (hr : RoomG k (A.deeper (NdefX.envF ((lam_law_2 cells).nf c) f s.heap.objs.size))) :
    PD (NdefX.ncx CX0 P w K mg base N_lam_law_2 ((lam_law_2 cells).nf c) f A outer s H E).nox (lam_law_2 cells).bd (d_lam_law_2 sp_l_shows) := by
  exact pd_callG D_l_shows hr pass0 (pda_cons (pd_var 1) (pda_cons (pd_callB cd_len (by rfl) B.f_len bb_len (pda_cons (pd_var 2) (pda_nil))) (pda_cons (pd_ix (pd_var 0) (pd_int)) (pda_nil))))
theorem caps_law {X : Cx} (hsc : X.env.scope = defScope st_law) (hN : X.N = N_law) (ok : X.Ok) : ∀ L ∈ [lam_law_1 X.env.cells, lam_law_2 X.env.cells], NdefX.Caps X L.cl ["_law_due_here", "_law_table"] [3, 4] := (List.forall_mem_cons.mpr ⟨.made ok (by rw [hsc]; exact free_lam_law_1) frk_lam_law_1 (by rw [hN]; rfl), (List.forall_mem_cons.mpr ⟨.made ok (by rw [hsc]; exact free_lam_law_2) frk_lam_law_2 (by rw [hN]; rfl), (fun _ h => nomatch h)⟩)⟩)
def d_law (PL : Addr) (cells : List (Str × Addr)) (sp_l_tape : DCall) (sp_l_due : DCall) (sp_l_least : DCall) (sp_l_right : List (Str × Addr) → List D → DCall) (sp_l_take : DCall) (sp_shows_least : DCall) (sp_l_shows : DCall) : DS :=
    dSeq (dFor (diRng1 (dCons (dOp (rdAdd false) (dC (.int 1)) (dCB rdMin2 (dCons (dC (.int 8)) (dCons (dCB rdLen (dCons (dVar 0) (dNil))) (dNil))))) (dNil))) (dgName 1) (dSeq (dSet 2 (dCall 2 sp_l_tape (dCons (dVar 0) (dCons (dVar 1) (dNil)))))
    (dSeq (dSet 3 (dCall 1 sp_l_due (dCons (dVar 2) (dNil))))
    (dSeq (dSet 4 (dCall 1 sp_l_least (dCons (dVar 3) (dNil))))
    (dSeq (dSet 5 (dLc false (diSeq (dVar 4)) (dgTup 3 (dgCons (dgName 6) (dgCons (dgName 7) (dgCons (dgName 8) (dgNil))))) (dYes) (dVar 6) [6, 7, 8]))
    (dSeq (dSet 9 (dLam PL (lam_law_1 cells)))
    (dSeq (dSet 10 (dLam PL (lam_law_2 cells)))
    (dSeq (dIfS (dNot (dTru (dCallC 4 [3, 4] (sp_l_right cells) (dCons (dVar 2) (dCons (dVar 9) (dCons (dVar 10) (dCons (dLst false (dCons (dVar 5) (dNil))) (dNil)))))))) (dRet (dC (.bl false))) (dNext))
    (dSeq (dSet 11 (dLc false (diSeq (dVar 5)) (dgName 12) (dYes) (dCall 2 sp_l_take (dCons (dVar 2) (dCons (dOp (rdAdd false) (dCB rdLen (dCons (dVar 3) (dNil))) (dC (.int 1))) (dNil)))) [12]))
    (dSeq (dSet 13 (dOp rdIx (dLst false (dCons (dC .non) (dCons (dC (.bl true)) (dCons (dC (.int 0)) (dCons (dC (.str "")) (dCons (dTup (dNil)) (dCons (dCB rdTuple (dCons (dVar 5) (dNil))) (dCons (dOp (rdMul false) (dLst false (dCons (dC .non) (dNil))) (dCB rdLen (dCons (dVar 5) (dNil)))) (dCons (dOp (rdMul false) (dLst false (dCons (dC (.bl true)) (dNil))) (dCB rdLen (dCons (dVar 5) (dNil)))) (dNil)))))))))) (dCall 2 sp_l_take (dCons (dVar 2) (dCons (dC (.int 8)) (dNil))))))
    (dFor (diSeq (dTup (dCons (dVar 11) (dCons (dCB (rdSortI false) (dCons (dVar 11) (dNil))) (dCons (dVar 13) (dNil)))))) (dgName 8) (dSeq (dSet 14 (dCall 3 sp_shows_least (dCons (dVar 3) (dCons (dVar 4) (dCons (dVar 8) (dNil))))))
    (dIfS (dOr (dNot (dTru (dIsi "bool" (dVar 14)))) (dB (dOp rdNe (dVar 14) (dCall 3 sp_l_shows (dCons (dVar 3) (dCons (dCB rdLen (dCons (dVar 4) (dNil))) (dCons (dVar 8) (dNil)))))))) (dRet (dC (.bl false))) (dNext))))))))))))))
    (dRet (dC (.bl true)))
theorem body_law (B : Bt mg) (C : Ct mg) {f : Addr} {k : Nat} {sp_l_tape : DCall} (D_l_tape : DFnG P w K mg base "_law_tape" k 2 sp_l_tape) {sp_l_due : DCall} (D_l_due : DFnG P w K mg base "_law_due" k 1 sp_l_due) {sp_l_least : DCall} (D_l_least : DFnG P w K mg base "_law_least" k 1 sp_l_least) {sp_l_right : List (Str × Addr) → List D → DCall} (D_l_right : ∀ cells cs, DFnC P w K mg base "_law_right" k 4 [lam_law_1 cells, lam_law_2 cells] ["_law_due_here", "_law_table"] cs (sp_l_right cells cs)) {sp_l_take : DCall} (D_l_take : DFnG P w K mg base "_law_take" k 2 sp_l_take) {sp_shows_least : DCall} (D_shows_least : DFnG P w K mg base "shows_least" k 3 sp_shows_least) {sp_l_shows : DCall} (D_l_shows : DFnG P w K mg base "_law_shows" k 3 sp_l_shows) {cL PL : Addr} (TB : LamX.TabB base mg cL PL) (cdv : Value) (A : Around) (outer : List PySem.Env) (s : Shared) (H : Hp) (E : XK) (hc : cdv = .ref cL) (hr : RoomG k (A.deeper (envOfC "law" (defScope st_law) s.heap.objs.size f cdv))) :
    PDSs (cxOf CX0 P w K mg base N_law "law" (defScope st_law) f cdv A outer s H E).nox (defBody st_law) (d_law PL (envOfC "law" (defScope st_law) s.heap.objs.size f cdv).cells sp_l_tape sp_l_due sp_l_least sp_l_right sp_l_take sp_shows_least sp_l_shows) := by
  have nd := sc_law.nd
  exact pdss_cons (pds_for PassesOwn.never rfl (pdi_range1 (by rfl) B.f_range (pda_cons (pd_op (opd_add false) (pd_int) (pd_callB (cd_min2 rfl) (by rfl) B.f_min bb_min (pda_cons (pd_int) (pda_cons (pd_callB cd_len (by rfl) B.f_len bb_len (pda_cons (pd_var 0) (pda_nil))) (pda_nil))))) (pda_nil))) (pdg_name 1 nd) (pdss_cons (pds_set 2 nd (pd_callG D_l_tape hr pass0 (pda_cons (pd_var 0) (pda_cons (pd_var 1) (pda_nil)))))
    (pdss_cons (pds_set 3 nd (pd_callG D_l_due hr pass0 (pda_cons (pd_var 2) (pda_nil))))
    (pdss_cons (pds_set 4 nd (pd_callG D_l_least hr pass0 (pda_cons (pd_var 3) (pda_nil))))
    (pdss_cons (pds_setLc false 5 (own := [("_law_begin", 6), ("_law_end", 7), ("_law_thing_here", 8)]) rfl nd (pdi_seq (pd_var 4)) (blkOk_by (N := N_law) (sc := (defScope st_law)) (own := [("_law_begin", 6), ("_law_end", 7), ("_law_thing_here", 8)]) (by decide +kernel)) (fun _ _ _ _ _ => pdg_tup rfl (pdgs_cons (pdg_name 6 nd) (pdgs_cons (pdg_name 7 nd) (pdgs_cons (pdg_name 8 nd) (pdgs_nil))))) (fun _ _ _ _ _ => pdts_nil) (fun _ _ _ _ _ => pd_var 6))
    (pdss_cons (pds_set 9 nd (pd_lamC TB hc free_lam_law_1))
    (pdss_cons (pds_set 10 nd (pd_lamC TB hc free_lam_law_2))
    (pdss_cons (pds_if (pdt_not (pdt_tru (pd_callC (D_l_right _) hr (caps_law rfl rfl) (fun _ => rfl) (pda_cons (pd_var 2) (pda_cons (pd_var 9) (pda_cons (pd_var 10) (pda_cons (pd_lst false (pda_cons (pd_var 5) (pda_nil))) (pda_nil)))))))) (pdss_one (pds_ret (pd_bl))) (pdss_nil))
    (pdss_cons (pds_setLc false 11 (own := [("_law_one", 12)]) rfl nd (pdi_seq (pd_var 5)) (blkOk_by (N := N_law) (sc := (defScope st_law)) (own := [("_law_one", 12)]) (by decide +kernel)) (fun _ _ _ _ _ => pdg_name 12 nd) (fun _ _ _ _ _ => pdts_nil) (fun _ _ _ _ _ => pd_callG D_l_take hr pass0 (pda_cons (pd_var 2) (pda_cons (pd_op (opd_add false) (pd_callB cd_len (by rfl) B.f_len bb_len (pda_cons (pd_var 3) (pda_nil))) (pd_int)) (pda_nil)))))
    (pdss_cons (pds_set 13 nd (pd_ix (pd_lst false (pda_cons (pd_non) (pda_cons (pd_bl) (pda_cons (pd_int) (pda_cons (pd_str) (pda_cons (pd_tup (pda_nil)) (pda_cons (pd_callTy cd_tuple (by rfl) B.f_tuple bb_tuple (pda_cons (pd_var 5) (pda_nil))) (pda_cons (pd_op (opd_mul false) (pd_lst false (pda_cons (pd_non) (pda_nil))) (pd_callB cd_len (by rfl) B.f_len bb_len (pda_cons (pd_var 5) (pda_nil)))) (pda_cons (pd_op (opd_mul false) (pd_lst false (pda_cons (pd_bl) (pda_nil))) (pd_callB cd_len (by rfl) B.f_len bb_len (pda_cons (pd_var 5) (pda_nil)))) (pda_nil)))))))))) (pd_callG D_l_take hr pass0 (pda_cons (pd_var 2) (pda_cons (pd_int) (pda_nil))))))
    (pdss_one (pds_for PassesOwn.never rfl (pdi_seq (pd_tup (pda_cons (pd_var 11) (pda_cons (pd_callB (cd_sortI false) (by rfl) B.f_sorted bb_sorted (pda_cons (pd_var 11) (pda_nil))) (pda_cons (pd_var 13) (pda_nil)))))) (pdg_name 8 nd) (pdss_cons (pds_set 14 nd (pd_callG D_shows_least hr pass0 (pda_cons (pd_var 3) (pda_cons (pd_var 4) (pda_cons (pd_var 8) (pda_nil))))))
    (pdss_one (pds_if (pdt_w (pdw_or (pdt_not (pdt_tru (pd_isi (pd_var 14) (by rfl) B.f_bool (by rfl) B.f_isinstance))) (pdw_or1 (pdt_cmp (opd_ne hr.units) (pd_var 14) (pd_callG D_l_shows hr pass0 (pda_cons (pd_var 3) (pda_cons (pd_callB cd_len (by rfl) B.f_len bb_len (pda_cons (pd_var 4) (pda_nil))) (pda_cons (pd_var 8) (pda_nil))))))))) (pdss_one (pds_ret (pd_bl))) (pdss_nil))))))))))))))))
    (pdss_one (pds_ret (pd_bl)))
end
end K37
namespace K37
open PySem PySem.Spec L2 DL
open PyProof.Rows hiding St
local macro_rules | `(tactic| walk_at "dl") => `(tactic| try simp only [dVar, dC, dNil, dCons, dTup, dLst, dOp, dChain, dUn, dB, dAnd, dOr, dNot, dAndV, dOrV, dNotV, dIf, dTru, truD, rdI, rdI0, rdAdd, rdMul, rdNeg, rdBits, rdIs, rdIsNot, rdIsB, rdIsNotB, isN, rdIx, rdSl, dNoPart, dPart, dSl, dCB, rdAbs, rdI1, rdII, rdMax2, rdMin2, rdInt, rdLen, rdList, rdTuple, rdAll, rdAny, rdSum, rdMaxL, rdMinL, rdSortI, rdCount, rdIndex, rdRepr, rdEqS, rdNeS, dgUnp, dIsi, dIsi2, dBM, dBM0, rdAppend, rdExtend, rdPop, rdReverse, rdClear, onL, dgName, dgNil, dgCons, dgTup, dgSub, rdSet, dNext, dSeq, dBreak, dCont, dDrop, dRet, dRetN, dIfS, dAsg, dSet, dPar, dPar3, rdAug, dAug, dFor, diSeq, diRng1, diRng2, diZip, diEnum, diEnumA, still, dYes, dCall, dLc, mk, lsOf, lsR, dPre, dListRg1, dFld, dFSet, dFAug, onI, isI, dMeth, dMeth0, dMake, dMakeK, dFrzO, frzO, dNever, dKIx, keyD, onK, dgKey, dgFld, dDisp, dPairs, dFrzE, dgSlc, dKIn, dKGet2, List.mem_singleton, dListRg2, dRev, List.getElem?_cons_zero, List.getElem?_cons_succ, List.set_cons_zero, List.set_cons_succ, List.length_cons, List.length_nil, mset_same, mset_mset, Option.some.injEq, exists_eq_left', exists_eq_left, D.bl.injEq, D.int.injEq, D.str.injEq, true_and, and_true, decide_eq_true_eq, Bool.not_eq_true', decide_eq_false_iff_not, if_true, if_false, ite_true, ite_false, Bool.false_eq_true, Bool.true_eq_false, ifb, atI_0, ixN_0, atI_1, ixN_1, atI_2, ixN_2, atI_3, ixN_3, atI_4, ixN_4, atI_5, ixN_5, atI_6, ixN_6, atI_7, ixN_7, atI_neg1, atI_snoc, Int.reducePow, Int.reduceToNat, Int.reduceLT, Int.reduceLE, Nat.reduceLT, Nat.reduceAdd, exists_const, exists_prop])
local macro_rules | `(tactic| walk_at "dla") => `(tactic| try simp only [dVar, dC, dNil, dCons, dTup, dLst, dOp, dChain, dUn, dB, dAnd, dOr, dNot, dAndV, dOrV, dNotV, dIf, dTru, truD, rdI, rdI0, rdAdd, rdMul, rdNeg, rdBits, rdIs, rdIsNot, rdIsB, rdIsNotB, isN, rdIx, rdSl, dNoPart, dPart, dSl, dCB, rdAbs, rdI1, rdII, rdMax2, rdMin2, rdInt, rdLen, rdList, rdTuple, rdAll, rdAny, rdSum, rdMaxL, rdMinL, rdSortI, rdCount, rdIndex, rdRepr, rdEqS, rdNeS, dgUnp, dIsi, dIsi2, dBM, dBM0, rdAppend, rdExtend, rdPop, rdReverse, rdClear, onL, dgName, dgNil, dgCons, dgTup, dgSub, rdSet, dNext, dSeq, dBreak, dCont, dDrop, dRet, dRetN, dIfS, dAsg, dSet, dPar, dPar3, rdAug, dAug, dFor, diSeq, diRng1, diRng2, diZip, diEnum, diEnumA, still, dYes, dCall, dLc, mk, lsOf, lsR, dPre, dListRg1, dFld, dFSet, dFAug, onI, isI, dMeth, dMeth0, dMake, dMakeK, dFrzO, frzO, dNever, dKIx, keyD, onK, dgKey, dgFld, dDisp, dPairs, dFrzE, dgSlc, dKIn, dKGet2, List.mem_singleton, dListRg2, dRev, List.getElem?_cons_zero, List.getElem?_cons_succ, List.set_cons_zero, List.set_cons_succ, List.length_cons, List.length_nil, mset_same, mset_mset, Option.some.injEq, exists_eq_left', exists_eq_left, D.bl.injEq, D.int.injEq, D.str.injEq, true_and, and_true, decide_eq_true_eq, Bool.not_eq_true', decide_eq_false_iff_not, if_true, if_false, ite_true, ite_false, Bool.false_eq_true, Bool.true_eq_false, ifb, atI_0, ixN_0, atI_1, ixN_1, atI_2, ixN_2, atI_3, ixN_3, atI_4, ixN_4, atI_5, ixN_5, atI_6, ixN_6, atI_7, ixN_7, atI_neg1, atI_snoc, Int.reducePow, Int.reduceToNat, Int.reduceLT, Int.reduceLE, Nat.reduceLT, Nat.reduceAdd, exists_const, exists_prop, *])
local macro_rules | `(tactic| walk_at "dk") => `(tactic| try simp only [dVar, dC, dNil, dCons, dTup, dLst, dOp, dChain, dUn, dB, dAnd, dOr, dNot, dAndV, dOrV, dNotV, dIf, dTru, truD, rdI, rdI0, rdAdd, rdMul, rdNeg, rdBits, rdIs, rdIsNot, rdIsB, rdIsNotB, isN, rdIx, rdSl, dNoPart, dPart, dSl, dCB, rdAbs, rdI1, rdII, rdMax2, rdMin2, rdInt, rdLen, rdList, rdTuple, rdAll, rdAny, rdSum, rdMaxL, rdMinL, rdSortI, rdCount, rdIndex, rdRepr, rdEqS, rdNeS, dgUnp, dIsi, dIsi2, dBM, dBM0, rdAppend, rdExtend, rdPop, rdReverse, rdClear, onL, dgName, dgNil, dgCons, dgTup, dgSub, rdSet, dNext, dSeq, dBreak, dCont, dDrop, dRet, dRetN, dIfS, dAsg, dSet, dPar, dPar3, rdAug, dAug, dFor, diSeq, diRng1, diRng2, diZip, diEnum, diEnumA, still, dYes, dCall, dLc, mk, lsOf, lsR, dPre, dListRg1, dFld, dFSet, dFAug, onI, isI, dMeth, dMeth0, dMake, dMakeK, dFrzO, frzO, dNever, dKIx, keyD, onK, dgKey, dgFld, dDisp, dPairs, dFrzE, dgSlc, dKIn, dKGet2, List.mem_singleton, dListRg2, dRev, List.getElem?_cons_zero, List.getElem?_cons_succ, List.set_cons_zero, List.set_cons_succ, List.length_cons, List.length_nil, mset_same, mset_mset, Option.some.injEq, exists_eq_left', exists_eq_left, D.bl.injEq, D.int.injEq, D.str.injEq, true_and, and_true, decide_eq_true_eq, Bool.not_eq_true', decide_eq_false_iff_not, if_true, if_false, ite_true, ite_false, Bool.false_eq_true, Bool.true_eq_false, ifb, atI_0, ixN_0, atI_1, ixN_1, atI_2, ixN_2, atI_3, ixN_3, atI_4, ixN_4, atI_5, ixN_5, atI_6, ixN_6, atI_7, ixN_7, atI_neg1, atI_snoc, Int.reducePow, Int.reduceToNat, Int.reduceLT, Int.reduceLE, Nat.reduceLT, Nat.reduceAdd, exists_const, exists_prop, noRef, isD, der, rdEq, rdNe, rdIn', eqD_bl, eqD_int, eqD_str, eqD_non_int, eqD_int_non, beq_self_eq_true, String.reduceBEq, String.reduceEq, Bool.or_true, Bool.true_or, Bool.or_false, Bool.false_or, Bool.not_true, Bool.not_false, wipeD, forall_eq', forall_eq, okD_int, okD_bl, okD_non, eqD_non, eqD_non_lst, eqD_non_tup])
local macro_rules | `(tactic| walk_at "dka") => `(tactic| try simp only [dVar, dC, dNil, dCons, dTup, dLst, dOp, dChain, dUn, dB, dAnd, dOr, dNot, dAndV, dOrV, dNotV, dIf, dTru, truD, rdI, rdI0, rdAdd, rdMul, rdNeg, rdBits, rdIs, rdIsNot, rdIsB, rdIsNotB, isN, rdIx, rdSl, dNoPart, dPart, dSl, dCB, rdAbs, rdI1, rdII, rdMax2, rdMin2, rdInt, rdLen, rdList, rdTuple, rdAll, rdAny, rdSum, rdMaxL, rdMinL, rdSortI, rdCount, rdIndex, rdRepr, rdEqS, rdNeS, dgUnp, dIsi, dIsi2, dBM, dBM0, rdAppend, rdExtend, rdPop, rdReverse, rdClear, onL, dgName, dgNil, dgCons, dgTup, dgSub, rdSet, dNext, dSeq, dBreak, dCont, dDrop, dRet, dRetN, dIfS, dAsg, dSet, dPar, dPar3, rdAug, dAug, dFor, diSeq, diRng1, diRng2, diZip, diEnum, diEnumA, still, dYes, dCall, dLc, mk, lsOf, lsR, dPre, dListRg1, dFld, dFSet, dFAug, onI, isI, dMeth, dMeth0, dMake, dMakeK, dFrzO, frzO, dNever, dKIx, keyD, onK, dgKey, dgFld, dDisp, dPairs, dFrzE, dgSlc, dKIn, dKGet2, List.mem_singleton, dListRg2, dRev, List.getElem?_cons_zero, List.getElem?_cons_succ, List.set_cons_zero, List.set_cons_succ, List.length_cons, List.length_nil, mset_same, mset_mset, Option.some.injEq, exists_eq_left', exists_eq_left, D.bl.injEq, D.int.injEq, D.str.injEq, true_and, and_true, decide_eq_true_eq, Bool.not_eq_true', decide_eq_false_iff_not, if_true, if_false, ite_true, ite_false, Bool.false_eq_true, Bool.true_eq_false, ifb, atI_0, ixN_0, atI_1, ixN_1, atI_2, ixN_2, atI_3, ixN_3, atI_4, ixN_4, atI_5, ixN_5, atI_6, ixN_6, atI_7, ixN_7, atI_neg1, atI_snoc, Int.reducePow, Int.reduceToNat, Int.reduceLT, Int.reduceLE, Nat.reduceLT, Nat.reduceAdd, exists_const, exists_prop, noRef, isD, der, rdEq, rdNe, rdIn', eqD_bl, eqD_int, eqD_str, eqD_non_int, eqD_int_non, beq_self_eq_true, String.reduceBEq, String.reduceEq, Bool.or_true, Bool.true_or, Bool.or_false, Bool.false_or, Bool.not_true, Bool.not_false, wipeD, forall_eq', forall_eq, okD_int, okD_bl, okD_non, eqD_non, eqD_non_lst, eqD_non_tup, *])
/-! one of any make, looked at -/
def numB : D → Bool
  | .int i => decide (0 ≤ i)
  | _ => false
theorem sm_mono : ∀ (n m : Nat) (d : D), n ≤ m → sm n d → sm m d := by
  intro n
  induction n with
  | zero =>
    intro m d _ h
    cases d with
    | tup _ => exact h.elim
    | lst _ => exact h.elim
    | _ => cases m <;> exact h
  | succ n ih =>
    intro m d l h
    obtain ⟨m, rfl⟩ : ∃ i, m = i + 1 := ⟨m - 1, by omega⟩
    cases d with
    | tup _ => exact ⟨h.1, fun x hx => ih m x (by omega) (h.2 x hx)⟩
    | lst _ => exact ⟨h.1, fun x hx => ih m x (by omega) (h.2 x hx)⟩
    | _ => exact h
theorem sm_refs {m : Nat} {d : D} (h : sm m d) : (∀ a, d ≠ .ref a) ∧ (∀ a, d ≠ .ty a) ∧ (∀ a, d ≠ .scr a) ∧ ∀ a b c, d ≠ .obj a b c :=
  ⟨fun _ z => (by subst z; cases m <;> cases h), fun _ z => (by subst z; cases m <;> cases h), fun _ z => (by subst z; cases m <;> cases h), fun _ _ _ z => (by subst z; cases m <;> cases h)⟩
theorem sm_tup {m : Nat} {xs : List D} (h : sm m (.tup xs)) : xs.length ≤ 1000000 ∧ ∀ x ∈ xs, sm m x := by
  cases m with
  | zero => cases h
  | succ n => exact ⟨h.1, fun x hx => sm_mono n (n + 1) x (Nat.le_succ _) (h.2 x hx)⟩
theorem sm_lst {m : Nat} {xs : List D} (h : sm m (.lst xs)) : xs.length ≤ 1000000 ∧ ∀ x ∈ xs, sm m x := by
  cases m with
  | zero => cases h
  | succ n => exact ⟨h.1, fun x hx => sm_mono n (n + 1) x (Nat.le_succ _) (h.2 x hx)⟩
/-- one of any make, told true or false by p -/
def spB (p : D → Bool) : DCall := fun ds μ k => ∃ d, ds = [d] ∧ sm 20 d ∧ k (.bl (p d)) μ
theorem spec_is_number : ∀ ds μ k, ds.length = 1 → spB numB ds μ k → d_is_number { nx := fun _ μ' => wk k .non μ', rt := wk k } (startD 1 ds) μ := by
  rintro ds μ k - ⟨d, rfl, hg, h⟩
  show d_is_number _ [some d] μ
  unfold d_is_number
  obtain ⟨n1, n2, n3, n4⟩ := sm_refs hg
  cases d with
  | ref a => exact absurd rfl (n1 a)
  | ty a => exact absurd rfl (n2 a)
  | scr a => exact absurd rfl (n3 a)
  | obj a b c => exact absurd rfl (n4 a b c)
  | _ => walk_at "dk"; exact wk.id h
theorem beq3 {n m : Nat} : (((n : Nat) : Int) == ((m : Nat) : Int)) = decide (n = m) := by
  rw [Bool.eq_iff_iff, beq_iff_eq, decide_eq_true_eq]; omega
theorem lc_id {keep : Mu → Prop} {g : DG} {tt : DT} {te : DE} {ρ0 : DL.Env} {fin : List D → Mu → Prop} {ys : List D} {μ : Mu} (f : D → D) (hk : keep μ) (hz : ys.length ≤ 1000000)
    (step : ∀ y, y ∈ ys → ∀ (k : KD) (e : Mu → Prop), k (f y) μ → g y ρ0 μ fun ρ1 μ1 => tt ρ1 μ1 fun b μ2 => if b = true then te ρ1 μ2 k else e μ2)
    (hfin : fin (ys.map f) μ) : dLcL keep g tt te ρ0 fin ys [] μ := by
  have := lc_map (ys := ys) (enc := fun x => x) f hk hz step hfin
  rw [List.map_id'] at this
  exact this
theorem numB_int {d : D} (h : numB d = true) : ∃ i : Int, d = .int i ∧ 0 ≤ i := by
  cases d with
  | int i => exact ⟨i, rfl, of_decide_eq_true h⟩
  | _ => cases h
theorem all_id {α : Type} (f : α → Bool) : ∀ l : List α, (l.map f).all id = l.all f
  | [] => rfl
  | x :: l => by rw [List.map_cons, List.all_cons, List.all_cons, all_id f l]; rfl
theorem vols_nil : D.vols [] = 0 := rfl
theorem vols_cons (x : D) (xs : List D) : D.vols (x :: xs) = x.vol + 2 + D.vols xs := rfl
theorem vol_tup (xs : List D) : (D.tup xs).vol = D.vols xs + 3 := rfl
theorem vol_lst (xs : List D) : (D.lst xs).vol = D.vols xs + 3 := rfl
theorem vol_nD (n : Nat) : (nD n).vol = 30 := rfl
theorem vol_int (n : Int) : (D.int n).vol = 30 := rfl
theorem vol_non : D.non.vol = 30 := rfl
theorem vol_str (x : Str) : (D.str x).vol = (reprText x).length := rfl
theorem tames_nil : D.tames [] = true := rfl
theorem tames_cons (x : D) (xs : List D) : D.tames (x :: xs) = (x.tame && D.tames xs) := rfl
theorem tame_tup (xs : List D) : (D.tup xs).tame = D.tames xs := rfl
theorem tame_lst (xs : List D) : (D.lst xs).tame = D.tames xs := rfl
theorem tame_str (x : Str) : (D.str x).tame = true := rfl
theorem tame_non : D.non.tame = true := rfl
theorem tame_nD {n : Nat} (h : n < 1000000) : (nD n).tame = true := decide_eq_true (show (n : Int).natAbs < 10 ^ 22 by omega)
theorem tames_map {α : Type} {f : α → D} {xs : List α} (h : ∀ x ∈ xs, (f x).tame = true) : D.tames (xs.map f) = true := by
  induction xs with
  | nil => rfl
  | cons x xs ih => rw [List.map_cons, tames_cons, h x (by simp), ih fun y hy => h y (by simp [hy])]; rfl
theorem le_sz {n : Nat} (h : n ≤ 100) : n ≤ sizeLine := Nat.le_trans h (by decide)
/-! data spoilt s times at most -/
def hs (s : Nat) : Nat → D → Prop
  | _, .non => True
  | _, .bl _ => True
  | _, .int i => i.natAbs ≤ 10 ^ 9 * 4 ^ s
  | _, .str x => x.length ≤ 30 + s ∧ ∀ c ∈ x.cps.toList, c < 128
  | n + 1, .tup xs => xs.length ≤ 900 + s ∧ ∀ x ∈ xs, hs s n x
  | n + 1, .lst xs => xs.length ≤ 900 + s ∧ ∀ x ∈ xs, hs s n x
  | _, _ => False
theorem tames_of {xs : List D} (h : ∀ x ∈ xs, x.tame = true) : D.tames xs = true := by
  have := tames_map (f := fun x : D => x) h
  rwa [List.map_id'] at this
theorem strOk_of {x : Str} (h : ∀ c ∈ x.cps.toList, c < 128) : PyData.strOk x = true := by
  show x.cps.all (· < 0x110000) = true
  rw [Array.all_eq_true_iff_forall_mem]
  intro c hc
  exact decide_eq_true (Nat.lt_trans (h c (by simpa using hc)) (by decide))
theorem hs_sm {s : Nat} (hs10 : s ≤ 10) : ∀ (n : Nat) (d : D), hs s n d → sm n d ∧ d.tame = true
  | n, .non, _ => ⟨by cases n <;> trivial, rfl⟩
  | n, .bl _, _ => ⟨by cases n <;> trivial, rfl⟩
  | n, .int i, h => ⟨by cases n <;> trivial, decide_eq_true (by
      have h : i.natAbs ≤ 10 ^ 9 * 4 ^ s := by cases n <;> exact h
      have h2 : 4 ^ s ≤ 4 ^ 10 := Nat.pow_le_pow_right (by decide) hs10
      have : (10 : Nat) ^ 9 * 4 ^ 10 < 10 ^ 22 := by decide
      have := Nat.mul_le_mul_left (10 ^ 9) h2
      omega)⟩
  | n, .str x, h => by
    have h : x.length ≤ 30 + s ∧ ∀ c ∈ x.cps.toList, c < 128 := by cases n <;> exact h
    exact ⟨by cases n <;> exact strOk_of h.2, rfl⟩
  | n + 1, .tup xs, ⟨h1, h2⟩ => ⟨⟨by omega, fun x hx => (hs_sm hs10 n x (h2 x hx)).1⟩, tames_of fun x hx => (hs_sm hs10 n x (h2 x hx)).2⟩
  | n + 1, .lst xs, ⟨h1, h2⟩ => ⟨⟨by omega, fun x hx => (hs_sm hs10 n x (h2 x hx)).1⟩, tames_of fun x hx => (hs_sm hs10 n x (h2 x hx)).2⟩
  | 0, .tup _, h => h.elim
  | 0, .lst _, h => h.elim
  | 0, .ref _, h => h.elim
  | n + 1, .ref _, h => h.elim
  | 0, .ty _, h => h.elim
  | n + 1, .ty _, h => h.elim
  | 0, .scr _, h => h.elim
  | n + 1, .scr _, h => h.elim
  | 0, .obj _ _ _, h => h.elim
  | n + 1, .obj _ _ _, h => h.elim
theorem hs_mono {s s' : Nat} (hss : s ≤ s') : ∀ (n n' : Nat) (d : D), n ≤ n' → hs s n d → hs s' n' d
  | n, n', .non, _, _ => by cases n' <;> trivial
  | n, n', .bl _, _, _ => by cases n' <;> trivial
  | n, n', .int i, _, h => by
    have h : i.natAbs ≤ 10 ^ 9 * 4 ^ s := by cases n <;> exact h
    have : i.natAbs ≤ 10 ^ 9 * 4 ^ s' := Nat.le_trans h (Nat.mul_le_mul_left _ (Nat.pow_le_pow_right (by decide) hss))
    cases n' <;> exact this
  | n, n', .str x, _, h => by
    have h : x.length ≤ 30 + s ∧ ∀ c ∈ x.cps.toList, c < 128 := by cases n <;> exact h
    have : x.length ≤ 30 + s' ∧ ∀ c ∈ x.cps.toList, c < 128 := ⟨by omega, h.2⟩
    cases n' <;> exact this
  | n + 1, n' + 1, .tup xs, l, ⟨h1, h2⟩ => ⟨by omega, fun x hx => hs_mono hss n n' x (by omega) (h2 x hx)⟩
  | n + 1, n' + 1, .lst xs, l, ⟨h1, h2⟩ => ⟨by omega, fun x hx => hs_mono hss n n' x (by omega) (h2 x hx)⟩
  | n + 1, 0, .tup xs, l, _ => absurd l (by omega)
  | n + 1, 0, .lst xs, l, _ => absurd l (by omega)
  | 0, _, .tup _, _, h => h.elim
  | 0, _, .lst _, _, h => h.elim
  | 0, _, .ref _, _, h => h.elim
  | n + 1, _, .ref _, _, h => h.elim
  | 0, _, .ty _, _, h => h.elim
  | n + 1, _, .ty _, _, h => h.elim
  | 0, _, .scr _, _, h => h.elim
  | n + 1, _, .scr _, _, h => h.elim
  | 0, _, .obj _ _ _, _, h => h.elim
  | n + 1, _, .obj _ _ _, _, h => h.elim
section
variable {s m : Nat} {d : D} {xs : List D}
theorem hs.up {s' m' : Nat} (h : hs s m d) (l1 : s ≤ s') (l2 : m ≤ m') : hs s' m' d := hs_mono l1 m m' d l2 h
theorem hs.tup (l : xs.length ≤ 900 + s) (h : ∀ x ∈ xs, hs s m x) : hs s (m + 1) (.tup xs) := ⟨l, h⟩
theorem hs.lst (l : xs.length ≤ 900 + s) (h : ∀ x ∈ xs, hs s m x) : hs s (m + 1) (.lst xs) := ⟨l, h⟩
theorem hs.non : hs s m .non := by cases m <;> trivial
theorem hs.bl {b : Bool} : hs s m (.bl b) := by cases m <;> trivial
theorem hs.int {i : Int} (h : i.natAbs ≤ 10 ^ 9 * 4 ^ s) : hs s m (.int i) := by cases m <;> exact h
theorem hs.str {x : Str} (h1 : x.length ≤ 30 + s) (h2 : ∀ c ∈ x.cps.toList, c < 128) : hs s m (.str x) := by cases m <;> exact ⟨h1, h2⟩
theorem hs.wd {w : String} (h : ((w : Str).length ≤ 30 && (w : Str).cps.toList.all (· < 128)) = true) : hs s m (.str w) := by
  rw [Bool.and_eq_true] at h
  exact hs.str (by have := of_decide_eq_true h.1; omega) fun c hc => of_decide_eq_true (List.all_eq_true.mp h.2 c hc)
theorem len_le {n s : Nat} (h : n ≤ 900) : n ≤ 900 + s := Nat.le_trans h (Nat.le_add_right _ _)
theorem hs.mem0 : ∀ x ∈ ([] : List D), hs s m x := fun _ z => absurd z List.not_mem_nil
theorem hs.mem (h : hs s m d) (t : ∀ x ∈ xs, hs s m x) : ∀ x ∈ d :: xs, hs s m x := fun x hx => by
  rcases List.mem_cons.mp hx with rfl | hx
  · exact h
  · exact t x hx
end
local macro_rules | `(tactic| walk_at "hs") => `(tactic| repeat' (first | exact hs.non | exact hs.bl | assumption | refine hs.wd ?_ | refine hs.int ?_ | refine hs.tup ?_ ?_ | refine hs.lst ?_ ?_ | exact hs.mem0 | refine hs.mem ?_ ?_ | exact len_le (Nat.le_of_ble_eq_true rfl) | decide +kernel | omega))
/-! lists changed, and how long their text is then -/
theorem vols_app : ∀ a b : List D, D.vols (a ++ b) = D.vols a + D.vols b
  | [], b => by rw [List.nil_append, vols_nil, Nat.zero_add]
  | x :: a, b => by rw [List.cons_append, vols_cons, vols_cons, vols_app a b]; omega
theorem vols_set {y x : D} : ∀ {xs : List D} {i : Nat}, xs[i]? = some x → D.vols (xs.set i y) + x.vol = D.vols xs + y.vol
  | [], i, h => by simp at h
  | z :: xs, 0, h => by
    simp only [List.getElem?_cons_zero, Option.some.injEq] at h
    subst h
    rw [List.set_cons_zero, vols_cons, vols_cons]; omega
  | z :: xs, i + 1, h => by
    have := vols_set (y := y) (xs := xs) (i := i) (by simpa using h)
    rw [List.set_cons_succ, vols_cons, vols_cons]; omega
theorem vols_td (xs : List D) (i : Nat) : D.vols (xs.take i) + D.vols (xs.drop i) = D.vols xs := by
  rw [← vols_app, List.take_append_drop]
theorem vols_mem {x : D} : ∀ {xs : List D}, x ∈ xs → x.vol + 2 ≤ D.vols xs
  | [], h => absurd h List.not_mem_nil
  | z :: xs, h => by
    rw [vols_cons]
    rcases List.mem_cons.mp h with rfl | h
    · omega
    · have := vols_mem h; omega
theorem vols_erase : ∀ (xs : List D) (i : Nat), D.vols (xs.eraseIdx i) ≤ D.vols xs
  | [], _ => Nat.le_refl _
  | z :: xs, 0 => by rw [List.eraseIdx_cons_zero, vols_cons]; omega
  | z :: xs, i + 1 => by have := vols_erase xs i; rw [List.eraseIdx_cons_succ, vols_cons, vols_cons]; omega
theorem vols_rev : ∀ xs : List D, D.vols xs.reverse = D.vols xs
  | [] => rfl
  | z :: xs => by rw [List.reverse_cons, vols_app, vols_rev xs, vols_cons, vols_cons, vols_nil]; omega
theorem seq_nat {n i : Nat} (h : i < n) : seqIndex? (i : Int) n = some i := by
  have h1 : ¬ ((i : Int) < 0) := by omega
  have h2 : (i : Int) < (n : Int) := by omega
  have h3 : (0 : Int) ≤ (i : Int) := by omega
  unfold seqIndex?
  simp only [h1, if_false, h2, h3, decide_true, Bool.and_self, if_true, Int.toNat_natCast]
theorem str_len (x : Str) : x.length = x.cps.toList.length := rfl
theorem cutS_take (z : Str) (p : Nat) : cutS z none (some (p : Int)) = ⟨(z.cps.toList.take p).toArray⟩ := by
  have := cutD_take z.cps.toList p
  unfold DL.cutD at this
  unfold cutS
  rw [← this]; rfl
theorem cutS_drop (z : Str) (p : Nat) : cutS z (some (p : Int)) none = ⟨(z.cps.toList.drop p).toArray⟩ := by
  have := cutD_drop z.cps.toList p
  unfold DL.cutD at this
  unfold cutS
  rw [← this]; rfl
def asc (L : Nat) (x : Str) : Prop := x.length ≤ L ∧ ∀ c ∈ x.cps.toList, c < 128
theorem asc_of {L : Nat} {w : String} (h : ((w : Str).length ≤ L && (w : Str).cps.toList.all (· < 128)) = true) : asc L (w : Str) := by
  rw [Bool.and_eq_true] at h
  exact ⟨of_decide_eq_true h.1, fun c hc => of_decide_eq_true (List.all_eq_true.mp h.2 c hc)⟩
theorem asc_hs {s m : Nat} {x : Str} (h : asc (30 + s) x) : hs s m (.str x) := hs.str h.1 h.2
theorem hs_asc {s m : Nat} {x : Str} (h : hs s m (.str x)) : asc (30 + s) x := by cases m <;> exact h
theorem app_list (a b : Str) : (a ++ b).cps.toList = a.cps.toList ++ b.cps.toList := by
  show (a.cps ++ b.cps).toList = _
  rw [Array.toList_append]
theorem asc_app {L M : Nat} {a b : Str} (ha : asc L a) (hb : asc M b) : asc (L + M) (a ++ b) := by
  refine ⟨?_, fun c hc => ?_⟩
  · rw [str_len, app_list, List.length_append]
    have := ha.1; have := hb.1
    rw [str_len] at *
    omega
  · rw [app_list] at hc
    rcases List.mem_append.mp hc with hc | hc
    · exact ha.2 c hc
    · exact hb.2 c hc
theorem asc_takeS {L : Nat} {x : Str} (h : asc L x) (p : Nat) : asc (min p x.length) ⟨(x.cps.toList.take p).toArray⟩ :=
  ⟨by rw [str_len]; show (x.cps.toList.take p).length ≤ _; rw [List.length_take, str_len]; exact Nat.le_refl _, fun c hc => h.2 c (List.mem_of_mem_take hc)⟩
theorem asc_dropS {L : Nat} {x : Str} (h : asc L x) (p : Nat) : asc (x.length - p) ⟨(x.cps.toList.drop p).toArray⟩ :=
  ⟨by rw [str_len]; show (x.cps.toList.drop p).length ≤ _; rw [List.length_drop, str_len]; exact Nat.le_refl _, fun c hc => h.2 c (List.mem_of_mem_drop hc)⟩
theorem asc.le {L M : Nat} {x : Str} (h : asc L x) (l : L ≤ M) : asc M x := ⟨Nat.le_trans h.1 l, h.2⟩
theorem vol_asc {L : Nat} {x : Str} (h : asc L x) : (D.str x).vol ≤ 10 * L + 2 := by
  have := PySem.StrLaws.reprText_len x fun c hc => Nat.lt_trans (h.2 c hc) (by decide)
  show (reprText x).length ≤ _
  have := h.1
  omega
/-- a draw of many -/
def spTake : DCall := fun ds μ k => ∃ t many, ds = [.ref t, .int many] ∧ 0 < many ∧ many < 10000000000000 ∧ Drawn 1 (fun d => ∃ v : Int, d = .int v ∧ 0 ≤ v ∧ v < many) t μ k
theorem wdiv {i j : Int} (h : 0 < j) (h1 : j < 10000000000000) : CDivW i j := wide_div (b := 60) h (by omega) (by decide) (by decide)
theorem spec_l_take : ∀ ds μ k, ds.length = 2 → spTake ds μ k → d_l_take { nx := fun _ μ' => wk k .non μ', rt := wk k } (startD 4 ds) μ := by
  rintro ds μ k - ⟨t, many, rfl, h1, h2, n, r, o, e, ⟨a, b, c, rfl, a0, b0, b1, c0, c1⟩, h⟩
  show d_l_take _ [some (.ref t), some (.int many), none, none] μ
  unfold d_l_take
  simp only [tapeL] at e
  walk_at "dla"
  refine ifc (fun ha => ?_) (fun ha => ?_)
  · exact ⟨wdiv h1 h2, wk.id (h _ _ ⟨_, rfl, Int.emod_nonneg _ (by omega), Int.emod_lt_of_pos _ h1⟩ ⟨_, b, c, rfl, Int.ediv_nonneg a0 (by omega), b0, b1, c0, by omega⟩)⟩
  · have x0 := Int.emod_nonneg ((b + 39373 * (c + 1)) * (48271 + (c + 1))) (show (2147483647 : Int) ≠ 0 by decide)
    have x1 := Int.emod_lt_of_pos ((b + 39373 * (c + 1)) * (48271 + (c + 1))) (show (0 : Int) < 2147483647 by decide)
    generalize (b + 39373 * (c + 1)) * (48271 + (c + 1)) % 2147483647 = x at *
    have y0 := Int.emod_nonneg (x * (x % 40009 + 7) + (c + 1)) (show (2147483629 : Int) ≠ 0 by decide)
    have y1 := Int.emod_lt_of_pos (x * (x % 40009 + 7) + (c + 1)) (show (0 : Int) < 2147483629 by decide)
    generalize (x * (x % 40009 + 7) + (c + 1)) % 2147483629 = y at *
    refine ⟨.inl (.inl ⟨by omega, by omega⟩), .inl (.inr ⟨by omega, by omega⟩), .inl (.inl ⟨by omega, by omega⟩), .inl (.inl ⟨by omega, by omega⟩), wdiv (by decide) (by decide), ?_⟩
    exact wk.id (h _ _ ⟨_, rfl, Int.emod_nonneg _ (by omega), Int.emod_lt_of_pos _ h1⟩ ⟨a, y, c + 1, rfl, a0, y0, y1, by omega, by omega⟩)
/-- the script at a place, or 0 -/
def spCell : DCall := fun ds μ k => ∃ (ns : List Int) (i : Nat), ds = [.scr (ns.map D.int), .int i] ∧ ∀ v : Int, k (.int v) μ
theorem spec_l_cell_at : ∀ ds μ k, ds.length = 2 → spCell ds μ k → d_l_cell_at { nx := fun _ μ' => wk k .non μ', rt := wk k } (startD 2 ds) μ := by
  rintro ds μ k - ⟨ns, i, rfl, h⟩
  show d_l_cell_at _ [some (.scr (ns.map D.int)), some (.int i)] μ
  unfold d_l_cell_at
  walk_at "dl"
  rw [List.length_map]
  refine ifc (fun hi => ?_) (fun hi => wk.id (h _))
  have hi' : i < ns.length := by omega
  exact ⟨.int ns[i], atI_nat (by rw [List.getElem?_map, List.getElem?_eq_getElem hi']; rfl), wk.id (h _)⟩
/-- a new tape -/
def spTape : DCall := fun ds μ k => ∃ (ns : List Int) (i : Nat), ds = [.scr (ns.map D.int), .int i] ∧ i ≤ 1000 ∧ ∀ t o, μ t = none → Tp (2 ^ 59) [.int 0, .int 0, .int 0, .int 0] o → k (.ref t) (mset μ t o)
theorem spec_l_tape : ∀ ds μ k, ds.length = 2 → spTape ds μ k → d_l_tape spCell { nx := fun _ μ' => wk k .non μ', rt := wk k } (startD 3 ds) μ := by
  rintro ds μ k - ⟨ns, i, rfl, hi, h⟩
  show d_l_tape spCell _ [some (.scr (ns.map D.int)), some (.int i), none] μ
  unfold d_l_tape
  walk_at "dl"
  refine ⟨ns, i, rfl, fun v => ?_⟩
  walk_at "dl"
  have w0 : 0 ≤ (if v < 0 then -v else v) := by split <;> omega
  generalize (if v < 0 then -v else v) = w at *
  have z : ∀ x : Int, (x = 0 ∨ x = 1) → (CMul w x ∨ CMulW w x) ∧ 0 ≤ w * x := fun x hx => by
    rcases hx with rfl | rfl
    · exact ⟨.inl (.inr ⟨by decide, by decide⟩), by rw [Int.mul_zero]; exact Int.le_refl 0⟩
    · exact ⟨.inl (.inr ⟨by decide, by decide⟩), by rw [Int.mul_one]; exact w0⟩
  have hz := z (if (1000000000000000000 : Int) ≤ w then 1 else 0) (by split <;> simp)
  generalize (if (1000000000000000000 : Int) ≤ w then (1 : Int) else 0) = x at *
  have v0 := Int.emod_nonneg v (show (2147483647 : Int) ≠ 0 by decide)
  have v1 := Int.emod_lt_of_pos v (show (0 : Int) < 2147483647 by decide)
  have y0 := Int.emod_nonneg ((v % 2147483647 + 7919 * i + 11) * 48271) (show (2147483629 : Int) ≠ 0 by decide)
  have y1 := Int.emod_lt_of_pos ((v % 2147483647 + 7919 * i + 11) * 48271) (show (0 : Int) < 2147483629 by decide)
  exact ⟨⟨by decide, by decide, by decide⟩, hz.1, .inl (.inl ⟨by decide, by decide⟩), .inl (.inr ⟨by decide, by decide⟩), by decide, by decide, by decide, by decide, fun t nt => wk.id (h t _ nt ⟨_, _, 0, rfl, hz.2, y0, y1, Int.le_refl 0, by decide⟩)⟩
theorem cut_tail {A B : Prop} (h : B → A) (b : B) : A := h b
theorem ix3 {v : Int} {a b c : D} {P : D → Prop} (h0 : 0 ≤ v) (h1 : v < 3) (ha : P a) (hb : P b) (hc : P c) : ∃ x, L2.atI [a, b, c] v = some x ∧ P x :=
  atI_any h0 h1 fun x hx => by
    simp only [List.mem_cons, List.not_mem_nil, or_false] at hx
    rcases hx with rfl | rfl | rfl <;> assumption
theorem ix2 {v : Int} {a b : D} {P : D → Prop} (h0 : 0 ≤ v) (h1 : v < 2) (ha : P a) (hb : P b) : ∃ x, L2.atI [a, b] v = some x ∧ P x :=
  atI_any h0 h1 fun x hx => by
    simp only [List.mem_cons, List.not_mem_nil, or_false] at hx
    rcases hx with rfl | rfl <;> assumption
theorem ix4 {v : Int} {a b c d : D} {P : D → Prop} (h0 : 0 ≤ v) (h1 : v < 4) (ha : P a) (hb : P b) (hc : P c) (hd : P d) : ∃ x, L2.atI [a, b, c, d] v = some x ∧ P x :=
  atI_any h0 h1 fun x hx => by
    simp only [List.mem_cons, List.not_mem_nil, or_false] at hx
    rcases hx with rfl | rfl | rfl | rfl <;> assumption
theorem draw {C : Nat} {t : Addr} {n : Nat} {r : List D} {o : MO} {μ : Mu} {many : Int} {k : KD} (e : μ t = some o) (hT : Tp (n + 1) r o) (h0 : 0 < many) (h1 : many < 10000000000000)
    (h : ∀ (v : Int) o', 0 ≤ v → v < many → Tp n r o' → k (.int v) (mset μ t o')) : spTake [.ref t, .int many] μ k :=
  ⟨t, many, rfl, h0, h1, n, r, o, e, hT, fun d o' ⟨v, hv, a, b⟩ hT' => by rw [hv]; exact h v o' a b hT'⟩
theorem ix5 {v : Int} {a b c d e : D} {P : D → Prop} (h0 : 0 ≤ v) (h1 : v < 5) (ha : P a) (hb : P b) (hc : P c) (hd : P d) (he : P e) : ∃ x, L2.atI [a, b, c, d, e] v = some x ∧ P x :=
  atI_any h0 h1 fun x hx => by
    simp only [List.mem_cons, List.not_mem_nil, or_false] at hx
    rcases hx with rfl | rfl | rfl | rfl | rfl <;> assumption
theorem ix6 {v : Int} {a b c d e f : D} {P : D → Prop} (h0 : 0 ≤ v) (h1 : v < 6) (ha : P a) (hb : P b) (hc : P c) (hd : P d) (he : P e) (hf : P f) : ∃ x, L2.atI [a, b, c, d, e, f] v = some x ∧ P x :=
  atI_any h0 h1 fun x hx => by
    simp only [List.mem_cons, List.not_mem_nil, or_false] at hx
    rcases hx with rfl | rfl | rfl | rfl | rfl | rfl <;> assumption
theorem ix7 {v : Int} {a b c d e f g : D} {P : D → Prop} (h0 : 0 ≤ v) (h1 : v < 7) (ha : P a) (hb : P b) (hc : P c) (hd : P d) (he : P e) (hf : P f) (hg : P g) : ∃ x, L2.atI [a, b, c, d, e, f, g] v = some x ∧ P x :=
  atI_any h0 h1 fun x hx => by
    simp only [List.mem_cons, List.not_mem_nil, or_false] at hx
    rcases hx with rfl | rfl | rfl | rfl | rfl | rfl | rfl <;> assumption
local macro_rules | `(tactic| walk_at "hs") => `(tactic| repeat' (first | exact hs.non | exact hs.bl | assumption | refine hs.wd ?_ | refine hs.int ?_ | refine hs.tup ?_ ?_ | refine hs.lst ?_ ?_ | exact hs.mem0 | refine hs.mem ?_ ?_ | exact len_le (Nat.le_of_ble_eq_true rfl) | decide +kernel | omega))
local macro_rules | `(tactic| walk_at "hv") => `(tactic| (try simp only [vol_tup, vol_lst, vols_cons, vols_nil, vol_int, vol_nD, vol_non]) <;> omega)
local macro_rules | `(tactic| walk_at "dec2") => `(tactic| (repeat (refine ⟨le_sz (Nat.le_of_ble_eq_true rfl), ?_⟩)))
theorem p4 (s : Nat) : 1 ≤ 4 ^ s := by
  induction s with
  | zero => decide
  | succ n ih => rw [Nat.pow_succ]; omega
theorem p4s (s : Nat) : 4 ^ (s + 1) = 4 * 4 ^ s := by rw [Nat.pow_succ, Nat.mul_comm]
/-- many at once: a tuple or a list -/
def many (mk : List D → D) : Prop := mk = D.tup ∨ mk = D.lst
def spAs : DCall := fun ds μ k => ∃ (mk : List D → D) (xs ys : List D) (v : D), ds = [mk xs, v] ∧ many mk ∧ lsR μ v = some ys ∧ (mk = D.tup → k (.tup ys) μ) ∧ (mk = D.lst → k v μ)
theorem spec_l_as : ∀ ds μ k, ds.length = 2 → spAs ds μ k → d_l_as { nx := fun _ μ' => wk k .non μ', rt := wk k } (startD 2 ds) μ := by
  rintro ds μ k - ⟨mk, xs, ys, v, rfl, hm, hv, h1, h2⟩
  show d_l_as _ [some (mk xs), some v] μ
  unfold d_l_as
  rcases hm with rfl | rfl
  · walk_at "dk"
    cases v with
    | tup zs => cases hv
    | _ => exact ⟨ys, hv, wk.id (h1 rfl)⟩
  · walk_at "dk"
    exact wk.id (h2 rfl)
theorem cut_mid {xs : List D} (i : Nat) : DL.cutD xs (some (i : Int)) (some ((i : Int) + 1)) = (xs.drop i).take 1 := by
  unfold DL.cutD
  rw [show ((i : Int) + 1) = ((i + 1 : Nat) : Int) by omega, HT.sIx_nat, HT.sIx_nat]
  rcases Nat.lt_or_ge i xs.length with h | h
  · rw [Nat.min_eq_left (Nat.le_of_lt h), Nat.min_eq_left h]
    rw [show i + 1 - i = 1 by omega]
  · rw [Nat.min_eq_right h, Nat.min_eq_right (by omega), Nat.sub_self, List.take_zero, List.drop_eq_nil_of_le h, List.take_nil]
theorem eq_nil_lst {ps : List D} : eqD (.lst ps) (.lst []) = ps.isEmpty := by
  cases ps with
  | nil => rfl
  | cons _ _ => rfl
/-- what a list may come to by one step -/
structure Gz (s m V : Nat) (ys : List D) : Prop where
  l : ys.length ≤ 900 + (s + 1)
  h : ∀ x ∈ ys, hs (s + 1) (m + 1) x
  v : D.vols ys ≤ 2 * V + 200
section
variable {s m : Nat} {xs : List D}
theorem up1 (h : ∀ x ∈ xs, hs s m x) : ∀ x ∈ xs, hs (s + 1) (m + 1) x := fun x hx => (h x hx).up (by omega) (by omega)
theorem vols_drop (xs : List D) (i : Nat) : D.vols (xs.drop i) ≤ D.vols xs := by have := vols_td xs i; omega
theorem vols_take (xs : List D) (i : Nat) : D.vols (xs.take i) ≤ D.vols xs := by have := vols_td xs i; omega
theorem gz_del (h : ∀ x ∈ xs, hs s m x) (l : xs.length ≤ 900 + s) (i : Nat) : Gz s m (D.vols xs) (xs.take i ++ xs.drop (i + 1)) := by
  refine ⟨?_, fun x hx => ?_, ?_⟩
  · rw [List.length_append, List.length_take, List.length_drop]; omega
  · rcases List.mem_append.mp hx with hx | hx
    · exact up1 h x (List.mem_of_mem_take hx)
    · exact up1 h x (List.mem_of_mem_drop hx)
  · have := vols_take xs i; have := vols_drop xs (i + 1)
    rw [vols_app]; omega
theorem gz_dbl (h : ∀ x ∈ xs, hs s m x) (l : xs.length ≤ 900 + s) (i : Nat) : Gz s m (D.vols xs) (xs.take i ++ (xs.drop i).take 1 ++ xs.drop i) := by
  refine ⟨?_, fun x hx => ?_, ?_⟩
  · rw [List.length_append, List.length_append, List.length_take, List.length_take, List.length_drop]; omega
  · rcases List.mem_append.mp hx with hx | hx
    · rcases List.mem_append.mp hx with hx | hx
      · exact up1 h x (List.mem_of_mem_take hx)
      · exact up1 h x (List.mem_of_mem_drop (List.mem_of_mem_take hx))
    · exact up1 h x (List.mem_of_mem_drop hx)
  · have := vols_td xs i; have := vols_take (xs.drop i) 1; have := vols_drop xs i
    rw [vols_app, vols_app]; omega
theorem gz_rev (h : ∀ x ∈ xs, hs s m x) (l : xs.length ≤ 900 + s) : Gz s m (D.vols xs) xs.reverse :=
  ⟨by rw [List.length_reverse]; omega, fun x hx => up1 h x (List.mem_reverse.mp hx), by rw [vols_rev]; omega⟩
theorem gz_id (h : ∀ x ∈ xs, hs s m x) (l : xs.length ≤ 900 + s) : Gz s m (D.vols xs) xs := ⟨by omega, up1 h, by omega⟩
theorem gz_put (h : ∀ x ∈ xs, hs s m x) (l : xs.length ≤ 900 + s) (i : Nat) {y : D} (hy : hs (s + 1) (m + 1) y) (hv : y.vol ≤ D.vols xs + 100) : Gz s m (D.vols xs) (xs.take i ++ [y] ++ xs.drop i) := by
  refine ⟨?_, fun x hx => ?_, ?_⟩
  · rw [List.length_append, List.length_append, List.length_take, List.length_drop]
    show _ + 1 + _ ≤ _
    omega
  · rcases List.mem_append.mp hx with hx | hx
    · rcases List.mem_append.mp hx with hx | hx
      · exact up1 h x (List.mem_of_mem_take hx)
      · rw [List.mem_singleton.mp hx]; exact hy
    · exact up1 h x (List.mem_of_mem_drop hx)
  · have := vols_td xs i
    rw [vols_app, vols_app, vols_cons, vols_nil]
    omega
theorem Gz.go {V : Nat} {ys : List D} {mk : List D → D} (g : Gz s m V ys) (hm : many mk) : hs (s + 1) (m + 2) (mk ys) ∧ (mk ys).vol ≤ 2 * V + 900 := by
  rcases hm with rfl | rfl
  · exact ⟨hs.tup g.l g.h, by rw [vol_tup]; have := g.v; omega⟩
  · exact ⟨hs.lst g.l g.h, by rw [vol_lst]; have := g.v; omega⟩
end
/-- what a thing spoilt once is -/
def Sp (s m V : Nat) (d : D) : Prop := hs (s + 1) (m + 2) d ∧ d.vol ≤ 2 * V + 900
def spMany : DCall := fun ds μ k => ∃ (t : Addr) (mk : List D → D) (xs : List D) (s m n : Nat) (r : List D) (o : MO), ds = [.ref t, mk xs] ∧ many mk ∧ xs.length ≤ 900 + s ∧ s ≤ 5 ∧ m ≤ 30 ∧ (∀ x ∈ xs, hs s m x) ∧ μ t = some o ∧ Tp (n + 3) r o ∧
  ∀ d' o', Sp s m (D.vols xs) d' → Tp n r o' → k d' (mset μ t o')
theorem at6 {v : Int} {a b c d e f : D} {P : D → Prop} (h0 : 0 ≤ v) (h1 : v < 6) (ha : P a) (hb : P b) (hc : P c) (hd : P d) (he : P e) (hf : P f) : ∃ x, L2.atI [a, b, c, d, e, f] v = some x ∧ P x :=
  atI_any h0 h1 fun x hx => by
    simp only [List.mem_cons, List.not_mem_nil, or_false] at hx
    rcases hx with rfl | rfl | rfl | rfl | rfl | rfl <;> assumption
theorem lsR_lst {μ : Mu} (ys : List D) : lsR μ (.lst ys) = some ys := rfl
theorem many_t1 {t : Addr} {mk : List D → D} {xs : List D} {s m n p : Nat} {w : Int} {r : List D} {o' : MO} {μ : Mu} {k : KD} {y : D} (hm : many mk) (hl : xs.length ≤ 900 + s) (hs5 : s ≤ 5) (hx : ∀ x ∈ xs, hs s m x) (hT : Tp n r o') (w0 : 0 ≤ w) (w1 : w < 9)
    (hy : hs (s + 1) (m + 1) y) (hv : y.vol ≤ D.vols xs + 100) (h : ∀ d' o', Sp s m (D.vols xs) d' → Tp n r o' → k d' (mset μ t o')) :
    d_l_step_of_many_t1 spTake spAs { nx := fun _ μ' => wk k .non μ', rt := wk k } [some (.ref t), some (mk xs), some (.lst xs), some (.int p), some (.int w), some y] (mset μ t o') := by
  unfold d_l_step_of_many_t1
  have big : ∀ j : Nat, j ≤ 2000 → j ≤ sizeLine := fun j hj => Nat.le_trans hj (by decide)
  have as_ : ∀ (ys : List D), Gz s m (D.vols xs) ys → spAs [mk xs, .lst ys] (mset μ t o') (wk k) := fun ys g =>
    ⟨mk, xs, ys, .lst ys, rfl, hm, rfl, fun _ => wk.id (h _ o' (g.go (mk := D.tup) (.inl rfl)) hT), fun _ => wk.id (h _ o' (g.go (mk := D.lst) (.inr rfl)) hT)⟩
  have lt : ∀ i, (xs.take i).length ≤ 905 := fun i => by rw [List.length_take]; omega
  have ld : ∀ i, (xs.drop i).length ≤ 905 := fun i => by rw [List.length_drop]; omega
  have l1 : ∀ i, ((xs.drop i).take 1).length ≤ 1 := fun i => by rw [List.length_take]; omega
  have ne : ∀ j : Int, ¬ (w == j) = true → w ≠ j := fun j z e => z (by rw [e]; exact beq_self_eq_true j)
  have e1 : ((p : Int) + 1) = ((p + 1 : Nat) : Int) := by omega
  rcases hm with rfl | rfl
  all_goals
    walk_at "dk"
    simp only [cut_mid]
    simp only [e1, cutD_take, cutD_drop]
    refine ifc (fun _ => ⟨big _ (by have := lt p; have := ld (p + 1); omega), as_ _ (gz_del hx hl p)⟩) (fun z2 => ifc (fun _ => ⟨big _ (by have := lt p; have := l1 p; omega), big _ (by have := lt p; have := l1 p; have := ld p; rw [List.length_append]; omega), as_ _ (gz_dbl hx hl p)⟩) (fun z3 => ifc (fun _ => as_ _ (gz_rev hx hl)) (fun z4 => ifc (fun _ => ?_) (fun z5 => ifc (fun _ => ⟨big _ (by decide), big _ (by have := lt p; show _ + 1 ≤ _; omega), big _ (by have := lt p; have := ld p; rw [List.length_append]; show _ + 1 + _ ≤ _; omega), as_ _ (gz_put hx hl p hy hv)⟩) (fun z6 => ?_)))))
  · exact wk.id (h _ o' ((gz_id hx hl).go (mk := D.lst) (.inr rfl)) hT)
  · obtain ⟨x, h1, h2⟩ := ix2 (v := w - 7) (P := Sp s m (D.vols xs)) (a := .tup []) (b := .non) (by have := ne _ z3; have := ne _ z4; have := ne _ z5; omega) (by omega) ⟨hs.tup (by simp) hs.mem0, by walk_at "hv"⟩ ⟨hs.non, by walk_at "hv"⟩
    exact ⟨Nat.zero_le _, le_sz (by decide), x, h1, wk.id (h x o' h2 hT)⟩
  · exact wk.id (h _ o' ((gz_id hx hl).go (mk := D.tup) (.inl rfl)) hT)
  · obtain ⟨x, h1, h2⟩ := ix2 (v := w - 7) (P := Sp s m (D.vols xs)) (a := .tup []) (b := .non) (by have := ne _ z3; have := ne _ z4; have := ne _ z5; omega) (by omega) ⟨hs.tup (by simp) hs.mem0, by walk_at "hv"⟩ ⟨hs.non, by walk_at "hv"⟩
    exact ⟨Nat.zero_le _, le_sz (by decide), x, h1, wk.id (h x o' h2 hT)⟩
theorem spec_l_step_of_many : ∀ ds μ k, ds.length = 2 → spMany ds μ k → d_l_step_of_many spTake spAs { nx := fun _ μ' => wk k .non μ', rt := wk k } (startD 6 ds) μ := by
  rintro ds μ k - ⟨t, mk, xs, s, m, n, r, o, rfl, hm, hl, hs5, m30, hx, e, hT, h⟩
  show d_l_step_of_many spTake spAs _ [some (.ref t), some (mk xs), none, none, none, none] μ
  unfold d_l_step_of_many
  have smx : sm 32 (.lst xs) := sm_mono (m + 1) 32 _ (by omega) (hs_sm (s := s) (by omega) (m + 1) (.lst xs) ⟨hl, hx⟩).1
  have start : ∀ {K : KD}, K (.lst xs) μ → dCB (rdList false) (dCons (dVar 1) dNil) [some (.ref t), some (mk xs), none, none, none, none] μ K := fun {K} hK => by
    rcases hm with rfl | rfl
    · walk_at "dk"; exact hK
    · walk_at "dk"; exact hK
  refine start ?_
  have fin : ∀ (p : Nat) (w u : Int) (o3 o4 : MO) (z : D), 0 ≤ w → w < 9 → 0 ≤ u → u < 6 → Tp n r o4 → hs (s + 1) (m + 1) z → z.vol ≤ D.vols xs + 100 →
      ∃ v, L2.atI [.int 0, .int 1, .non, .bl true, .tup [], z] u = some v ∧ d_l_step_of_many_t1 spTake spAs { nx := fun _ μ' => wk k .non μ', rt := wk k } [some (.ref t), some (mk xs), some (.lst xs), some (.int p), some (.int w), some v] (mset μ t o4) := fun p w u o3 o4 z w0 w1 u0 u1 hT4 hz hzv => by
    have hs1 : ∀ i : Int, i.natAbs ≤ 1 → hs (s + 1) (m + 1) (.int i) := fun i hi => hs.int (by have := p4 (s + 1); omega)
    obtain ⟨v, h1, h2, h3⟩ := at6 (v := u) (P := fun y => hs (s + 1) (m + 1) y ∧ y.vol ≤ D.vols xs + 100) (a := .int 0) (b := .int 1) (c := .non) (d := .bl true) (e := .tup []) (f := z) u0 u1 ⟨hs1 0 (by decide), by walk_at "hv"⟩ ⟨hs1 1 (by decide), by walk_at "hv"⟩ ⟨hs.non, by walk_at "hv"⟩ ⟨hs.bl, by show 30 ≤ _; omega⟩ ⟨hs.tup (by simp) hs.mem0, by walk_at "hv"⟩ ⟨hz, hzv⟩
    exact ⟨v, h1, many_t1 hm hl hs5 hx hT4 w0 w1 h2 h3 h⟩
  generalize hd : mk xs = d1 at *
  walk_at "dk"
  refine draw (C := 0) (n := n + 2) (many := (xs.length : Int) + 1) e (hT.mono (by omega)) (by omega) (by omega) fun p o1 p0 p1 hT1 => ?_
  obtain ⟨p, rfl⟩ : ∃ y : Nat, p = y := ⟨p.toNat, by omega⟩
  walk_at "dk"
  refine draw (C := 0) (n := n + 1) (many := 9) mset_same (hT1.mono (by omega)) (by decide) (by decide) fun w o2 w0 w1 hT2 => ?_
  rw [mset_mset]
  walk_at "dk"
  refine ⟨Nat.zero_le _, Nat.zero_le _, sm_okD smx, sm_okD (n := 1) (d := .lst []) ⟨Nat.zero_le _, (fun _ z => nomatch z)⟩, ?_⟩
  rw [eq_nil_lst]
  refine ifc (fun z => ?_) (fun z => ?_)
  · obtain ⟨y, hy, hm9⟩ : ∃ y, L2.atI xs (-1) = some y ∧ y ∈ xs := by
      rcases List.eq_nil_or_concat xs with q | ⟨ys, y, q⟩
      · rw [q] at z; cases z
      · rw [q, List.concat_eq_append]
        exact ⟨y, atI_snoc, by simp⟩
    refine ⟨y, hy, le_sz (by decide), draw (C := 0) (n := n) (many := 6) mset_same hT2 (by decide) (by decide) fun u o3 u0 u1 hT3 => ?_⟩
    rw [mset_mset]
    have := vols_mem hm9
    exact fin p w u o2 o3 y w0 w1 u0 u1 hT3 ((hx y hm9).up (by omega) (by omega)) (by omega)
  · refine ⟨le_sz (by decide), draw (C := 0) (n := n) (many := 6) mset_same hT2 (by decide) (by decide) fun u o3 u0 u1 hT3 => ?_⟩
    rw [mset_mset]
    exact fin p w u o2 o3 (.int (-1)) w0 w1 u0 u1 hT3 (hs.int (by have := p4 (s + 1); omega)) (by walk_at "hv")
/-! one step -/
theorem at9 {v : Int} {a b c d e f g h i : D} {P : D → Prop} (h0 : 0 ≤ v) (h1 : v < 9) (ha : P a) (hb : P b) (hc : P c) (hd : P d) (he : P e) (hf : P f) (hg : P g) (hh : P h) (hi : P i) : ∃ x, L2.atI [a, b, c, d, e, f, g, h, i] v = some x ∧ P x :=
  atI_any h0 h1 fun x hx => by
    simp only [List.mem_cons, List.not_mem_nil, or_false] at hx
    rcases hx with rfl | rfl | rfl | rfl | rfl | rfl | rfl | rfl | rfl <;> assumption
theorem p45 {s : Nat} (h : s ≤ 5) : 4 ^ s ≤ 1024 := Nat.le_trans (Nat.pow_le_pow_right (by decide) h) (by decide)
theorem tostr_asc {i : Int} (h : i.natAbs < 10 ^ 13) : asc 30 (Str.ofString (toString i)) := by
  have h1 := int_text_length_le10 (a := i) (k := 22) (by decide) (Nat.lt_trans h (by decide))
  have e : (Str.ofString (toString i)).length = (toString i).length := PySem.ofString_length _
  refine ⟨by omega, fun c hc => ?_⟩
  refine Classical.byContradiction fun z => int_text_free' c ⟨by omega, .inr (by omega)⟩ i hc
def spStep : DCall := fun ds μ k => ∃ (t : Addr) (d : D) (s m n : Nat) (r : List D) (o : MO), ds = [.ref t, d] ∧ hs s m d ∧ s ≤ 5 ∧ m ≤ 30 ∧ μ t = some o ∧ Tp (n + 4) r o ∧ ∀ d' o', Sp s m d.vol d' → Tp n r o' → k d' (mset μ t o')
theorem spec_l_step : ∀ ds μ k, ds.length = 2 → spStep ds μ k → d_l_step spMany spTake { nx := fun _ μ' => wk k .non μ', rt := wk k } (startD 5 ds) μ := by
  rintro ds μ k - ⟨t, d, s, m, n, r, o, rfl, hd, hs5, m30, e, hT, h⟩
  show d_l_step spMany spTake _ [some (.ref t), some d, none, none, none] μ
  unfold d_l_step
  unfold dSlT
  have q1 := p4 s
  have q2 := p4s s
  have q5 := p45 hs5
  have rest : (∀ (w : Int) (o1 : MO), 0 ≤ w → w < 9 → Tp (n + 3) r o1 → ∃ v, L2.atI [.int 0, .int 1, .tup [], .str "", .non, .bl true, .bl false, .lst [], .int 2] w = some v ∧ wk k v (mset μ t o1)) := fun w o1 w0 w1 hT1 => by
    obtain ⟨v, h1, h2⟩ := at9 (v := w) (P := Sp s m d.vol) w0 w1 (a := .int 0) (b := .int 1) (c := .tup []) (d := .str (Str.ofString "")) (e := .non) (f := .bl true) (g := .bl false) (h := .lst []) (i := .int 2)
      ⟨hs.int (by omega), by walk_at "hv"⟩ ⟨hs.int (by omega), by walk_at "hv"⟩ ⟨hs.tup (by simp) hs.mem0, by walk_at "hv"⟩ ⟨hs.wd (by decide +kernel), by have := vol_asc (L := 0) (x := Str.ofString "") (asc_of (by decide +kernel)); omega⟩ ⟨hs.non, by walk_at "hv"⟩ ⟨hs.bl, by show 30 ≤ _; omega⟩ ⟨hs.bl, by show 30 ≤ _; omega⟩ ⟨hs.lst (by simp) hs.mem0, by walk_at "hv"⟩ ⟨hs.int (by omega), by walk_at "hv"⟩
    exact ⟨v, h1, wk.id (h v o1 h2 (hT1.mono (by omega)))⟩
  cases d with
  | ref _ => cases m <;> cases hd
  | ty _ => cases m <;> cases hd
  | scr _ => cases m <;> cases hd
  | obj _ _ _ => cases m <;> cases hd
  | tup xs =>
    obtain ⟨m, rfl, hl, hx⟩ : ∃ m', m = m' + 1 ∧ xs.length ≤ 900 + s ∧ ∀ x ∈ xs, hs s m' x := by cases m with | zero => cases hd | succ m => exact ⟨m, rfl, hd⟩
    walk_at "dk"
    exact ⟨t, D.tup, xs, s, m, n + 1, r, o, rfl, .inl rfl, hl, hs5, by omega, hx, e, hT, fun d' o' h1 h3 => wk.id (h d' o' ⟨h1.1.up (Nat.le_refl _) (by omega), by rw [vol_tup]; have := h1.2; omega⟩ (h3.mono (by omega)))⟩
  | lst xs =>
    obtain ⟨m, rfl, hl, hx⟩ : ∃ m', m = m' + 1 ∧ xs.length ≤ 900 + s ∧ ∀ x ∈ xs, hs s m' x := by cases m with | zero => cases hd | succ m => exact ⟨m, rfl, hd⟩
    walk_at "dk"
    exact ⟨t, D.lst, xs, s, m, n + 1, r, o, rfl, .inr rfl, hl, hs5, by omega, hx, e, hT, fun d' o' h1 h3 => wk.id (h d' o' ⟨h1.1.up (Nat.le_refl _) (by omega), by rw [vol_lst]; have := h1.2; omega⟩ (h3.mono (by omega)))⟩
  | str x =>
    have ha := hs_asc hd
    walk_at "dk"
    refine draw (C := 0) (n := n + 3) (many := 9) e (hT.mono (by omega)) (by decide) (by decide) fun w o1 w0 w1 hT1 => ?_
    walk_at "dk"
    have xl := ha.1
    have lx : x.length ≤ sizeLine := Nat.le_trans xl (Nat.le_trans (show 30 + s ≤ 40 by omega) (by decide))
    refine ⟨lx, draw (C := 0) (n := n + 2) (many := (x.length : Int) + 1) mset_same (hT1.mono (by omega)) (by omega) (by omega) fun p o2 p0 p1 hT2 => ?_⟩
    obtain ⟨p, rfl⟩ : ∃ y : Nat, p = y := ⟨p.toNat, by omega⟩
    rw [mset_mset]
    walk_at "dk"
    have e1 : ((p : Int) + 1) = ((p + 1 : Nat) : Int) := by omega
    simp only [e1, cutS_take, cutS_drop]
    have big : ∀ j : Nat, j ≤ 2000 → j ≤ sizeLine := fun j hj => Nat.le_trans hj (by decide)
    have tp := asc_takeS ha p
    have td := asc_dropS ha (p + 1)
    have tq := asc_dropS ha p
    have o0 : asc 1 (Str.ofString "0") := asc_of (by decide +kernel)
    have o1' : asc 1 (Str.ofString "1") := asc_of (by decide +kernel)
    have o2' : asc 1 (Str.ofString "2") := asc_of (by decide +kernel)
    have r0 := asc_app tp o0
    have r1 := asc_app tp o1'
    have r2 := asc_app tp o2'
    have f0 := asc_app r0 td
    have f1 := asc_app r1 td
    have f2 := asc_app r2 td
    have f3 := asc_app r1 tq
    have f4 := asc_app tp td
    generalize hA : (Str.mk (List.take p x.cps.toList).toArray) = A at *
    generalize hB : (Str.mk (List.drop (p + 1) x.cps.toList).toArray) = B at *
    generalize hC : (Str.mk (List.drop p x.cps.toList).toArray) = C at *
    have l1 := tp.1; have l2 := td.1; have l3 := tq.1; have l4 := o0.1; have l5 := o1'.1; have l6 := o2'.1; have l7 := r0.1; have l8 := r1.1; have l9 := r2.1
    have sp : ∀ {L : Nat} {z : Str}, asc L z → L ≤ 31 + s → Sp s m (D.str x).vol (.str z) := fun {L z} hz hL => ⟨asc_hs (hz.le (by omega)), by have := vol_asc hz; omega⟩
    refine ⟨lx, big _ (by omega), lx, big _ (by omega), lx, big _ (by omega), lx, big _ (by omega), lx, big _ (by omega), lx, big _ (by omega), big _ (by decide), lx, lx, big _ (by omega), lx, big _ (by omega), lx, big _ (by omega), big _ (by decide), big _ (by decide), big _ (by decide), ?_⟩
    obtain ⟨v, h1, h2⟩ := at9 (v := w) (P := Sp s m (D.str x).vol) w0 w1 (a := .str (A ++ Str.ofString "0" ++ B)) (b := .str (A ++ Str.ofString "1" ++ B)) (c := .str (A ++ Str.ofString "1" ++ C)) (d := .str (A ++ B)) (e := .str (A ++ Str.ofString "2" ++ B)) (f := .str (Str.ofString "")) (g := .non) (h := .int 0) (i := .tup [.str x])
      (sp f0 (by omega)) (sp f1 (by omega)) (sp f3 (by omega)) (sp f4 (by omega)) (sp f2 (by omega)) ⟨hs.wd (by decide +kernel), by have := vol_asc (L := 0) (x := Str.ofString "") (asc_of (by decide +kernel)); omega⟩ ⟨hs.non, by walk_at "hv"⟩ ⟨hs.int (by omega), by walk_at "hv"⟩ ⟨hs.tup (by show 1 ≤ _; omega) (hs.mem (hd.up (by omega) (by omega)) hs.mem0), by walk_at "hv"⟩
    exact ⟨v, h1, wk.id (h v o2 h2 (hT2.mono (by omega)))⟩
  | int i =>
    have hi : i.natAbs ≤ 10 ^ 9 * 4 ^ s := by cases m <;> exact hd
    walk_at "dk"
    refine draw (C := 0) (n := n + 3) (many := 9) e (hT.mono (by omega)) (by decide) (by decide) fun w o1 a0 a1 hT1 => ?_
    walk_at "dk"
    unfold rdStr
    have hl : i.natAbs.log2 < 1920 := by
      by_cases z : i.natAbs = 0
      · rw [z]; decide
      · exact (Nat.log2_lt z).mpr (Nat.lt_of_le_of_lt hi (Nat.lt_of_lt_of_le (show 10 ^ 9 * 4 ^ s < 2 ^ 100 by omega) (Nat.pow_le_pow_right (by decide) (by decide))))
    have ht := tostr_asc (i := i) (Nat.lt_of_le_of_lt hi (by omega))
    refine ⟨.inl (.inl ⟨by decide, by decide⟩), hl, le_sz (by decide), le_sz (by decide), ?_⟩
    obtain ⟨v, h1, h2⟩ := at9 (v := w) (P := Sp s m (D.int i).vol) a0 a1 (a := .int (i + 1)) (b := .int (i - 1)) (c := .int (0 - i)) (d := .int (2 * i)) (e := .bl true) (f := .non) (g := .str (Str.ofString (toString i))) (h := .lst [.int i]) (i := .bl false)
      ⟨hs.int (by omega), by walk_at "hv"⟩ ⟨hs.int (by omega), by walk_at "hv"⟩ ⟨hs.int (by omega), by walk_at "hv"⟩ ⟨hs.int (by omega), by walk_at "hv"⟩ ⟨hs.bl, by show 30 ≤ _; omega⟩ ⟨hs.non, by walk_at "hv"⟩ ⟨asc_hs (ht.le (by omega)), by have := vol_asc ht; omega⟩ ⟨hs.lst (by show 1 ≤ _; omega) (hs.mem (hs.int (by omega)) hs.mem0), by walk_at "hv"⟩ ⟨hs.bl, by show 30 ≤ _; omega⟩
    exact ⟨v, h1, wk.id (h v o1 h2 (hT1.mono (by omega)))⟩
  | non =>
    walk_at "dk"
    refine draw (C := 0) (n := n + 3) (many := 9) e (hT.mono (by omega)) (by decide) (by decide) fun w o1 a0 a1 hT1 => ?_
    walk_at "dk"
    walk_at "dec2"
    exact rest w o1 a0 a1 hT1
  | bl b =>
    walk_at "dk"
    refine draw (C := 0) (n := n + 3) (many := 9) e (hT.mono (by omega)) (by decide) (by decide) fun w o1 a0 a1 hT1 => ?_
    walk_at "dk"
    walk_at "dec2"
    exact rest w o1 a0 a1 hT1
/-! the ways to all parts -/
mutual
def spots : D → List (List Nat)
  | .tup xs => spotsL 0 xs
  | .lst xs => spotsL 0 xs
  | _ => []
def spotsL : Nat → List D → List (List Nat)
  | _, [] => []
  | i, x :: xs => ([i] :: (spots x).map (i :: ·)) ++ spotsL (i + 1) xs
end
def paD (p : List Nat) : D := .tup (p.map nD)
def okP : List Nat → D → Prop
  | [], _ => True
  | i :: p, d => ∃ (mk : List D → D) (xs : List D) (x : D), many mk ∧ d = mk xs ∧ xs[i]? = some x ∧ okP p x
theorem spotsL_app : ∀ (a b : List D) (k : Nat), spotsL k (a ++ b) = spotsL k a ++ spotsL (k + a.length) b
  | [], b, k => by simp only [spotsL, List.nil_append, List.length_nil, Nat.add_zero]
  | x :: a, b, k => by
    rw [List.cons_append]
    simp only [spotsL]
    rw [spotsL_app a b (k + 1), List.append_assoc, List.length_cons, show k + 1 + a.length = k + (a.length + 1) by omega]
mutual
theorem spots_len : ∀ d : D, (spots d).length ≤ d.vol
  | .tup xs => by have := spotsL_len xs 0; simp only [spots, D.vol]; omega
  | .lst xs => by have := spotsL_len xs 0; simp only [spots, D.vol]; omega
  | .non => Nat.zero_le _
  | .bl _ => Nat.zero_le _
  | .int _ => Nat.zero_le _
  | .str _ => Nat.zero_le _
  | .ref _ => Nat.zero_le _
  | .ty _ => Nat.zero_le _
  | .scr _ => Nat.zero_le _
  | .obj _ _ _ => Nat.zero_le _
theorem spotsL_len : ∀ (xs : List D) (k : Nat), (spotsL k xs).length ≤ D.vols xs
  | [], _ => Nat.zero_le _
  | x :: xs, k => by
    have := spots_len x
    have := spotsL_len xs (k + 1)
    simp only [spotsL, D.vols, List.length_append, List.length_cons, List.length_map]
    omega
end
theorem spotsL_in : ∀ (xs : List D) (k : Nat) (p : List Nat), p ∈ spotsL k xs → ∃ j x q, p = (k + j) :: q ∧ xs[j]? = some x ∧ (q = [] ∨ q ∈ spots x)
  | [], _, _, h => by simp only [spotsL] at h; exact absurd h List.not_mem_nil
  | x :: xs, k, p, h => by
    simp only [spotsL] at h
    rcases List.mem_append.mp h with h | h
    · rcases List.mem_cons.mp h with rfl | h
      · exact ⟨0, x, [], rfl, rfl, .inl rfl⟩
      · obtain ⟨q, hq, rfl⟩ := List.mem_map.mp h
        exact ⟨0, x, q, rfl, rfl, .inr hq⟩
    · obtain ⟨j, y, q, rfl, h1, h2⟩ := spotsL_in xs (k + 1) p h
      exact ⟨j + 1, y, q, by rw [show k + 1 + j = k + (j + 1) by omega], by rw [List.getElem?_cons_succ]; exact h1, h2⟩
theorem sm_many {m : Nat} {mk : List D → D} {xs : List D} (hm : many mk) (h : sm m (mk xs)) : ∃ n, m = n + 1 ∧ xs.length ≤ 1000000 ∧ ∀ x ∈ xs, sm n x := by
  rcases hm with rfl | rfl
  all_goals
    cases m with
    | zero => cases h
    | succ n => exact ⟨n, rfl, h⟩
theorem spots_ok : ∀ (m : Nat) (d : D), sm m d → ∀ p ∈ spots d, p ≠ [] ∧ okP p d ∧ p.length ≤ m := by
  have go : ∀ (n : Nat), (∀ d : D, sm n d → ∀ p ∈ spots d, p ≠ [] ∧ okP p d ∧ p.length ≤ n) → ∀ (mk : List D → D) (xs : List D), many mk → (∀ x ∈ xs, sm n x) → ∀ p ∈ spotsL 0 xs, p ≠ [] ∧ okP p (mk xs) ∧ p.length ≤ n + 1 := fun n ih mk xs hm hx p hp => by
    obtain ⟨j, x, q, rfl, h1, h2⟩ := spotsL_in xs 0 p hp
    rw [Nat.zero_add]
    refine ⟨List.cons_ne_nil _ _, ⟨mk, xs, x, hm, rfl, h1, ?_⟩, ?_⟩
    · rcases h2 with rfl | h2
      · exact trivial
      · exact (ih x (hx x (List.mem_of_getElem? h1)) q h2).2.1
    · rcases h2 with rfl | h2
      · show 1 ≤ _; omega
      · have := (ih x (hx x (List.mem_of_getElem? h1)) q h2).2.2
        rw [List.length_cons]; omega
  intro m
  induction m with
  | zero => intro d h p hp; cases d <;> first | exact absurd hp List.not_mem_nil | cases h
  | succ n ih =>
    intro d h p hp
    cases d with
    | tup xs => exact go n ih D.tup xs (.inl rfl) h.2 p (by simp only [spots] at hp; exact hp)
    | lst xs => exact go n ih D.lst xs (.inr rfl) h.2 p (by simp only [spots] at hp; exact hp)
    | _ => exact absurd hp List.not_mem_nil
def spSpots : Nat → DCall
  | 0 => fun _ _ _ => False
  | j + 1 => fun ds μ k => ∃ (d : D) (m : Nat), ds = [d] ∧ sm m d ∧ m ≤ j ∧ m ≤ 1000 ∧ d.vol ≤ 1000000 ∧ k (.lst ((spots d).map paD)) μ
theorem spec_l_spots : ∀ j ds μ k, ds.length = 1 → spSpots (j + 1) ds μ k → d_l_spots (spSpots j) { nx := fun _ μ' => wk k .non μ', rt := wk k } (startD 5 ds) μ := by
  rintro j ds μ k - ⟨d, m, rfl, h, hm, hm2, hv, hh⟩
  show d_l_spots (spSpots j) _ [some d, none, none, none, none] μ
  unfold d_l_spots
  have big : ∀ j : Nat, j ≤ 1000000 → j ≤ sizeLine := fun j hj => Nat.le_trans hj (by decide)
  have loop : ∀ (mk : List D → D) (xs : List D), many mk → sm m (mk xs) → D.vols xs + 3 = d.vol → spots d = spotsL 0 xs → ∀ b, μ b = none →
      dForL (fun _ => True) (dgTup 2 (dgCons (dgName 2) (dgCons (dgName 3) dgNil))) (dSeq (dDrop (dBM rdAppend (dVar 1) (dCons (dTup (dCons (dVar 2) dNil)) dNil)))
        (dDrop (dBM rdExtend (dVar 1) (dCons (dLc false (diSeq (dCall 1 (spSpots j) (dCons (dVar 3) dNil))) (dgName 4) dYes (dOp (rdAdd false) (dTup (dCons (dVar 2) dNil)) (dVar 4)) [4]) dNil))))
        { nx := dRet (dVar 1) { nx := fun _ μ' => wk k .non μ', rt := wk k }, rt := wk k } (enumD 0 xs) [some (mk xs), some (.ref b), none, none, none] (mset μ b (.lst [])) := fun mk xs hmk hs2 ev es b nb => by
    obtain ⟨n, rfl, hl, hx⟩ := sm_many hmk hs2
    obtain ⟨j, rfl⟩ : ∃ i, j = i + 1 := ⟨j - 1, by omega⟩
    refine for_ind (fun i ρ M => ∃ x2 x3 x4, ρ = [some (mk xs), some (.ref b), x2, x3, x4] ∧ M = mset μ b (.lst ((spotsL 0 (xs.take i)).map paD))) ⟨none, none, none, rfl, by simp [spotsL]⟩ ?_ ?_
    · rintro i z9 ρ M K hz ⟨x2, x3, x4, rfl, rfl⟩ hK
      obtain ⟨x, hx9, rfl⟩ := enumD_some hz
      have hm3 := List.mem_of_getElem? hx9
      have hlt := (List.getElem?_eq_some_iff.mp hx9).1
      have le : xs.take (i + 1) = xs.take i ++ [x] := by rw [List.take_add_one, hx9]; rfl
      have e2 : spotsL 0 (xs.take (i + 1)) = spotsL 0 (xs.take i) ++ ([i] :: (spots x).map (i :: ·)) := by
        rw [le, spotsL_app, List.length_take, Nat.min_eq_left (Nat.le_of_lt hlt), Nat.zero_add]
        simp only [spotsL, List.append_nil]
      have l1 := spotsL_len (xs.take (i + 1)) 0
      have l2 := vols_take xs (i + 1)
      rw [e2] at l1
      simp only [List.length_append, List.length_cons, List.length_map] at l1
      have vx := vols_mem hm3
      refine ⟨trivial, ?_⟩
      walk_at "dk"
      refine ⟨⟨_, rfl⟩, le_sz (by decide), Nat.lt_of_lt_of_le (show _ < 1000000 by rw [List.length_map]; omega) (by decide), ⟨_, rfl⟩, ?_⟩
      refine ⟨x, n, rfl, hx x hm3, by omega, by omega, by omega, ?_⟩
      walk_at "dk"
      refine lc_map (ys := spots x) (enc := paD) (fun p => paD (i :: p)) trivial (by omega) (fun p hp k9 e9 hk9 => ?_) ?_
      · simp only [paD]
        walk_at "dk"
        have := (spots_ok n x (hx x hm3) p hp).2.2
        exact ⟨le_sz (by decide), by rw [List.length_map]; exact big _ (by omega), hk9⟩
      · simp only [mset_same, mset_mset]
        refine ⟨big _ (by simp only [List.length_append, List.length_map, List.length_cons, List.length_nil]; omega), hK _ _ ⟨_, _, _, rfl, ?_⟩⟩
        rw [e2, List.map_append, List.map_cons, List.map_map]
        simp [paD, nD]
        rfl
    · rintro ρ M ⟨x2, x3, x4, rfl, rfl⟩
      refine ⟨trivial, ?_⟩
      walk_at "dk"
      rw [enumD_length, List.take_length, ← es]
      exact wk.frzNew nb hh
  cases d with
  | ref _ => cases m <;> cases h
  | ty _ => cases m <;> cases h
  | scr _ => cases m <;> cases h
  | obj _ _ _ => cases m <;> cases h
  | tup xs =>
    walk_at "dk"
    refine ⟨Nat.zero_le _, fun b nb => ?_⟩
    exact loop D.tup xs (.inl rfl) h rfl (by simp only [spots]) b nb
  | lst xs =>
    walk_at "dk"
    refine ⟨Nat.zero_le _, fun b nb => ?_⟩
    exact loop D.lst xs (.inr rfl) h rfl (by simp only [spots]) b nb
  | _ => walk_at "dk"; exact ⟨Nat.zero_le _, fun b nb => wk.frzNew nb hh⟩
/-! a part at some way changed by a step -/
theorem ixN_nat {n x : Nat} (h : x < n) : ixN n (x : Int) = some x := by
  unfold ixN
  rw [if_pos (by omega), if_pos (by omega)]
  rfl
def spBentAt : Nat → DCall
  | 0 => fun _ _ _ => False
  | j + 1 => fun ds μ k => ∃ (t : Addr) (d : D) (p : List Nat) (s m n : Nat) (r : List D) (o : MO), ds = [.ref t, d, paD p] ∧ hs s m d ∧ s ≤ 5 ∧ m ≤ 30 ∧ okP p d ∧ p.length ≤ j ∧ p.length ≤ 100 ∧ μ t = some o ∧ Tp (n + 4) r o ∧
    ∀ d' o', Sp s m d.vol d' → (p ≠ [] → ∀ x, d = .lst [x] → ∃ x', d' = .lst [x']) → Tp n r o' → k d' (mset μ t o')
theorem hs_many {s m : Nat} {mk : List D → D} {xs : List D} (hm : many mk) (h : hs s m (mk xs)) : ∃ n, m = n + 1 ∧ xs.length ≤ 900 + s ∧ ∀ x ∈ xs, hs s n x := by
  rcases hm with rfl | rfl
  all_goals
    cases m with
    | zero => cases h
    | succ n => exact ⟨n, rfl, h⟩
theorem spec_l_bent_at : ∀ j ds μ k, ds.length = 3 → spBentAt (j + 1) ds μ k → d_l_bent_at spStep (spBentAt j) spAs { nx := fun _ μ' => wk k .non μ', rt := wk k } (startD 4 ds) μ := by
  rintro j ds μ k - ⟨t, d, p, s, m, n, r, o, rfl, hd, hs5, m30, hp, hj, hj2, e, hT, h⟩
  show d_l_bent_at spStep (spBentAt j) spAs _ [some (.ref t), some d, some (paD p), none] μ
  unfold d_l_bent_at
  have nil1 : okD (D.tup []) := sm_okD (n := 1) (d := .tup []) ⟨Nat.zero_le _, (fun _ z => nomatch z)⟩
  cases p with
  | nil =>
    simp only [paD, List.map_nil]
    walk_at "dk"
    refine ⟨Nat.zero_le _, nil1, nil1, ifc (fun _ => ?_) (fun z => absurd (by decide) z)⟩
    exact ⟨t, d, s, m, n, r, o, rfl, hd, hs5, m30, e, hT, fun d' o' h1 h3 => wk.id (h d' o' h1 (fun z => absurd rfl z) h3)⟩
  | cons i q =>
    obtain ⟨mk, xs, x, hm, rfl, hi, hq⟩ := hp
    obtain ⟨m, rfl, hl, hx⟩ := hs_many hm hd
    rw [List.length_cons] at hj hj2
    obtain ⟨j, rfl⟩ : ∃ i, j = i + 1 := ⟨j - 1, by omega⟩
    have hlt := (List.getElem?_eq_some_iff.mp hi).1
    have hmem := List.mem_of_getElem? hi
    have ax : L2.atI xs (i : Int) = some x := atI_nat hi
    have smq : sm 1 (D.tup (nD i :: q.map nD)) := ⟨by rw [List.length_cons, List.length_map]; omega, fun y hy => by
      rcases List.mem_cons.mp hy with rfl | hy
      · trivial
      · obtain ⟨z, _, rfl⟩ := List.mem_map.mp hy
        trivial⟩
    have e1 : ∀ l : List D, DL.cutD (nD i :: l) (some (1 : Int)) none = l := fun l => cutD_drop (nD i :: l) 1
    have vx := vols_mem hmem
    have vm : ∀ ys, (mk ys).vol = D.vols ys + 3 := fun ys => by rcases hm with rfl | rfl <;> rfl
    have fin : ∀ d' o', Sp s m x.vol d' → Tp n r o' → k (mk (xs.set i d')) (mset μ t o') := fun d' o' h1 h2 => by
      have hg : ∀ z ∈ xs.set i d', hs (s + 1) (m + 2) z := fun z hz => by
        rcases List.mem_or_eq_of_mem_set hz with hz | rfl
        · exact (hx z hz).up (by omega) (by omega)
        · exact h1.1
      have hv := vols_set (y := d') hi
      have hv2 := h1.2
      refine h _ o' ⟨?_, by rw [vm, vm]; omega⟩ (fun _ y hy => ?_) h2
      · rcases hm with rfl | rfl
        · exact hs.tup (by rw [List.length_set]; omega) hg
        · exact hs.lst (by rw [List.length_set]; omega) hg
      · rcases hm with rfl | rfl
        · cases hy
        · cases hy
          rw [List.length_cons, List.length_nil] at hlt
          obtain rfl : i = 0 := by omega
          exact ⟨d', rfl⟩
    simp only [paD, List.map_cons]
    rcases hm with rfl | rfl
    all_goals
      walk_at "dk"
      refine ⟨Nat.zero_le _, sm_okD smq (by decide), nil1, ifc (fun z => absurd z Bool.noConfusion) (fun _ => ?_)⟩
      intro b nb
      have nbt : b ≠ t := fun z => by rw [z, e] at nb; cases nb
      refine ⟨x, ax, ?_⟩
      rw [e1]
      refine ⟨t, x, q, s, m, n, r, o, rfl, hx x hmem, hs5, by omega, hq, by omega, by omega, by rw [mset_ne nbt.symm]; exact e, hT, fun d' o' h1 _ hT' => ?_⟩
      have hb : ∀ y, mset (mset μ b y) t o' b = some y := fun y => by rw [mset_ne nbt]; exact mset_same
      have nb2 : mset μ t o' b = none := by rw [mset_ne nbt]; exact nb
      simp only [hb]
      refine ⟨i, ixN_nat hlt, ?_⟩
      rw [mset_comm nbt, mset_mset]
      refine ⟨_, xs, xs.set i d', .ref b, rfl, by first | exact .inl rfl | exact .inr rfl, by unfold lsR; simp only [mset_same], fun z => ?_, fun z => ?_⟩
      · first
          | exact wk.sub (Sub.new nb2) (fin d' o' h1 hT')
          | exact absurd (congrFun z []) D.noConfusion
      · first
          | exact absurd (congrFun z []) D.noConfusion
          | (refine wk.frz mset_same ?_
             rw [mdel_mset nb2]
             exact fin d' o' h1 hT')
theorem ite_int {c : Prop} {i : Decidable c} (A : Int → Prop) {a b : Int} (h1 : A a) (h2 : A b) : A (@ite Int c i a b) := by
  by_cases h : c
  · rw [if_pos h]; exact h1
  · rw [if_neg h]; exact h2
/-- one or two parts changed -/
def spBent : DCall := fun ds μ k => ∃ (t : Addr) (d : D) (m n : Nat) (r : List D) (o : MO), ds = [.ref t, .lst [d]] ∧ hs 0 m (.lst [d]) ∧ m ≤ 6 ∧ (D.lst [d]).vol ≤ 200000 ∧ μ t = some o ∧ Tp (n + 13) r o ∧
  ∀ d' o', hs 2 (m + 4) (.lst [d']) → (D.lst [d']).vol ≤ 3200000 → Tp n r o' → k (.lst [d']) (mset μ t o')
theorem hs_sm2 {s m : Nat} {d : D} (h : hs s m d) (h1 : s ≤ 5) (h2 : m ≤ 20) : sm 20 d := sm_mono m 20 d h2 (hs_sm (by omega) m d h).1
theorem spec_l_bent : ∀ ds μ k, ds.length = 2 → spBent ds μ k → d_l_bent spTake (spSpots 12) (spBentAt 12) { nx := fun _ μ' => wk k .non μ', rt := wk k } (startD 5 ds) μ := by
  rintro ds μ k - ⟨t, d, m, n, r, o, rfl, hd, m6, hv, e, hT, h⟩
  show d_l_bent spTake (spSpots 12) (spBentAt 12) _ [some (.ref t), some (.lst [d]), none, none, none] μ
  unfold d_l_bent
  walk_at "dk"
  refine draw (C := 0) (n := n + 12) (many := 4) e (hT.mono (by omega)) (by decide) (by decide) fun w o1 w0 w1 hT1 => ?_
  walk_at "dk"
  have main : ∀ c : Nat, c ≤ 2 → R62 (c : Int) ∧ dForL (fun x => True) (dgName 3)
      (dSeq (dSet 4 (dCall 1 (spSpots 12) (dCons (dVar 2) dNil)))
        (dSet 2 (dCall 3 (spBentAt 12) (dCons (dVar 0) (dCons (dVar 2) (dCons (dOp rdIx (dVar 4) (dCall 2 spTake (dCons (dVar 0) (dCons (dCB rdLen (dCons (dVar 4) dNil)) dNil)))) dNil))))))
      { nx := dRet (dVar 2) { nx := fun x μ' => wk k D.non μ', rt := wk k }, rt := wk k } (upto 0 (c : Int).toNat) [some (D.ref t), some (D.lst [d]), some (D.lst [d]), none, none] (mset μ t o1) := fun c c2 => by
    refine ⟨⟨by omega, by omega⟩, ?_⟩
    refine for_ind (fun i ρ M => ∃ (y : D) (x3 x4 : Option D) (o2 : MO), ρ = [some (.ref t), some (.lst [d]), some (.lst [y]), x3, x4] ∧ M = mset μ t o2 ∧ hs i (m + 2 * i) (.lst [y]) ∧ (D.lst [y]).vol ≤ 200000 * 4 ^ i ∧ Tp (n + 6 * (2 - i)) r o2) ⟨d, none, none, o1, rfl, rfl, hd, by rw [Nat.pow_zero]; omega, hT1⟩ ?_ ?_
    · rintro i z ρ M K hz ⟨y, x3, x4, o2, rfl, rfl, hy, hv2, hT2⟩ hK
      obtain ⟨hi, rfl⟩ := upto_some hz
      have hi2 : i ≤ 1 := by omega
      have q1 : 4 ^ (i + 1) = 4 * 4 ^ i := p4s i
      have q2 := p4 i
      have q3 : 4 ^ i ≤ 4 := Nat.le_trans (Nat.pow_le_pow_right (by decide) hi2) (by decide)
      have sy : sm (m + 2 * i) (.lst [y]) := (hs_sm (by omega) _ _ hy).1
      have ne : spots (.lst [y]) ≠ [] := by
        simp only [spots, spotsL, List.cons_append]
        exact List.cons_ne_nil _ _
      have hl : 0 < (spots (.lst [y])).length := List.length_pos_iff.mpr ne
      have hl2 := spots_len (.lst [y])
      refine ⟨trivial, ?_⟩
      walk_at "dk"
      refine ⟨_, m + 2 * i, rfl, sy, (show m + 2 * i ≤ 11 by omega), by omega, by omega, ?_⟩
      walk_at "dk"
      refine draw (C := 0) (n := n + 6 * (2 - i) - 1) (many := (((spots (.lst [y])).map paD).length : Int)) mset_same (hT2.mono (by omega)) (by rw [List.length_map]; omega) (by rw [List.length_map]; omega) fun v o3 v0 v1 hT3 => ?_
      rw [mset_mset]
      obtain ⟨x, hx, p, hp, rfl⟩ := atI_any (xs := (spots (.lst [y])).map paD) (P := fun x => ∃ p, p ∈ spots (.lst [y]) ∧ x = paD p) v0 v1 fun x hx => by
        obtain ⟨p, hp, rfl⟩ := List.mem_map.mp hx
        exact ⟨p, hp, rfl⟩
      obtain ⟨p1, p2, p3⟩ := spots_ok _ _ sy p hp
      refine ⟨_, hx, t, .lst [y], p, i, m + 2 * i, n + 6 * (2 - i) - 5, r, o3, rfl, hy, by omega, by omega, p2, (show p.length ≤ 11 by omega), by omega, mset_same, hT3.mono (by omega), fun d' o' h1 h2 hT' => ?_⟩
      obtain ⟨y', rfl⟩ := h2 p1 y rfl
      rw [mset_mset]
      exact hK _ _ ⟨y', _, _, o', rfl, rfl, h1.1, by have := h1.2; omega, hT'.mono (by omega)⟩
    · rintro ρ M ⟨y, x3, x4, o2, rfl, rfl, hy, hv2, hT2⟩
      have el : (upto 0 (c : Int).toNat).length = c := by rw [upto_length]; omega
      rw [el] at hy hv2 hT2
      have q3 : 4 ^ c ≤ 16 := Nat.le_trans (Nat.pow_le_pow_right (by decide) c2) (by decide)
      refine ⟨trivial, ?_⟩
      walk_at "dk"
      exact wk.id (h y o2 (hy.up c2 (by omega)) (by omega) (hT2.mono (by omega)))
  exact ite_int (fun z => R62 (1 + z) ∧ dForL (fun x => True) (dgName 3)
      (dSeq (dSet 4 (dCall 1 (spSpots 12) (dCons (dVar 2) dNil)))
        (dSet 2 (dCall 3 (spBentAt 12) (dCons (dVar 0) (dCons (dVar 2) (dCons (dOp rdIx (dVar 4) (dCall 2 spTake (dCons (dVar 0) (dCons (dCB rdLen (dCons (dVar 4) dNil)) dNil)))) dNil))))))
      { nx := dRet (dVar 2) { nx := fun x μ' => wk k D.non μ', rt := wk k }, rt := wk k } (upto 0 (1 + z).toNat) [some (D.ref t), some (D.lst [d]), some (D.lst [d]), none, none] (mset μ t o1)) (main 2 (by decide)) (main 1 (by decide))
/-! tables of stretches -/
abbrev Sx := Nat × Nat × List (Nat × Nat)
def prD (p : Nat × Nat) : D := .tup [nD p.1, nD p.2]
def thD (th : List (Nat × Nat)) : D := .tup (th.map prD)
def stD (s : Sx) : D := .tup [nD s.1, nD s.2.1, thD s.2.2]
def tbD (T : List Sx) : D := .lst (T.map stD)
/-- a stretch holds a row -/
def inS (row : Nat) (s : Sx) : Bool := decide (s.1 ≤ row ∧ row < s.2.1)
def foundT (T : List Sx) (row : Nat) : D := match T.find? (inS row) with
  | some s => thD s.2.2
  | none => .tup []
structure VT (T : List Sx) : Prop where
  pos : ∀ s ∈ T, s.1 < s.2.1
  sor : T.Pairwise fun a b => a.2.1 ≤ b.1
theorem VT.lt {T : List Sx} (v : VT T) {i j : Nat} {a b : Sx} (h : i < j) (ha : T[i]? = some a) (hb : T[j]? = some b) : a.2.1 ≤ b.1 := by
  obtain ⟨hi, ea⟩ := List.getElem?_eq_some_iff.mp ha
  obtain ⟨hj, eb⟩ := List.getElem?_eq_some_iff.mp hb
  have := List.pairwise_iff_getElem.mp v.sor i j hi hj h
  rw [ea, eb] at this
  exact this
/-- by halves: the stretch, how many were looked at -/
def halv (T : List Sx) (row lo hi many : Nat) : Option Sx × Nat :=
  if h : lo < hi then
    match T[(lo + hi) / 2]? with
    | some s => if row < s.1 then halv T row lo ((lo + hi) / 2) (many + 1) else if s.2.1 ≤ row then halv T row ((lo + hi) / 2 + 1) hi (many + 1) else (some s, many + 1)
    | none => (none, many + 1)
  else (none, many)
termination_by hi - lo
decreasing_by all_goals omega
theorem halv_end {T : List Sx} {row lo hi many : Nat} (h : ¬ lo < hi) : halv T row lo hi many = (none, many) := by
  rw [halv]; rw [dif_neg h]
theorem halv_step {T : List Sx} {row lo hi many : Nat} {s : Sx} (h : lo < hi) (hs : T[(lo + hi) / 2]? = some s) : halv T row lo hi many =
    if row < s.1 then halv T row lo ((lo + hi) / 2) (many + 1) else if s.2.1 ≤ row then halv T row ((lo + hi) / 2 + 1) hi (many + 1) else (some s, many + 1) := by
  rw [halv, dif_pos h]
  simp only [hs]
theorem find_here {T : List Sx} {row m : Nat} {s : Sx} (hs : T[m]? = some s) (p : inS row s = true) (b : ∀ i x, i < m → T[i]? = some x → inS row x = false) : T.find? (inS row) = some s := by
  obtain ⟨hm, e⟩ := List.getElem?_eq_some_iff.mp hs
  refine List.find?_eq_some_iff_getElem.mpr ⟨p, m, hm, e, fun j hj => ?_⟩
  rw [b j _ hj (List.getElem?_eq_getElem (by omega))]
  rfl
theorem halv_find {T : List Sx} (v : VT T) {row : Nat} : ∀ (n lo hi many : Nat), hi - lo ≤ n → hi ≤ T.length → (∀ i s, i < lo → T[i]? = some s → s.2.1 ≤ row) → (∀ i s, hi ≤ i → T[i]? = some s → row < s.1) →
    (halv T row lo hi many).1 = T.find? (inS row) := by
  intro n
  induction n with
  | zero =>
    intro lo hi many hn hl h1 h2
    rw [halv_end (by omega)]
    symm
    refine List.find?_eq_none.mpr fun s hs => ?_
    obtain ⟨i, hi2, e⟩ := List.getElem_of_mem hs
    have ei : T[i]? = some s := by rw [List.getElem?_eq_getElem hi2, e]
    intro z
    have z := of_decide_eq_true z
    rcases Nat.lt_or_ge i lo with q | q
    · have := h1 i s q ei; omega
    · have := h2 i s (by omega) ei; omega
  | succ n ih =>
    intro lo hi many hn hl h1 h2
    by_cases hlt : lo < hi
    · have hm : (lo + hi) / 2 < T.length := by omega
      have es := List.getElem?_eq_getElem hm
      rw [halv_step hlt es]
      generalize hS : T[(lo + hi) / 2] = s at *
      have hp := v.pos s (List.mem_of_getElem? es)
      split
      · rename_i hr
        refine ih lo _ _ (by omega) (by omega) h1 fun i x hi2 hx => ?_
        rcases Nat.lt_or_ge ((lo + hi) / 2) i with q | q
        · have := v.lt q es hx; omega
        · have : i = (lo + hi) / 2 := by omega
          subst this
          rw [es] at hx
          cases hx
          exact hr
      · split
        · rename_i hr1 hr2
          refine ih _ hi _ (by omega) hl (fun i x hi2 hx => ?_) h2
          rcases Nat.lt_or_ge i ((lo + hi) / 2) with q | q
          · have := v.lt q hx es; omega
          · have : i = (lo + hi) / 2 := by omega
            subst this
            rw [es] at hx
            cases hx
            exact hr2
        · rename_i hr1 hr2
          symm
          refine find_here es (decide_eq_true ⟨by omega, by omega⟩) fun i x hi2 hx => ?_
          have := v.lt hi2 hx es
          exact decide_eq_false fun z => by omega
    · rw [halv_end hlt]
      symm
      refine List.find?_eq_none.mpr fun s hs => ?_
      obtain ⟨i, hi2, e⟩ := List.getElem_of_mem hs
      have ei : T[i]? = some s := by rw [List.getElem?_eq_getElem hi2, e]
      intro z
      have z := of_decide_eq_true z
      rcases Nat.lt_or_ge i lo with q | q
      · have := h1 i s q ei; omega
      · have := h2 i s (by omega) ei; omega
theorem halved_find {T : List Sx} (v : VT T) (row : Nat) : (halv T row 0 T.length 0).1 = T.find? (inS row) :=
  halv_find v T.length 0 T.length 0 (by omega) (Nat.le_refl _) (fun i s h => absurd h (by omega)) fun i s h hs => by
    have := (List.getElem?_eq_some_iff.mp hs).1
    omega
theorem pl_th {n : Nat} (th : List (Nat × Nat)) : pl (n + 2) (thD th) := fun d hd => by
  obtain ⟨p, _, rfl⟩ := List.mem_map.mp hd
  intro d hd
  rcases List.mem_cons.mp hd with rfl | hd
  · cases n <;> trivial
  · rw [List.mem_singleton.mp hd]; cases n <;> trivial
theorem pl_st {n : Nat} (s : Sx) : pl (n + 3) (stD s) := fun d hd => by
  rcases List.mem_cons.mp hd with rfl | hd
  · trivial
  · rcases List.mem_cons.mp hd with rfl | hd
    · trivial
    · rw [List.mem_singleton.mp hd]; exact pl_th s.2.2
theorem pl_tb {n : Nat} (T : List Sx) : pl (n + 4) (tbD T) := fun d hd => by
  obtain ⟨s, _, rfl⟩ := List.mem_map.mp hd
  exact pl_st s
theorem sm_th {n : Nat} {th : List (Nat × Nat)} (h : th.length ≤ 1000000) : sm (n + 2) (thD th) := ⟨by rw [List.length_map]; exact h, fun d hd => by
  obtain ⟨p, _, rfl⟩ := List.mem_map.mp hd
  exact ⟨by show 2 ≤ 1000000; decide, fun d hd => by
    rcases List.mem_cons.mp hd with rfl | hd
    · cases n <;> trivial
    · rw [List.mem_singleton.mp hd]; cases n <;> trivial⟩⟩
theorem foundT_cases (T : List Sx) (row : Nat) : foundT T row = .tup [] ∨ ∃ s ∈ T, foundT T row = thD s.2.2 := by
  unfold foundT
  split
  · rename_i s e
    exact .inr ⟨s, List.mem_of_find?_eq_some e, rfl⟩
  · exact .inl rfl
theorem sm_found {n : Nat} {T : List Sx} {row : Nat} (h : ∀ s ∈ T, s.2.2.length ≤ 1000000) : sm (n + 2) (foundT T row) := by
  rcases foundT_cases T row with e | ⟨s, hs, e⟩
  · rw [e]; exact ⟨Nat.zero_le _, fun d hd => nomatch hd⟩
  · rw [e]; exact sm_th (h s hs)
/-! drawn things and tables -/
def okTh (th : List (Nat × Nat)) : Prop := 1 ≤ th.length ∧ th.length ≤ 12 ∧ ∀ p ∈ th, p.1 < 1000000 ∧ p.2 < 1000000
def isTh (d : D) : Prop := ∃ th, d = thD th ∧ okTh th
def spLThing : DCall := fun ds μ k => ∃ t, ds = [.ref t] ∧ Drawn 40 isTh t μ k
theorem spec_l_thing : ∀ ds μ k, ds.length = 1 → spLThing ds μ k → d_l_thing spTake { nx := fun _ μ' => wk k .non μ', rt := wk k } (startD 4 ds) μ := by
  rintro ds μ k - ⟨t, rfl, n, r, o, e, hT, h⟩
  show d_l_thing spTake _ [some (.ref t), none, none, none] μ
  unfold d_l_thing
  walk_at "dk"
  refine ⟨t, 3, rfl, by decide, by decide, n + 39, r, o, e, hT.mono (by omega), fun d o1 hd hT1 => ?_⟩
  obtain ⟨m, rfl, m0, m1⟩ := hd
  refine ⟨t, 8, rfl, by decide, by decide, n + 38, r, o1, mset_same, hT1.mono (by omega), fun d o2 hd hT2 => ?_⟩
  obtain ⟨q, rfl, q0, q1⟩ := hd
  walk_at "dk"
  have rest : ∀ (many : Int) (o3 : MO), 1 ≤ many → many ≤ 12 → Tp (n + 36) r o3 → ∀ goal : Prop, ((goal ↔ (CPow 10 6 ∧ (4 ≤ sizeLine ∧ spTake [.ref t, .int 4] (mset μ t o3) fun d μ1 => (match d with
      | .int i => ∃ v, L2.atI [D.int 2, D.int 3, D.int 12, D.int 1000000] i = some v ∧ (R62 many ∧ dLcL (fun x => True) (dgName 3) dYes (dTup (dCons (dCall 2 spTake (dCons (dVar 0) (dCons (dVar 2) dNil))) (dCons (dCall 2 spTake (dCons (dVar 0) (dCons (dVar 2) dNil))) dNil))) [some (.ref t), some (.int many), some v, none] (fun ds μ2 => wk k (.tup ds) μ2) (upto 0 many.toNat) [] μ1)
      | _ => False))))) → goal := fun many o3 hm1 hm2 hT3 goal hg => hg.mpr ⟨⟨by decide, by decide, by decide⟩, by decide, by
    refine ⟨t, 4, rfl, by decide, by decide, n + 35, r, o3, mset_same, hT3.mono (by omega), fun d o4 hd hT4 => ?_⟩
    obtain ⟨c, rfl, c0, c1⟩ := hd
    obtain ⟨x, hx, w, hw, w0, w1⟩ := atI_any (xs := [D.int 2, D.int 3, D.int 12, D.int 1000000]) (P := fun d => ∃ m : Int, d = .int m ∧ 0 < m ∧ m ≤ 1000000) c0 c1 (by
      intro x hx
      simp only [List.mem_cons, List.not_mem_nil, or_false] at hx
      rcases hx with h | h | h | h <;> subst h <;> exact ⟨_, rfl, by decide, by decide⟩)
    subst hw
    refine ⟨_, hx, ⟨by omega, by omega⟩, ?_⟩
    refine lc_ind (fun i acc μ' => ∃ (th : List (Nat × Nat)) (o : MO), acc = th.map prD ∧ th.length = i ∧ (∀ p ∈ th, p.1 < 1000000 ∧ p.2 < 1000000) ∧ μ' = mset μ t o ∧ Tp (n + 2 * (12 - i)) r o) ⟨[], o4, rfl, rfl, (fun _ h => nomatch h), by rw [mset_mset], hT4.mono (by omega)⟩ ?_ ?_
    · rintro i z acc μ' K hz ⟨th, o5, rfl, hl, hp, rfl, hT5⟩ hK
      obtain ⟨hi, rfl⟩ := upto_some hz
      walk_at "dk"
      refine ⟨t, w, rfl, w0, by omega, n + 2 * (12 - i) - 1, r, o5, mset_same, hT5.mono (by omega), fun d o6 hd hT6 => ?_⟩
      obtain ⟨a, rfl, a0, a1⟩ := hd
      refine ⟨t, w, rfl, w0, by omega, n + 2 * (12 - (i + 1)), r, o6, mset_same, hT6.mono (by omega), fun d o7 hd hT7 => ?_⟩
      obtain ⟨b, rfl, b0, b1⟩ := hd
      refine ⟨by decide, ?_, hK _ _ ⟨th ++ [(a.toNat, b.toNat)], o7, ?_, ?_, ?_, ?_, hT7⟩⟩
      · rw [List.length_map, hl]
        exact Nat.lt_of_lt_of_le (show i < 1000 by omega) (by decide)
      · rw [List.map_append]
        have e1 : (a.toNat : Int) = a := by omega
        have e2 : (b.toNat : Int) = b := by omega
        simp [prD, nD, e1, e2]
      · rw [List.length_append, hl]; rfl
      · intro p hpm
        rcases List.mem_append.mp hpm with q | q
        · exact hp p q
        · simp at q; subst q
          refine ⟨?_, ?_⟩ <;> simp only <;> omega
      · rw [mset_mset, mset_mset]
    · rintro acc μ' ⟨th, o5, rfl, hl, hp, rfl, hT5⟩
      rw [upto_length] at hl
      exact ⟨trivial, wk.id (h _ _ ⟨th, rfl, by omega, by omega, hp⟩ (hT5.mono (by omega)))⟩⟩
  refine ifc (fun hq => ?_) (fun hq => ?_)
  · refine ⟨t, 9, rfl, by decide, by decide, n + 37, r, o2, mset_same, hT2.mono (by omega), fun d o3 hd hT3 => ?_⟩
    obtain ⟨m2, rfl, m20, m21⟩ := hd
    walk_at "dk"
    exact rest (4 + m2) o3 (by omega) (by omega) (hT3.mono (by omega)) _ Iff.rfl
  · exact rest (1 + m) o2 (by omega) (by omega) (hT2.mono (by omega)) _ Iff.rfl
/-! what is due at each row: none, or a thing -/
abbrev Th := List (Nat × Nat)
abbrev Du := List (Option Th)
def oD : Option Th → D
  | none => .non
  | some th => thD th
def duD (U : Du) : D := .lst (U.map oD)
structure okU (U : Du) : Prop where
  len : U.length ≤ 1000
  th : ∀ th, some th ∈ U → th.length ≤ 1000
theorem pl_o {n : Nat} (o : Option Th) : pl (n + 2) (oD o) := by
  cases o with
  | none => trivial
  | some th => exact pl_th th
theorem pl_du {n : Nat} (U : Du) : pl (n + 3) (duD U) := fun d hd => by
  obtain ⟨o, _, rfl⟩ := List.mem_map.mp hd
  exact pl_o o
theorem cut2 {A : Prop} (C : Int → MO → Prop) {G : Int → MO → Prop} (h : (∀ m o, C m o → G m o) → A) (b : ∀ m o, C m o → G m o) : A := h b
def isDue (d : D) : Prop := ∃ U : Du, d = duD U ∧ U.length ≤ 398 ∧ ∀ th, some th ∈ U → th.length ≤ 12
def spLDue : DCall := fun ds μ k => ∃ t, ds = [.ref t] ∧ Drawn 1000 isDue t μ k
theorem spec_l_due : ∀ ds μ k, ds.length = 1 → spLDue ds μ k → d_l_due spTake spLThing { nx := fun _ μ' => wk k .non μ', rt := wk k } (startD 6 ds) μ := by
  rintro ds μ k - ⟨t, rfl, n, r, o, e, hT, h⟩
  show d_l_due spTake spLThing _ [some (.ref t), none, none, none, none, none] μ
  unfold d_l_due
  walk_at "dk"
  refine ⟨t, 3, rfl, by decide, by decide, n + 999, r, o, e, hT.mono (by omega), fun d o1 hd hT1 => ?_⟩
  obtain ⟨m, rfl, m0, m1⟩ := hd
  walk_at "dk"
  refine ⟨⟨by omega, by omega⟩, ?_⟩
  refine lc_ind (fun i acc μ' => ∃ (o : MO), (∀ d ∈ acc, isTh d) ∧ acc.length = i ∧ μ' = mset μ t o ∧ Tp (n + 879 + 40 * (3 - i)) r o) ⟨o1, (fun _ h => nomatch h), rfl, rfl, hT1⟩ ?_ ?_
  · rintro i z acc μ' K hz ⟨o2, hp, hl, rfl, hT2⟩ hK
    obtain ⟨hi, rfl⟩ := upto_some hz
    walk_at "dk"
    refine ⟨t, rfl, n + 879 + 40 * (3 - (i + 1)), r, o2, mset_same, hT2.mono (by omega), fun d o3 hd hT3 => ?_⟩
    refine ⟨?_, hK _ _ ⟨o3, ?_, ?_, ?_, ?_⟩⟩
    · rw [hl]
      exact Nat.lt_of_lt_of_le (show i < 1000 by omega) (by decide)
    · intro x hx
      rcases List.mem_append.mp hx with q | q
      · exact hp x q
      · rw [List.mem_singleton.mp q]; exact hd
    · rw [List.length_append, hl]; rfl
    · rw [mset_mset]
    · exact hT3
  · rintro acc μ' ⟨o2, hp, hl, rfl, hT2⟩
    rw [upto_length] at hl
    walk_at "dk"
    refine ⟨t, 13, rfl, by decide, by decide, n + 878, r, o2, mset_same, hT2.mono (by omega), fun d o3 hd hT3 => ?_⟩
    obtain ⟨m9, rfl, m90, m91⟩ := hd
    refine ⟨t, 8, rfl, by decide, by decide, n + 877, r, o3, mset_same, hT3.mono (by omega), fun d o4 hd hT4 => ?_⟩
    obtain ⟨m8, rfl, m80, m81⟩ := hd
    walk_at "dk"
    rw [upto_length] at hT2
    have hl0 : 1 ≤ acc.length ∧ acc.length ≤ 3 := by omega
    clear hT1 hT2 hT3 hT
    revert m9 o4
    refine cut2 (fun m o => 0 ≤ m ∧ m ≤ 398 ∧ Tp (n + 876) r o) (fun tail m9 m90 m91 o4 hT4 => ifc (fun hq => ?_) (fun hq => tail m9 o4 ⟨by omega, by omega, hT4.mono (by omega)⟩)) ?_
    · refine ⟨t, 386, rfl, by decide, by decide, n + 876, r, o4, mset_same, hT4.mono (by omega), fun d o5 hd hT5 => ?_⟩
      obtain ⟨m5, rfl, m50, m51⟩ := hd
      walk_at "dk"
      exact tail _ _ ⟨by omega, by omega, hT5⟩
    · rintro many o5 ⟨hm0, hm1, hT5⟩
      refine ⟨by decide, fun a na => ?_⟩
      have hne : a ≠ t := by rintro rfl; rw [mset_same] at na; cases na
      have na0 : μ a = none := by rw [mset_ne hne] at na; exact na
      rw [mset_comm hne.symm]
      refine ⟨⟨by omega, by omega⟩, ?_⟩
      have la : ∀ x o, (mset (mset μ a x) t o) a = some x := fun x o => by rw [mset_ne hne, mset_same]
      have sw : ∀ x o y, mset (mset (mset μ a x) t o) a y = mset (mset μ a y) t o := fun x o y => mset_swap hne.symm
      refine for_ind (fun i ρ μ' => ∃ (U : Du) (o : MO) (z w : Option D), ρ = [some (.ref t), some (.lst acc), z, some (.int many), some (.ref a), w] ∧ μ' = mset (mset μ a (.lst (U.map oD))) t o ∧ U.length = i ∧ (∀ th, some th ∈ U → th.length ≤ 12) ∧ Tp (n + 2 * (398 - i)) r o) ⟨[], o5, _, _, rfl, rfl, rfl, (fun _ h => nomatch h), hT5.mono (by omega)⟩ ?_ ?_
      · rintro i z ρ μ' K hz ⟨U, o2, z1, w1, rfl, rfl, hU, hp2, hT2⟩ hK
        obtain ⟨hi, rfl⟩ := upto_some hz
        have ap : ∀ (x : Option Th) (o3 : MO) (w : D), (∀ th, x = some th → th.length ≤ 12) → Tp (n + 2 * (398 - (i + 1))) r o3 → (U.map oD).length < sizeLine ∧ K [some (.ref t), some (.lst acc), some (.int (0 + i)), some (.int many), some (.ref a), some w] (mset (mset μ a (.lst (U.map oD ++ [oD x]))) t o3) := fun x o3 w hx hT3 => ⟨by rw [List.length_map, hU]; exact Nat.lt_of_lt_of_le (show i < 1000 by omega) (by decide), hK _ _ ⟨U ++ [x], o3, _, _, rfl, by rw [List.map_append]; rfl, by rw [List.length_append, hU]; rfl, fun th hth => by
          rcases List.mem_append.mp hth with q | q
          · exact hp2 th q
          · exact hx th (List.mem_singleton.mp q).symm, hT3⟩⟩
        walk_at "dk"
        refine ⟨t, 8, rfl, by decide, by decide, n + 2 * (398 - i) - 1, r, o2, mset_same, hT2.mono (by omega), fun d o3 hd hT3 => ?_⟩
        obtain ⟨x, rfl, x0, x1⟩ := hd
        walk_at "dk"
        refine ifc (fun h1 => ?_) (fun h1 => ifc (fun h2 => ?_) (fun h2 => ?_))
        · rw [la]
          refine ⟨⟨_, rfl⟩, ?_⟩
          have q := ap none o3 (.int x) (fun th e => nomatch e) (hT3.mono (by omega))
          refine ⟨q.1, ?_⟩
          rw [sw]
          exact q.2
        · rw [la]
          refine ⟨⟨_, rfl⟩, by decide, ?_⟩
          have q := ap (some []) o3 (.int x) (fun th e => by cases e; decide) (hT3.mono (by omega))
          refine ⟨q.1, ?_⟩
          rw [sw]
          exact q.2
        · rw [la]
          refine cut_tail (fun pool => ifc (fun h6 => ⟨Nat.zero_le _, pl_okD (pl_du (n := 0) U), pl_okD (n := 1) (fun _ h => nomatch h), ifc (fun hne => ?_) (fun _ => pool)⟩) (fun _ => pool)) ?_
          · obtain ⟨y, hy, hym⟩ : ∃ y, L2.atI (U.map oD) (-1) = some (oD y) ∧ y ∈ U := by
              rcases List.eq_nil_or_concat U with rfl | ⟨U', y, rfl⟩
              · have hne : eqD (.lst (List.map oD [])) (.lst []) = false := hne
                rw [List.map_nil, eqD_same (n := 1) (d := .lst []) (fun _ h => nomatch h)] at hne
                cases hne
              · refine ⟨y, ?_, by rw [List.concat_eq_append]; exact List.mem_append_right _ (List.mem_singleton_self _)⟩
                rw [List.concat_eq_append, List.map_append]
                exact atI_snoc
            have q := ap y o3 (.int x) (fun th e => hp2 th (e ▸ hym)) (hT3.mono (by omega))
            refine ⟨⟨_, rfl⟩, _, rfl, oD y, hy, q.1, ?_⟩
            rw [sw]
            exact q.2
          · refine ⟨⟨_, rfl⟩, t, _, rfl, by omega, by omega, n + 2 * (398 - (i + 1)), r, o3, mset_same, hT3.mono (by omega), fun d o4 hd hT4 => ?_⟩
            obtain ⟨u, rfl, u0, u1⟩ := hd
            walk_at "dk"
            obtain ⟨v3, hv3, hp3⟩ := atI_any (xs := acc) (P := isTh) u0 u1 hp
            obtain ⟨th, rfl, hth⟩ := hp3
            have q := ap (some th) o4 (.int x) (fun th' e => by cases e; exact hth.2.1) hT4
            rw [la]
            refine ⟨_, hv3, q.1, ?_⟩
            rw [sw]
            exact q.2
      · rintro ρ μ' ⟨U, o2, z1, w1, rfl, rfl, hU, hp2, hT2⟩
        rw [upto_length] at hU
        walk_at "dk"
        rw [← mset_comm hne.symm]
        exact wk.frzNew (by rw [mset_ne hne]; exact na0) (h _ _ ⟨U, rfl, by omega, hp2⟩ (hT2.mono (by omega)))
/-! the least table -/
def gU (U : Du) (row : Nat) : Option Th := (U[row]?).getD none
abbrev PL := List Sx × Option Th
def bump (T : List Sx) (n : Nat) (th : Th) : List Sx := T.dropLast ++ [((T.getLast?.map (·.1)).getD n, n + 1, th)]
theorem bump_eq (T : List Sx) (s : Sx) (n : Nat) (th : Th) : bump (T ++ [s]) n th = T ++ [(s.1, n + 1, th)] := by
  unfold bump; simp
def stepL (p : PL) (n : Nat) : Option Th → PL
  | none => p
  | some th => if th = [] then (p.1, some []) else if p.2 = some th then (bump p.1 n th, some th) else (p.1 ++ [(n, n + 1, th)], some th)
def leastP (U : Du) : Nat → PL
  | 0 => ([], none)
  | n + 1 => stepL (leastP U n) n (gU U n)
def leastT (U : Du) : List Sx := (leastP U U.length).1
theorem inS_iff {row : Nat} {s : Sx} : inS row s = true ↔ s.1 ≤ row ∧ row < s.2.1 := by unfold inS; exact decide_eq_true_iff
structure LI (U : Du) (n : Nat) (p : PL) : Prop where
  ne : ∀ s ∈ p.1, s.2.2 ≠ []
  bd : ∀ s ∈ p.1, s.1 < s.2.1 ∧ s.2.1 ≤ n
  so : p.1.Pairwise fun a b => a.2.1 ≤ b.1
  ag : ∀ row th, row < n → gU U row = some th → ∀ s ∈ p.1, inS row s = true → s.2.2 = th
  co : ∀ row th, row < n → gU U row = some th → th ≠ [] → ∃ s ∈ p.1, inS row s = true
  la : ∀ th, p.2 = some th → th ≠ [] → ∃ T s, p.1 = T ++ [s] ∧ s.2.2 = th ∧ ∀ row, s.2.1 ≤ row → row < n → gU U row = none
  src : ∀ s ∈ p.1, ∃ row, gU U row = some s.2.2
  len : p.1.length ≤ n
theorem li_step {U : Du} {n : Nat} {p : PL} (h : LI U n p) : LI U (n + 1) (stepL p n (gU U n)) := by
  cases e : gU U n with
  | none =>
    have up : ∀ row (th : Th), row < n + 1 → gU U row = some th → row < n := fun row th h1 h2 => by
      rcases Nat.lt_succ_iff_lt_or_eq.mp h1 with q | q
      · exact q
      · rw [q, e] at h2; cases h2
    exact ⟨h.ne, fun s hs => ⟨(h.bd s hs).1, Nat.le_succ_of_le (h.bd s hs).2⟩, h.so, fun row th h1 h2 => h.ag row th (up row th h1 h2) h2, fun row th h1 h2 => h.co row th (up row th h1 h2) h2, fun th h1 h2 => by
      obtain ⟨T, s, e1, e2, e3⟩ := h.la th h1 h2
      refine ⟨T, s, e1, e2, fun row q1 q2 => ?_⟩
      rcases Nat.lt_succ_iff_lt_or_eq.mp q2 with q | q
      · exact e3 row q1 q
      · rw [q]; exact e, h.src, Nat.le_succ_of_le h.len⟩
  | some th0 =>
    unfold stepL
    simp only
    by_cases h0 : th0 = []
    · rw [if_pos h0]
      subst h0
      refine ⟨h.ne, fun s hs => ⟨(h.bd s hs).1, Nat.le_succ_of_le (h.bd s hs).2⟩, h.so, fun row th h1 h2 s hs hi => ?_, fun row th h1 h2 h3 => ?_, fun th h1 h2 => ?_, h.src, Nat.le_succ_of_le h.len⟩
      · rcases Nat.lt_succ_iff_lt_or_eq.mp h1 with q | q
        · exact h.ag row th q h2 s hs hi
        · have := (h.bd s hs).2
          have := (inS_iff.mp hi).2
          omega
      · rcases Nat.lt_succ_iff_lt_or_eq.mp h1 with q | q
        · exact h.co row th q h2 h3
        · rw [q, e] at h2; cases h2; exact absurd rfl h3
      · cases h1; exact absurd rfl h2
    · rw [if_neg h0]
      by_cases h1 : p.2 = some th0
      · rw [if_pos h1]
        obtain ⟨T, s, e1, e2, e3⟩ := h.la th0 h1 h0
        rw [e1, bump_eq]
        have hs : s ∈ p.1 := by rw [e1]; exact List.mem_append_right _ (List.mem_singleton_self _)
        have hT : ∀ x ∈ T, x ∈ p.1 := fun x hx => by rw [e1]; exact List.mem_append_left _ hx
        have so := h.so
        rw [e1] at so
        obtain ⟨so1, _, so3⟩ := List.pairwise_append.mp so
        have bs := h.bd s hs
        have mem : ∀ {x}, x ∈ T ++ [(s.1, n + 1, th0)] → x ∈ T ∨ x = (s.1, n + 1, th0) := fun hx => by
          rcases List.mem_append.mp hx with q | q
          · exact .inl q
          · exact .inr (List.mem_singleton.mp q)
        have new : (s.1, n + 1, th0) ∈ T ++ [(s.1, n + 1, th0)] := List.mem_append_right _ (List.mem_singleton_self _)
        refine ⟨fun x hx => ?_, fun x hx => ?_, ?_, fun row th r1 r2 x hx hi => ?_, fun row th r1 r2 r3 => ?_, fun th r1 r2 => ?_, fun x hx => ?_, ?_⟩
        · rcases mem hx with q | rfl
          · exact h.ne x (hT x q)
          · exact h0
        · rcases mem hx with q | rfl
          · exact ⟨(h.bd x (hT x q)).1, Nat.le_succ_of_le (h.bd x (hT x q)).2⟩
          · exact ⟨by show s.1 < n + 1; omega, Nat.le_refl _⟩
        · exact List.pairwise_append.mpr ⟨so1, List.pairwise_singleton _ _, fun a ha b hb => by
            rw [List.mem_singleton.mp hb]; exact so3 a ha s (List.mem_singleton_self _)⟩
        · rcases Nat.lt_succ_iff_lt_or_eq.mp r1 with q | q
          · rcases mem hx with z | rfl
            · exact h.ag row th q r2 x (hT x z) hi
            · have hi := inS_iff.mp hi
              rcases Nat.lt_or_ge row s.2.1 with z | z
              · have := h.ag row th q r2 s hs (inS_iff.mpr ⟨hi.1, z⟩)
                show th0 = th
                rw [← e2]; exact this
              · rw [e3 row z q] at r2; cases r2
          · subst q
            rw [e] at r2; cases r2
            rcases mem hx with z | rfl
            · have := (h.bd x (hT x z)).2
              have := (inS_iff.mp hi).2
              omega
            · rfl
        · rcases Nat.lt_succ_iff_lt_or_eq.mp r1 with q | q
          · obtain ⟨x, hx, hi⟩ := h.co row th q r2 r3
            rw [e1] at hx
            rcases List.mem_append.mp hx with z | z
            · exact ⟨x, List.mem_append_left _ z, hi⟩
            · rw [List.mem_singleton.mp z] at hi
              have hi := inS_iff.mp hi
              exact ⟨_, new, inS_iff.mpr ⟨hi.1, by show row < n + 1; omega⟩⟩
          · exact ⟨_, new, inS_iff.mpr ⟨by show s.1 ≤ row; omega, by show row < n + 1; omega⟩⟩
        · cases r1
          exact ⟨T, _, rfl, rfl, fun row q1 q2 => absurd q2 (by have q1 : n + 1 ≤ row := q1; omega)⟩
        · rcases mem hx with q | rfl
          · exact h.src x (hT x q)
          · exact ⟨n, e⟩
        · have := h.len
          rw [e1] at this
          simp only [List.length_append, List.length_cons, List.length_nil] at this ⊢
          omega
      · rw [if_neg h1]
        have mem : ∀ {x}, x ∈ p.1 ++ [(n, n + 1, th0)] → x ∈ p.1 ∨ x = (n, n + 1, th0) := fun hx => by
          rcases List.mem_append.mp hx with q | q
          · exact .inl q
          · exact .inr (List.mem_singleton.mp q)
        have new : (n, n + 1, th0) ∈ p.1 ++ [(n, n + 1, th0)] := List.mem_append_right _ (List.mem_singleton_self _)
        refine ⟨fun x hx => ?_, fun x hx => ?_, ?_, fun row th r1 r2 x hx hi => ?_, fun row th r1 r2 r3 => ?_, fun th r1 r2 => ?_, fun x hx => ?_, ?_⟩
        · rcases mem hx with q | rfl
          · exact h.ne x q
          · exact h0
        · rcases mem hx with q | rfl
          · exact ⟨(h.bd x q).1, Nat.le_succ_of_le (h.bd x q).2⟩
          · exact ⟨Nat.lt_succ_self n, Nat.le_refl _⟩
        · exact List.pairwise_append.mpr ⟨h.so, List.pairwise_singleton _ _, fun a ha b hb => by
            rw [List.mem_singleton.mp hb]; exact (h.bd a ha).2⟩
        · rcases Nat.lt_succ_iff_lt_or_eq.mp r1 with q | q
          · rcases mem hx with z | rfl
            · exact h.ag row th q r2 x z hi
            · have hi := inS_iff.mp hi
              exact absurd hi.1 (by show ¬ n ≤ row; omega)
          · subst q
            rw [e] at r2; cases r2
            rcases mem hx with z | rfl
            · have := (h.bd x z).2
              have := (inS_iff.mp hi).2
              omega
            · rfl
        · rcases Nat.lt_succ_iff_lt_or_eq.mp r1 with q | q
          · obtain ⟨x, hx, hi⟩ := h.co row th q r2 r3
            exact ⟨x, List.mem_append_left _ hx, hi⟩
          · exact ⟨_, new, inS_iff.mpr ⟨by show n ≤ row; omega, by show row < n + 1; omega⟩⟩
        · cases r1
          exact ⟨p.1, _, rfl, rfl, fun row q1 q2 => absurd q2 (by have q1 : n + 1 ≤ row := q1; omega)⟩
        · rcases mem hx with q | rfl
          · exact h.src x q
          · exact ⟨n, e⟩
        · have := h.len
          simp only [List.length_append, List.length_cons, List.length_nil] at this ⊢
          omega
theorem li (U : Du) : ∀ n, LI U n (leastP U n)
  | 0 => ⟨(fun _ h => nomatch h), (fun _ h => nomatch h), .nil, (fun _ _ h => absurd h (Nat.not_lt_zero _)), (fun _ _ h => absurd h (Nat.not_lt_zero _)), (fun _ h => nomatch h), (fun _ h => nomatch h), Nat.le_refl _⟩
  | n + 1 => li_step (li U n)
theorem gU_mem {U : Du} {row : Nat} {th : Th} (h : gU U row = some th) : some th ∈ U := by
  unfold gU at h
  cases e : U[row]? with
  | none => rw [e] at h; cases h
  | some o => rw [e] at h; cases h; exact List.mem_of_getElem? e
theorem gU_some {U : Du} {row : Nat} {o : Option Th} (h : U[row]? = some o) : gU U row = o := by unfold gU; rw [h]; rfl
theorem vt_least (U : Du) : VT (leastT U) := ⟨fun s hs => ((li U _).bd s hs).1, (li U _).so⟩
theorem len_least (U : Du) : (leastT U).length ≤ U.length := (li U _).len
theorem th_least {U : Du} {m : Nat} (h : ∀ th, some th ∈ U → th.length ≤ m) : ∀ s ∈ leastT U, s.2.2.length ≤ m := fun s hs => by
  obtain ⟨row, e⟩ := (li U _).src s hs
  exact h _ (gU_mem e)
/-- what is found in the least table is what is due -/
theorem found_least {U : Du} {row : Nat} {th : Th} (h : U[row]? = some (some th)) : foundT (leastT U) row = thD th := by
  have hr := (List.getElem?_eq_some_iff.mp h).1
  have g := gU_some h
  unfold foundT
  cases e : (leastT U).find? (inS row) with
  | some s =>
    have := (li U _).ag row th hr g s (List.mem_of_find?_eq_some e) (List.find?_some e)
    show thD s.2.2 = thD th
    rw [this]
  | none =>
    by_cases z : th = []
    · subst z; rfl
    · obtain ⟨s, hs, hi⟩ := (li U _).co row th hr g z
      exact absurd hi (by rw [List.find?_eq_none.mp e s hs |> Bool.eq_false_iff.mpr]; exact Bool.false_ne_true)
theorem map_prD_inj : ∀ {a b : Th}, a.map prD = b.map prD → a = b
  | [], [], _ => rfl
  | [], _ :: _, h => by cases h
  | _ :: _, [], h => by cases h
  | x :: a, y :: b, h => by
    obtain ⟨h1, h2⟩ := List.cons.inj h
    rw [map_prD_inj h2]
    have e1 : x.1 = y.1 := by injection h1 with h1; injection h1 with q1 q2; injection q1 with q1; exact Int.ofNat.inj q1
    have e2 : x.2 = y.2 := by injection h1 with h1; injection h1 with q1 q2; injection q2 with q1 q2; injection q1 with q1; exact Int.ofNat.inj q1
    rw [show x = y from Prod.ext e1 e2]
theorem thD_inj {a b : Th} (h : thD a = thD b) : a = b := map_prD_inj (by injection h)
theorem eq_th (a b : Th) : eqD (thD a) (thD b) = decide (a = b) := by
  by_cases h : a = b
  · subst h; rw [eqD_same (pl_th (n := 0) a)]; simp
  · rw [decide_eq_false h]; exact eqD_ne (pl_th (n := 0) a) (pl_th (n := 0) b) fun q => h (thD_inj q)
theorem cut_if {A B : Prop} (C : Prop) (h : (C → B) → A) (b : C → B) : A := h b
def asked (U : Du) (n : Nat) : List Nat := (List.range n).filter fun i => (gU U i).isSome
def foldP (U : Du) (A : List Nat) : PL := A.foldl (fun p row => stepL p row (gU U row)) ([], none)
theorem foldP_snoc (U : Du) (A : List Nat) (row : Nat) : foldP U (A ++ [row]) = stepL (foldP U A) row (gU U row) := by
  unfold foldP; rw [List.foldl_append]; rfl
theorem asked_succ (U : Du) (n : Nat) : asked U (n + 1) = asked U n ++ if (gU U n).isSome then [n] else [] := by
  unfold asked
  rw [List.range_succ, List.filter_append]
  cases e : (gU U n).isSome <;> simp [e]
theorem fold_asked (U : Du) : ∀ n, foldP U (asked U n) = leastP U n
  | 0 => rfl
  | n + 1 => by
    rw [asked_succ]
    cases e : gU U n with
    | none => simp only [Option.isSome, Bool.false_eq_true, if_false, List.append_nil]; rw [fold_asked U n, leastP, e]; rfl
    | some th => simp only [Option.isSome, if_true]; rw [foldP_snoc, fold_asked U n, leastP, e]
theorem asked_mem {U : Du} {n row : Nat} (h : row ∈ asked U n) : row < n ∧ ∃ th, gU U row = some th := by
  obtain ⟨h1, h2⟩ := List.mem_filter.mp h
  refine ⟨List.mem_range.mp h1, ?_⟩
  cases e : gU U row with
  | none => rw [e] at h2; cases h2
  | some th => exact ⟨th, rfl⟩
theorem asked_len (U : Du) (n : Nat) : (asked U n).length ≤ n := by
  unfold asked
  have := List.length_filter_le (fun i => (gU U i).isSome) (List.range n)
  rw [List.length_range] at this
  exact this
theorem stepL_two (p : PL) (n : Nat) (th : Th) : (stepL p n (some th)).2 = some th := by
  unfold stepL
  simp only
  split
  · rename_i h; subst h; rfl
  · split <;> rfl
/-- a row's thing in the list of what is due -/
theorem du_at {U : Du} {row : Nat} {th : Th} (h : gU U row = some th) : L2.atI (U.map oD) (row : Int) = some (thD th) := by
  refine atI_nat ?_
  rw [List.getElem?_map]
  unfold gU at h
  cases e : U[row]? with
  | none => rw [e] at h; cases h
  | some o => rw [e] at h; cases h; rfl
theorem fold_inv (U : Du) : ∀ (A : List Nat) (p : PL) (n : Nat), ((∀ th, p.2 = some th → th ≠ [] → p.1 ≠ []) ∧ p.1.length ≤ n) →
    (∀ th, (A.foldl (fun p row => stepL p row (gU U row)) p).2 = some th → th ≠ [] → (A.foldl (fun p row => stepL p row (gU U row)) p).1 ≠ []) ∧ (A.foldl (fun p row => stepL p row (gU U row)) p).1.length ≤ n + A.length
  | [], p, n, h => h
  | row :: A, p, n, h => by
    rw [List.foldl_cons, List.length_cons, show n + (A.length + 1) = (n + 1) + A.length by omega]
    refine fold_inv U A _ (n + 1) ?_
    cases e : gU U row with
    | none => exact ⟨h.1, Nat.le_succ_of_le h.2⟩
    | some th =>
      unfold stepL
      simp only
      split
      · exact ⟨fun t h1 h2 => by cases h1; exact absurd rfl h2, Nat.le_succ_of_le h.2⟩
      · split
        · rename_i hne he
          refine ⟨fun _ _ _ => ?_, ?_⟩
          · unfold bump; simp
          · have := h.1 th he hne
            have l0 : 0 < p.1.length := List.length_pos_iff.mpr this
            have := h.2
            unfold bump
            rw [List.length_append, List.length_dropLast]
            simp only [List.length_cons, List.length_nil]
            omega
        · refine ⟨fun _ _ _ => by simp, ?_⟩
          rw [List.length_append]
          have := h.2
          simp only [List.length_cons, List.length_nil]
          omega
theorem ixN_neg1 {n : Nat} : ixN (n + 1) (-1) = some n := by
  unfold ixN
  rw [if_neg (by decide), if_pos (by omega)]
  congr 1
  omega
def spLLeast : DCall := fun ds μ k => ∃ U : Du, ds = [duD U] ∧ U.length ≤ 1000 ∧ k (tbD (leastT U)) μ
theorem spec_l_least : ∀ ds μ k, ds.length = 1 → spLLeast ds μ k → d_l_least { nx := fun _ μ' => wk k .non μ', rt := wk k } (startD 6 ds) μ := by
  rintro ds μ k - ⟨U, rfl, hl, h⟩
  show d_l_least _ [some (duD U), none, none, none, none, none] μ
  unfold d_l_least
  simp only [duD]
  walk_at "dk"
  refine lc_ind (fun i acc μ' => μ' = μ ∧ acc = (asked U i).map nD) ⟨rfl, rfl⟩ ?_ ?_
  · rintro i z acc μ' K hz ⟨rfl, rfl⟩ hK
    obtain ⟨z2, hz2, rfl⟩ := enumD_some hz
    obtain ⟨o, ho, rfl⟩ := map_some hz2
    have g := gU_some ho
    have hi := (List.getElem?_eq_some_iff.mp ho).1
    walk_at "dk"
    cases o with
    | none =>
      simp only [oD]
      walk_at "dk"
      exact hK _ _ ⟨rfl, by rw [asked_succ, g]; simp⟩
    | some th =>
      simp only [oD, thD]
      walk_at "dk"
      refine ⟨?_, hK _ _ ⟨rfl, by rw [asked_succ, g]; simp⟩⟩
      rw [List.length_map]
      have := asked_len U i
      exact Nat.lt_of_lt_of_le (show (asked U i).length < 1001 by omega) (by decide)
  · rintro acc μ' ⟨rfl, rfl⟩
    rw [enumD_length, List.length_map]
    walk_at "dk"
    refine ⟨by decide, fun a na => ?_⟩
    refine for_ind (fun i ρ μ2 => μ2 = mset μ' a (.lst ((foldP U ((asked U U.length).take i)).1.map stD)) ∧ ∃ x y w, ρ = [some (.lst (U.map oD)), some (.lst ((asked U U.length).map nD)), x, y, some (.ref a), w]) ⟨rfl, _, _, _, rfl⟩ ?_ ?_
    · rintro i z ρ μ2 K hz ⟨rfl, x1, x2, x3, rfl⟩ hK
      obtain ⟨z2, hz2, rfl⟩ := enumD_some hz
      obtain ⟨row, hr, rfl⟩ := map_some hz2
      obtain ⟨hrow, th, g⟩ := asked_mem (List.mem_of_getElem? hr)
      have et := take_succ_some hr
      walk_at "dk"
      refine ⟨thD th, du_at g, by decide, pl_okD (pl_th (n := 0) th), pl_okD (n := 1) (fun _ h => nomatch h), ?_⟩
      simp only [thD]
      generalize hP : foldP U ((asked U U.length).take i) = P at *
      have eP := foldP_snoc U ((asked U U.length).take i) row
      rw [← et, hP, g] at eP
      have q0 : eqD (.tup (th.map prD)) (.tup []) = decide (th = []) := eq_th th []
      refine ifc (fun hq => ?_) (fun hq => ?_)
      · have hq := of_decide_eq_true (q0 ▸ hq)
        refine hK _ _ ⟨?_, _, _, _, rfl⟩
        rw [eP]; unfold stepL; simp only; rw [if_pos hq]
      · have pI := fold_inv U ((asked U U.length).take i) ([], none) 0 ⟨(fun _ h => nomatch h), Nat.le_refl _⟩
        rw [show ((asked U U.length).take i).foldl (fun p row => stepL p row (gU U row)) ([], none) = P from hP, Nat.zero_add, List.length_take] at pI
        have hq : th ≠ [] := fun z => hq (q0.trans (decide_eq_true z))
        refine cut_if (P.2 ≠ some th) (fun app => ifc (fun hi => ?_) (fun hi => app ?_)) ?_
        · have hi0 : 0 < i := by omega
          have ei : ((i : Int) - 1) = ((i - 1 : Nat) : Int) := by omega
          have hil := (List.getElem?_eq_some_iff.mp hr).1
          have hl1 : i - 1 < (asked U U.length).length := by omega
          obtain ⟨row', hr'⟩ : ∃ row', (asked U U.length)[i - 1]? = some row' := ⟨_, List.getElem?_eq_getElem hl1⟩
          obtain ⟨_, th', g'⟩ := asked_mem (List.mem_of_getElem? hr')
          have et' := take_succ_some hr'
          rw [show i - 1 + 1 = i by omega] at et'
          have eP2 : P.2 = some th' := by rw [← hP, et', foldP_snoc, g', stepL_two]
          have q1 : eqD (.tup (th'.map prD)) (.tup (th.map prD)) = decide (th' = th) := eq_th th' th
          rw [ei]
          refine ⟨nD row', atI_nat (by rw [List.getElem?_map, hr']; rfl), thD th', du_at g', thD th, du_at g, pl_okD (pl_th (n := 0) th'), pl_okD (pl_th (n := 0) th), ?_⟩
          simp only [thD]
          refine ifc (fun hq2 => ?_) (fun hq2 => app fun z => hq2 (q1.trans (decide_eq_true (Option.some.inj (eP2 ▸ z)))))
          have hq2 : th' = th := of_decide_eq_true (q1 ▸ hq2)
          subst hq2
          obtain ⟨T, s, e1⟩ : ∃ T s, P.1 = T ++ [s] := by
            rcases List.eq_nil_or_concat P.1 with z | ⟨T, s, z⟩
            · exact absurd z (pI.1 th' eP2 hq)
            · exact ⟨T, s, by rw [z, List.concat_eq_append]⟩
          rw [e1, List.map_append]
          refine ⟨stD s, atI_snoc, ?_⟩
          simp only [stD]
          walk_at "dk"
          refine ⟨thD th', du_at g, by decide, T.length, ?_, hK _ _ ⟨?_, _, _, _, rfl⟩⟩
          · rw [List.length_append, List.length_map]; exact ixN_neg1
          · rw [eP]; unfold stepL; simp only
            rw [if_neg hq, if_pos eP2, e1, bump_eq, List.map_append]
            rw [List.set_append_right _ _ (by rw [List.length_map]; exact Nat.le_refl _), List.length_map, Nat.sub_self]
            rfl
        · have : i = 0 := by omega
          subst this
          rw [← hP]; intro z; cases z
        · intro hp2
          refine ⟨⟨_, rfl⟩, thD th, du_at g, by decide, ?_, hK _ _ ⟨?_, _, _, _, rfl⟩⟩
          · rw [List.length_map]
            have := asked_len U U.length
            exact Nat.lt_of_lt_of_le (show P.1.length < 1001 by omega) (by decide)
          · rw [eP]; unfold stepL; simp only
            rw [if_neg hq, if_neg hp2, List.map_append]
            rfl
    · rintro ρ μ2 ⟨rfl, x1, x2, x3, rfl⟩
      rw [enumD_length, List.length_map, List.take_length, fold_asked]
      walk_at "dk"
      exact wk.frzNew na h
/-! what a paper shows, of any make -/
def rowB (m : Nat) : D → Bool
  | .int i => decide (0 ≤ i) && decide (i < (m : Int))
  | _ => false
def rowN : D → Nat
  | .int i => i.toNat
  | _ => 0
def askB (U : Du) (p : Nat) : Bool := match gU U p with
  | some th => !decide (th = [])
  | none => false
def hitB (U : Du) (p r : Nat) : Bool := match gU U r with
  | some th => decide (gU U p ≠ some th)
  | none => false
def partB (U : Du) (p q : Nat) : Bool := (List.range (q + 1 - p)).any fun i => hitB U p (p + i)
def adjB (f : Nat → Nat → Bool) (ps : List Nat) : Bool := (ps.zip (ps.drop 1)).all fun x => f x.1 x.2
def ltN (p q : Nat) : Bool := decide (p < q)
def showsL (U : Du) (n : Nat) (ps : List Nat) : Bool := decide (ps.length = n) && ps.all (askB U) && adjB ltN ps && adjB (partB U) ps
def showsB (U : Du) (n : Nat) : D → Bool
  | .lst xs => xs.all (rowB U.length) && showsL U n (xs.map rowN)
  | _ => false
theorem rowB_ok {m : Nat} {d : D} (h : rowB m d = true) : d = nD (rowN d) ∧ rowN d < m := by
  cases d with
  | int i =>
    have h : (decide (0 ≤ i) && decide (i < (m : Int))) = true := h
    rw [Bool.and_eq_true, decide_eq_true_eq, decide_eq_true_eq] at h
    have e : ((i.toNat : Nat) : Int) = i := Int.toNat_of_nonneg h.1
    refine ⟨?_, ?_⟩
    · show D.int i = D.int ((i.toNat : Nat) : Int)
      rw [e]
    · show i.toNat < m
      omega
  | _ => cases h
theorem rows_ok {m : Nat} : ∀ {xs : List D}, xs.all (rowB m) = true → xs = (xs.map rowN).map nD ∧ ∀ p ∈ xs.map rowN, p < m
  | [], _ => ⟨rfl, fun _ h => nomatch h⟩
  | x :: xs, h => by
    rw [List.all_cons, Bool.and_eq_true] at h
    obtain ⟨e, l⟩ := rowB_ok h.1
    obtain ⟨e2, l2⟩ := rows_ok h.2
    refine ⟨?_, fun p hp => ?_⟩
    · rw [List.map_cons, List.map_cons, ← e2, ← e]
    · rw [List.map_cons] at hp
      rcases List.mem_cons.mp hp with rfl | hp
      · exact l
      · exact l2 p hp
theorem zipD_nD : ∀ (a b : List Nat), zipD (a.map nD) (b.map nD) = (a.zip b).map fun x => .tup [nD x.1, nD x.2]
  | [], _ => rfl
  | _ :: _, [] => rfl
  | x :: a, y :: b => by
    show D.tup [nD x, nD y] :: zipD (a.map nD) (b.map nD) = _
    rw [zipD_nD a b]
    rfl
theorem adj_len (ps : List Nat) : (ps.zip (ps.drop 1)).length ≤ ps.length := by
  rw [List.length_zip]
  omega
theorem bls_all {α : Type} (f : α → Bool) (l : List α) : ∃ bs, blsOf (l.map fun x => D.bl (f x)) = some bs ∧ bs.all id = l.all f :=
  ⟨_, blsOf_mapf f l, all_id f l⟩
def risB (m : Nat) : D → Bool
  | .lst xs => xs.all (rowB m) && adjB ltN (xs.map rowN)
  | _ => false
def spRising : DCall := fun ds μ k => ∃ (d : D) (m : Nat), ds = [d, nD m] ∧ sm 20 d ∧ k (.bl (risB m d)) μ
theorem spec_are_rising : ∀ ds μ k, ds.length = 2 → spRising ds μ k → d_are_rising (spB numB) { nx := fun _ μ' => wk k .non μ', rt := wk k } (startD 4 ds) μ := by
  rintro ds μ k - ⟨d, m, rfl, hg, h⟩
  show d_are_rising (spB numB) _ [some d, some (nD m), none, none] μ
  unfold d_are_rising
  obtain ⟨n1, n2, n3, n4⟩ := sm_refs hg
  have hk : ∀ x, risB m d = x → wk k (.bl x) μ := fun x e => wk.id (e ▸ h)
  cases d with
  | ref a => exact absurd rfl (n1 a)
  | ty a => exact absurd rfl (n2 a)
  | scr a => exact absurd rfl (n3 a)
  | obj a b c => exact absurd rfl (n4 a b c)
  | lst xs =>
    obtain ⟨hl, hx⟩ := sm_lst hg
    walk_at "dk"
    refine lc_id (fun x => D.bl (rowB m x)) trivial (by omega) ?_ ?_
    · intro x hx9 k2 e2 hk2
      walk_at "dk"
      refine ⟨x, rfl, hx x hx9, ?_⟩
      cases x with
      | int i =>
        have hk2 : k2 (.bl (decide (0 ≤ i) && decide (i < (m : Int)))) μ := hk2
        by_cases c : 0 ≤ i
        · simp only [numB, decide_eq_true c, Bool.true_and] at hk2 ⊢
          walk_at "dk"
          exact hk2
        · simp only [numB, decide_eq_false c, Bool.false_and] at hk2 ⊢
          walk_at "dk"
          exact hk2
      | _ => simp only [numB]; walk_at "dk"; exact hk2
    · obtain ⟨bs, hb, hb2⟩ := bls_all (rowB m) xs
      refine ⟨bs, hb, ?_⟩
      rw [hb2]
      cases q : xs.all (rowB m) with
      | false =>
        walk_at "dk"
        exact hk false (by show (xs.all (rowB m) && _) = false; rw [q]; rfl)
      | true =>
        obtain ⟨ex, hp⟩ := rows_ok q
        have hk9 : wk k (.bl (adjB ltN (xs.map rowN))) μ := hk _ (by show (xs.all (rowB m) && _) = _; rw [q]; rfl)
        have hl2 : (xs.map rowN).length ≤ 1000000 := by rw [List.length_map]; exact hl
        generalize xs.map rowN = ps at ex hp hk9 hl2
        subst ex
        walk_at "dk"
        rw [show (1 : Int) = ((1 : Nat) : Int) from rfl, cutD_drop, ← List.map_drop, zipD_nD]
        refine lc_map (fun x => D.bl (ltN x.1 x.2)) trivial (Nat.le_trans (adj_len ps) hl2) ?_ ?_
        · intro x hx9 k2 e2 hk2
          walk_at "dk"
          have e3 : decide ((x.1 : Int) < (x.2 : Int)) = ltN x.1 x.2 := by unfold ltN; exact decide_eq_decide.mpr (by omega)
          rw [e3]
          exact hk2
        · obtain ⟨bs2, hb3, hb4⟩ := bls_all (fun x : Nat × Nat => ltN x.1 x.2) (ps.zip (ps.drop 1))
          refine ⟨bs2, hb3, ?_⟩
          rw [hb4]
          exact hk9
  | _ => walk_at "dk"; exact hk false rfl
def spParted : DCall := fun ds μ k => ∃ (U : Du) (p q : Nat), ds = [duD U, nD p, nD q] ∧ U.length ≤ 1000 ∧ q < U.length ∧ p < U.length ∧ k (.bl (partB U p q)) μ
theorem du_get {U : Du} {r : Nat} (h : r < U.length) : L2.atI (U.map oD) (r : Int) = some (oD (gU U r)) := by
  have eo : U[r]? = some (gU U r) := by unfold gU; rw [List.getElem?_eq_getElem h]; rfl
  exact atI_nat (by rw [List.getElem?_map, eo]; rfl)
theorem eq_oD (th : Th) (o : Option Th) : eqD (thD th) (oD o) = decide (o = some th) := by
  cases o with
  | none =>
    show eqD (thD th) .non = decide ((none : Option Th) = some th)
    rw [decide_eq_false (by simp)]; rfl
  | some t2 =>
    show eqD (thD th) (thD t2) = _
    rw [eq_th]
    exact decide_eq_decide.mpr ⟨fun z => by rw [z], fun z => (Option.some.inj z).symm⟩
theorem pl_oD (o : Option Th) : okD (oD o) := pl_okD (pl_o (n := 0) o)
theorem spec_parted_between : ∀ ds μ k, ds.length = 3 → spParted ds μ k → d_parted_between { nx := fun _ μ' => wk k .non μ', rt := wk k } (startD 4 ds) μ := by
  rintro ds μ k - ⟨U, p, q, rfl, hl, hq, hp, h⟩
  show d_parted_between _ [some (duD U), some (nD p), some (nD q), none] μ
  unfold d_parted_between
  simp only [duD]
  walk_at "dk"
  refine ⟨⟨by omega, by omega⟩, ⟨by omega, by omega⟩, ?_⟩
  refine for_ind (fun i ρ μ' => μ' = μ ∧ (∀ j, j < i → hitB U p (p + j) = false) ∧ ∃ w, ρ = [some (.lst (U.map oD)), some (nD p), some (nD q), w]) ⟨rfl, fun r h1 => absurd h1 (by omega), _, rfl⟩ ?_ ?_
  · rintro i z ρ μ' K hz ⟨rfl, hn, w, rfl⟩ hK
    obtain ⟨hi, rfl⟩ := upto_some hz
    have hr : p + i < U.length := by omega
    have ea : L2.atI (U.map oD) ((p : Int) + (i : Int)) = some (oD (gU U (p + i))) := by
      rw [← Int.natCast_add]; exact du_get hr
    have go : hitB U p (p + i) = false → ∀ j, j < i + 1 → hitB U p (p + j) = false := fun hh j h1 => by
      rcases Nat.lt_or_ge j i with z | z
      · exact hn j z
      · have : j = i := by omega
        subst this; exact hh
    walk_at "dk"
    refine ⟨_, ea, ?_⟩
    cases e : gU U (p + i) with
    | none =>
      simp only [oD]
      walk_at "dk"
      exact hK _ _ ⟨rfl, go (by unfold hitB; rw [e]), _, rfl⟩
    | some th =>
      rw [e] at ea
      simp only [oD, thD]
      walk_at "dk"
      have eh : hitB U p (p + i) = decide (gU U p ≠ some th) := by unfold hitB; rw [e]
      refine ⟨_, ea, _, du_get hp, ?_⟩
      have fin : ∀ c : Bool, c = hitB U p (p + i) → if c = true then wk k (.bl true) μ' else K [some (.lst (U.map oD)), some (nD p), some (nD q), some (nD (p + i))] μ' := fun c ec => by
        cases c with
        | true =>
          have e9 : partB U p q = true := by
            unfold partB
            rw [List.any_eq_true]
            exact ⟨i, List.mem_range.mpr (by omega), ec.symm⟩
          rw [e9] at h
          exact wk.id h
        | false => exact hK _ _ ⟨rfl, go ec.symm, _, rfl⟩
      cases e2 : gU U p with
      | none =>
        rw [e2] at eh
        simp only [oD, thD]
        walk_at "dk"
        exact ⟨pl_okD (pl_th (n := 0) th), ifc (fun _ => (if_pos rfl).mp (fin true (by rw [eh]; rfl))) (fun z => absurd rfl z)⟩
      | some th0 =>
        rw [e2] at eh
        have q1 : eqD (.tup (th.map prD)) (.tup (th0.map prD)) = decide (th = th0) := eq_th th th0
        simp only [oD, thD]
        walk_at "dk"
        refine ⟨pl_okD (pl_th (n := 0) th), pl_okD (pl_th (n := 0) th0), ?_⟩
        by_cases w : th = th0
        · have hh : hitB U p (p + i) = false := by rw [eh, w]; simp
          exact ifc (fun z => absurd (q1.symm.trans z) (by rw [decide_eq_true w]; exact Bool.noConfusion)) (fun _ => (if_neg (by decide)).mp (fin false hh.symm))
        · have hh : hitB U p (p + i) = true := by
            rw [eh, decide_eq_true_eq]
            exact fun z => w (Option.some.inj z).symm
          exact ifc (fun _ => (if_pos rfl).mp (fin true hh.symm)) (fun z => absurd (q1.trans (decide_eq_false w)) z)
  · rintro ρ μ' ⟨rfl, hn, w, rfl⟩
    rw [upto_length] at hn
    have e : partB U p q = false := by
      unfold partB
      rw [List.any_eq_false]
      intro j hj
      have := List.mem_range.mp hj
      rw [hn j (by omega)]
      exact Bool.false_ne_true
    rw [e] at h
    walk_at "dk"
    exact wk.id h
def spShows : DCall := fun ds μ k => ∃ (U : Du) (d : D), ds = [duD U, tbD (leastT U), d] ∧ U.length ≤ 1000 ∧ sm 20 d ∧ k (.bl (showsB U (leastT U).length d)) μ
theorem bool_and4 (a b c d : Bool) : (a && b && c && d) = (c && (a && (b && d))) := by cases a <;> cases b <;> cases c <;> cases d <;> rfl
theorem spec_shows_least : ∀ ds μ k, ds.length = 3 → spShows ds μ k → d_shows_least spRising spParted { nx := fun _ μ' => wk k .non μ', rt := wk k } (startD 6 ds) μ := by
  rintro ds μ k - ⟨U, d, rfl, hl, hg, h⟩
  show d_shows_least spRising spParted _ [some (duD U), some (tbD (leastT U)), some d, none, none, none] μ
  unfold d_shows_least
  have ll := len_least U
  simp only [duD, tbD]
  generalize hn : (leastT U).length = n at *
  have hk : ∀ x, showsB U n d = x → wk k (.bl x) μ := fun x e => wk.id (e ▸ h)
  walk_at "dk"
  refine ⟨d, U.length, by rw [List.length_map], hg, ?_⟩
  cases hq : risB U.length d with
  | false =>
    walk_at "dk"
    refine hk false ?_
    cases d with
    | lst xs =>
      have hq : (xs.all (rowB U.length) && adjB ltN (xs.map rowN)) = false := hq
      show (xs.all (rowB U.length) && (decide ((xs.map rowN).length = n) && (xs.map rowN).all (askB U) && adjB ltN (xs.map rowN) && adjB (partB U) (xs.map rowN))) = false
      rw [bool_and4, ← Bool.and_assoc, hq, Bool.false_and]
    | _ => rfl
  | true =>
    obtain ⟨xs, rfl⟩ : ∃ xs, d = .lst xs := by
      cases d with
      | lst xs => exact ⟨xs, rfl⟩
      | _ => cases hq
    have hq : (xs.all (rowB U.length) && adjB ltN (xs.map rowN)) = true := hq
    rw [Bool.and_eq_true] at hq
    obtain ⟨ex, hp⟩ := rows_ok hq.1
    have hk9 : ∀ x, (decide ((xs.map rowN).length = n) && ((xs.map rowN).all (askB U) && adjB (partB U) (xs.map rowN))) = x → wk k (.bl x) μ := fun x e => hk x (by
      show (xs.all (rowB U.length) && (decide ((xs.map rowN).length = n) && (xs.map rowN).all (askB U) && adjB ltN (xs.map rowN) && adjB (partB U) (xs.map rowN))) = x
      rw [bool_and4, hq.1, hq.2, e]; rfl)
    obtain ⟨hxl, _⟩ := sm_lst hg
    have hl2 : (xs.map rowN).length ≤ 1000000 := by rw [List.length_map]; exact hxl
    generalize xs.map rowN = ps at ex hp hk9 hl2
    subst ex
    walk_at "dk"
    rw [List.length_map, List.length_map, hn]
    refine ifc (fun z => hk9 false ?_) (fun z => ?_)
    · rw [beq3] at z
      rw [z, Bool.false_and]
    rw [beq3, Bool.not_eq_false] at z
    rw [z, Bool.true_and] at hk9
    refine lc_map (fun p => D.bl (askB U p)) trivial (by omega) ?_ ?_
    · intro p hp9 k2 e2 hk2
      have hpl := hp p hp9
      walk_at "dk"
      refine ⟨_, du_get hpl, ?_⟩
      unfold askB at hk2
      cases e : gU U p with
      | none =>
        rw [e] at hk2
        simp only [oD]
        walk_at "dk"
        exact hk2
      | some th =>
        rw [e] at hk2
        simp only [oD, thD]
        walk_at "dk"
        have eg := du_get hpl
        rw [e] at eg
        refine ⟨_, eg, by decide, ?_⟩
        have q0 : eqD (.tup (th.map prD)) (.tup []) = decide (th = []) := eq_th th []
        simp only [oD, thD, q0]
        exact ⟨pl_okD (pl_th (n := 0) th), pl_okD (n := 1) (fun _ h => nomatch h), hk2⟩
    · obtain ⟨bs, hb, hb2⟩ := bls_all (askB U) ps
      refine ⟨bs, hb, ?_⟩
      rw [hb2]
      refine ifc (fun z => hk9 false (by rw [z, Bool.false_and])) (fun z => ?_)
      rw [Bool.not_eq_false] at z
      rw [z, Bool.true_and] at hk9
      rw [show (1 : Int) = ((1 : Nat) : Int) from rfl, cutD_drop, ← List.map_drop, zipD_nD]
      refine lc_map (fun x => D.bl (partB U x.1 x.2)) trivial (Nat.le_trans (adj_len ps) hl2) ?_ ?_
      · intro x hx9 k2 e2 hk2
        have h1 := hp x.1 (List.of_mem_zip hx9).1
        have h2 := hp x.2 (List.drop_subset 1 ps (List.of_mem_zip hx9).2)
        walk_at "dk"
        exact ⟨U, x.1, x.2, rfl, hl, h2, h1, hk2⟩
      · obtain ⟨bs2, hb3, hb4⟩ := bls_all (fun x : Nat × Nat => partB U x.1 x.2) (ps.zip (ps.drop 1))
        refine ⟨bs2, hb3, ?_⟩
        rw [hb4]
        exact hk9 _ rfl
theorem okD_nt : okD (.tup [.non, .tup []]) := pl_okD (n := 2) (fun d hd => by
  simp only [List.mem_cons, List.not_mem_nil, or_false] at hd
  rcases hd with rfl | rfl
  · trivial
  · exact fun d hd => nomatch hd)
theorem memD_nt (th : Th) : memD (thD th) [.non, .tup []] = decide (th = []) := by
  have e : eqD (thD []) (thD th) = decide ([] = th) := eq_th [] th
  have e2 : eqD .non (thD th) = false := rfl
  unfold memD
  rw [List.any_cons, List.any_cons, List.any_nil, e2, show (D.tup [] : D) = thD [] from rfl, e, Bool.false_or, Bool.or_false]
  exact decide_eq_decide.mpr ⟨Eq.symm, Eq.symm⟩
theorem memD_hit (U : Du) (p r : Nat) : memD (oD (gU U r)) [.non, oD (gU U p)] = !hitB U p r := by
  unfold memD hitB
  rw [List.any_cons, List.any_cons, List.any_nil, Bool.or_false]
  cases g : gU U r with
  | none => rfl
  | some th =>
    have e2 : eqD .non (oD (some th)) = false := rfl
    rw [e2, Bool.false_or]
    cases g0 : gU U p with
    | none => 
      show eqD .non (thD th) = !(decide ((none : Option Th) ≠ some th))
      rw [decide_eq_true (by simp)]; rfl
    | some t0 =>
      show eqD (thD t0) (thD th) = _
      rw [eq_th]
      by_cases w : t0 = th
      · rw [decide_eq_true w, w]; simp
      · have w2 : (some t0 : Option Th) ≠ some th := fun z => w (Option.some.inj z)
        rw [decide_eq_false w]
        show false = !(decide ((some t0 : Option Th) ≠ some th))
        rw [decide_eq_true w2]; rfl
theorem okD_no (o : Option Th) : okD (.tup [.non, oD o]) := pl_okD (n := 3) (fun d hd => by
  simp only [List.mem_cons, List.not_mem_nil, or_false] at hd
  rcases hd with rfl | rfl
  · trivial
  · exact pl_o (n := 0) o)
def spLShows : DCall := fun ds μ k => ∃ (U : Du) (d : D) (n : Nat), ds = [duD U, nD n, d] ∧ U.length ≤ 1000 ∧ n ≤ 1000 ∧ sm 20 d ∧ k (.bl (showsB U n d)) μ
theorem spec_l_shows : ∀ ds μ k, ds.length = 3 → spLShows ds μ k → d_l_shows { nx := fun _ μ' => wk k .non μ', rt := wk k } (startD 6 ds) μ := by
  rintro ds μ k - ⟨U, d, n, rfl, hl, hn, hg, h⟩
  show d_l_shows _ [some (duD U), some (nD n), some d, none, none, none] μ
  unfold d_l_shows
  obtain ⟨n1, n2, n3, n4⟩ := sm_refs hg
  simp only [duD]
  have hk : ∀ x, showsB U n d = x → wk k (.bl x) μ := fun x e => wk.id (e ▸ h)
  cases d with
  | ref a => exact absurd rfl (n1 a)
  | ty a => exact absurd rfl (n2 a)
  | scr a => exact absurd rfl (n3 a)
  | obj a b c => exact absurd rfl (n4 a b c)
  | lst xs =>
    obtain ⟨hxl, hx⟩ := sm_lst hg
    walk_at "dk"
    refine ifc (fun z => hk false ?_) (fun z => ?_)
    · rw [beq3] at z
      show (_ && (decide ((xs.map rowN).length = n) && _ && _ && _)) = false
      rw [List.length_map, z, Bool.false_and, Bool.false_and, Bool.false_and, Bool.and_false]
    rw [beq3, Bool.not_eq_false] at z
    refine for_ind (fun i ρ M => M = μ ∧ (∀ j x, j < i → xs[j]? = some x → rowB U.length x = true ∧ askB U (rowN x) = true) ∧ ∃ w, ρ = [some (.lst (U.map oD)), some (nD n), some (.lst xs), w, none, none]) ⟨rfl, fun j x h1 => absurd h1 (by omega), _, rfl⟩ ?_ ?_
    · rintro i x ρ M K hz ⟨rfl, hi, w, rfl⟩ hK
      have mem := List.mem_of_getElem? hz
      have no : (rowB U.length x && askB U (rowN x)) = false → wk k (.bl false) M := fun q => hk false (by
        show (xs.all (rowB U.length) && (decide _ && (xs.map rowN).all (askB U) && _ && _)) = false
        cases h1 : xs.all (rowB U.length) with
        | false => rfl
        | true =>
          have r1 := List.all_eq_true.mp h1 x mem
          rw [r1, Bool.true_and] at q
          have : (xs.map rowN).all (askB U) = false := by
            rw [List.all_eq_false]
            exact ⟨rowN x, List.mem_map.mpr ⟨x, mem, rfl⟩, by rw [q]; exact Bool.false_ne_true⟩
          rw [this, Bool.and_false, Bool.false_and, Bool.false_and]; rfl)
      have yes : (rowB U.length x && askB U (rowN x)) = true → K [some (.lst (U.map oD)), some (nD n), some (.lst xs), some x, none, none] M := fun q => by
        rw [Bool.and_eq_true] at q
        refine hK _ _ ⟨rfl, fun j y h1 h2 => ?_, _, rfl⟩
        rcases Nat.lt_or_ge j i with z | z
        · exact hi j y z h2
        · have e : j = i := by omega
          subst e
          rw [hz] at h2
          cases h2
          exact q
      obtain ⟨m1, m2, m3, m4⟩ := sm_refs (hx x mem)
      cases x with
      | ref a => exact absurd rfl (m1 a)
      | ty a => exact absurd rfl (m2 a)
      | scr a => exact absurd rfl (m3 a)
      | obj a b c => exact absurd rfl (m4 a b c)
      | int v =>
        walk_at "dk"
        rw [List.length_map]
        by_cases c : 0 ≤ v
        · rw [if_pos c]
          by_cases c2 : v < (U.length : Int)
          · rw [if_neg (fun z => z c2)]
            have rb : rowB U.length (.int v) = true := by
              show (decide (0 ≤ v) && decide (v < (U.length : Int))) = true
              rw [decide_eq_true c, decide_eq_true c2]; rfl
            rw [rb, Bool.true_and] at no yes
            obtain ⟨e, l⟩ := rowB_ok rb
            have e' : v = ((rowN (.int v) : Nat) : Int) := by injection e
            have ga := du_get l
            rw [← e'] at ga
            refine ⟨_, ga, ?_⟩
            unfold askB at no yes
            cases g : gU U (rowN (.int v)) with
            | none =>
              rw [g] at no
              simp only [oD, rdInT, der]
              exact ⟨by decide, by decide, okD_non, okD_nt, true, rfl, ifc (fun _ => no rfl) (fun z => absurd rfl z)⟩
            | some th =>
              rw [g] at no yes
              have hd : der M (thD th) = thD th := rfl
              simp only [oD, rdInT, hd]
              refine ⟨by decide, by decide, pl_okD (pl_th (n := 0) th), okD_nt, _, rfl, ?_⟩
              refine ifc (fun z => no ?_) (fun z => yes ?_)
              · have z : decide (th = []) = true := (memD_nt th).symm.trans z
                show (!decide (th = [])) = false
                rw [z]; rfl
              · have z : ¬ decide (th = []) = true := fun y => z ((memD_nt th).trans y)
                show (!decide (th = [])) = true
                rw [Bool.not_eq_true] at z
                rw [z]; rfl
          · rw [if_pos c2]
            exact no (by
              show (decide (0 ≤ v) && decide (v < (U.length : Int)) && _) = false
              rw [decide_eq_false c2, Bool.and_false, Bool.false_and])
        · rw [if_neg c]
          exact no (by
            show (decide (0 ≤ v) && decide (v < (U.length : Int)) && _) = false
            rw [decide_eq_false c, Bool.false_and, Bool.false_and])
      | _ => walk_at "dk"; exact no rfl
    · rintro ρ M ⟨rfl, hi, w, rfl⟩
      have all1 : xs.all (rowB U.length) = true := List.all_eq_true.mpr fun x hx => by
        obtain ⟨j, hj, e⟩ := List.getElem_of_mem hx
        exact (hi j x hj (by rw [List.getElem?_eq_getElem hj, e])).1
      have all2 : (xs.map rowN).all (askB U) = true := List.all_eq_true.mpr fun p hp => by
        obtain ⟨x, hx, rfl⟩ := List.mem_map.mp hp
        obtain ⟨j, hj, e⟩ := List.getElem_of_mem hx
        exact (hi j x hj (by rw [List.getElem?_eq_getElem hj, e])).2
      have hk9 : ∀ b, (adjB ltN (xs.map rowN) && adjB (partB U) (xs.map rowN)) = b → wk k (.bl b) M := fun b e => hk b (by
        show (xs.all (rowB U.length) && (decide ((xs.map rowN).length = n) && (xs.map rowN).all (askB U) && adjB ltN (xs.map rowN) && adjB (partB U) (xs.map rowN))) = b
        rw [all1, all2, List.length_map, z, ← e]
        simp only [Bool.true_and, Bool.and_true])
      obtain ⟨ex, hp⟩ := rows_ok all1
      clear hi all1 all2 hk h
      generalize xs.map rowN = ps at ex hp hk9
      subst ex
      walk_at "dk"
      rw [show (1 : Int) = ((1 : Nat) : Int) from rfl, cutD_drop, ← List.map_drop, zipD_nD]
      have no : ∀ x ∈ ps.zip (ps.drop 1), (ltN x.1 x.2 && partB U x.1 x.2) = false → wk k (.bl false) M := fun x hx q => hk9 false (by
        rw [Bool.and_eq_false_iff] at q ⊢
        rcases q with q | q
        · exact .inl (List.all_eq_false.mpr ⟨x, hx, by rw [q]; exact Bool.false_ne_true⟩)
        · exact .inr (List.all_eq_false.mpr ⟨x, hx, by rw [q]; exact Bool.false_ne_true⟩))
      refine for_ind (fun i ρ M2 => M2 = M ∧ (∀ j x, j < i → (ps.zip (ps.drop 1))[j]? = some x → (ltN x.1 x.2 && partB U x.1 x.2) = true) ∧ ∃ w a b, ρ = [some (.lst (U.map oD)), some (nD n), some (.lst (ps.map nD)), w, a, b]) ⟨rfl, fun j x h1 => absurd h1 (by omega), _, _, _, rfl⟩ ?_ ?_
      · rintro i y ρ M2 K hz ⟨rfl, hi, w, a, b, rfl⟩ hK
        rw [List.getElem?_map] at hz
        cases ez : (ps.zip (ps.drop 1))[i]? with
        | none => rw [ez] at hz; cases hz
        | some x =>
          rw [ez] at hz
          cases hz
          have mem := List.mem_of_getElem? ez
          have no := no x mem
          obtain ⟨p, q⟩ := x
          have h1 : p < U.length := hp p (List.of_mem_zip mem).1
          have h2 : q < U.length := hp q (List.drop_subset 1 ps (List.of_mem_zip mem).2)
          walk_at "dk"
          by_cases c : p < q
          · have eL : ltN p q = true := decide_eq_true c
            rw [eL, Bool.true_and] at no
            have eP : (q : Int) + 1 - (p : Int) = ((q + 1 - p : Nat) : Int) := by omega
            have eU : ((q : Int) + ((1 : Nat) : Int) - (p : Int)).toNat = q + 1 - p := by omega
            refine ifc (fun z => absurd z (by omega)) (fun _ => ⟨⟨by omega, by omega⟩, ⟨by omega, by omega⟩, ?_⟩)
            rw [eU]
            refine lc_ind (fun i acc M => M = M2 ∧ acc = (((List.range i).filter fun j => hitB U p (p + j)).map (p + ·)).map nD) ⟨rfl, rfl⟩ ?_ ?_
            · rintro i z acc M K2 hz2 ⟨rfl, rfl⟩ hK2
              obtain ⟨hi2, rfl⟩ := upto_some hz2
              have hr : p + i < U.length := by omega
              have ea : L2.atI (U.map oD) ((p : Int) + (i : Int)) = some (oD (gU U (p + i))) := by
                rw [← Int.natCast_add]; exact du_get hr
              rw [List.range_succ, List.filter_append, List.map_append, List.map_append] at hK2
              walk_at "dk"
              refine ⟨_, ea, _, du_get h1, ?_⟩
              have hd : ∀ o : Option Th, der M (oD o) = oD o := fun o => by cases o <;> rfl
              simp only [rdInT, hd]
              refine ⟨by decide, pl_oD _, okD_no _, _, rfl, ?_⟩
              rw [if_pos trivial, memD_hit, Bool.not_not]
              cases hb : hitB U p (p + i) with
              | true =>
                refine ifc (fun _ => ⟨?_, ?_⟩) (fun z => absurd rfl z)
                · rw [List.length_map, List.length_map]
                  have := List.length_filter_le (fun j => hitB U p (p + j)) (List.range i)
                  rw [List.length_range] at this
                  exact Nat.lt_of_le_of_lt (show _ ≤ 1000 by omega) (by decide)
                · refine hK2 _ _ ⟨rfl, ?_⟩
                  have e1 : List.filter (fun j => hitB U p (p + j)) [i] = [i] := by simp [hb]
                  rw [e1]
                  rfl
              | false =>
                refine ifc (fun z => Bool.noConfusion z) (fun _ => hK2 _ _ ⟨rfl, ?_⟩)
                have e1 : List.filter (fun j => hitB U p (p + j)) [i] = [] := by simp [hb]
                rw [e1]
                simp
            · rintro acc M ⟨rfl, rfl⟩
              rw [upto_length]
              generalize hL : (List.range (q + 1 - p)).filter (fun j => hitB U p (p + j)) = L
              refine ⟨by decide, by decide, pl_okD (pl_ints (n := 0) _), pl_okD (d := .lst []) (n := 1) (fun _ h => absurd h (by simp)), ?_⟩
              rw [eq_nil_lst]
              have eB : partB U p q = !L.isEmpty := by
                unfold partB
                rw [← hL]
                cases hf : (List.range (q + 1 - p)).filter (fun j => hitB U p (p + j)) with
                | nil =>
                  rw [List.filter_eq_nil_iff] at hf
                  show _ = false
                  rw [List.any_eq_false]
                  exact hf
                | cons a l =>
                  have := List.mem_filter.mp (by rw [hf]; exact List.mem_cons_self : a ∈ (List.range (q + 1 - p)).filter (fun j => hitB U p (p + j)))
                  show _ = true
                  rw [List.any_eq_true]
                  exact ⟨a, this⟩
              have eE : ((L.map (p + ·)).map nD).isEmpty = L.isEmpty := by cases L <;> rfl
              rw [eE]
              refine ifc (fun z => no (by rw [eB, z]; rfl)) (fun z => hK _ _ ⟨rfl, fun j x g1 g2 => ?_, _, _, _, rfl⟩)
              rcases Nat.lt_or_ge j i with y | y
              · exact hi j x y g2
              · have e : j = i := by omega
                subst e
                rw [ez] at g2
                cases g2
                show (ltN p q && partB U p q) = true
                rw [Bool.not_eq_true] at z
                rw [eL, eB, z]; rfl
          · refine ifc (fun _ => no ?_) (fun z => absurd (show ((q : Nat) : Int) ≤ ((p : Nat) : Int) by omega) z)
            show (decide (p < q) && _) = false
            rw [decide_eq_false c, Bool.false_and]
      · rintro ρ M2 ⟨rfl, hi, w, a, b, rfl⟩
        walk_at "dk"
        refine hk9 true ?_
        rw [List.length_map] at hi
        rw [Bool.and_eq_true]
        refine ⟨List.all_eq_true.mpr fun x hx => ?_, List.all_eq_true.mpr fun x hx => ?_⟩
        · obtain ⟨j, hj, e⟩ := List.getElem_of_mem hx
          exact ((Bool.and_eq_true _ _).mp (hi j x hj (by rw [List.getElem?_eq_getElem hj, e]))).1
        · obtain ⟨j, hj, e⟩ := List.getElem_of_mem hx
          exact ((Bool.and_eq_true _ _).mp (hi j x hj (by rw [List.getElem?_eq_getElem hj, e]))).2
  | _ => walk_at "dk"; exact hk false rfl
/-! two looks at the same -/
def spLm (cs : List D) : DCall := fun ds μ k => ∃ (U : Du) (d : D), cs = [duD U, tbD (leastT U)] ∧ U.length ≤ 1000 ∧ ds = [.lst [d]] ∧ sm 20 d ∧ k (.bl (showsB U (leastT U).length d)) μ
abbrev lamsL (cells : List (Str × Addr)) (cs : List D) : List (LamT × DCall) := [(lam_law_1 cells, spLm cs), (lam_law_2 cells, spLm cs)]
theorem spec_lam_law_1 (cs : List D) : ∀ ds μ k, ds.length = 1 → spLm cs ds μ k → d_lam_law_1 spShows (startN 3 ds cs) μ (wk k) := by
  rintro ds μ k - ⟨U, d, rfl, hl, rfl, hs, h⟩
  show d_lam_law_1 spShows [some (.lst [d]), some (duD U), some (tbD (leastT U))] μ (wk k)
  unfold d_lam_law_1
  walk_at "dk"
  exact ⟨U, d, rfl, hl, hs, wk.id h⟩
theorem spec_lam_law_2 (cs : List D) : ∀ ds μ k, ds.length = 1 → spLm cs ds μ k → d_lam_law_2 spLShows (startN 3 ds cs) μ (wk k) := by
  rintro ds μ k - ⟨U, d, rfl, hl, rfl, hs, h⟩
  show d_lam_law_2 spLShows [some (.lst [d]), some (duD U), some (tbD (leastT U))] μ (wk k)
  unfold d_lam_law_2
  simp only [tbD]
  walk_at "dk"
  have := len_least U
  exact ⟨U, d, (leastT U).length, by rw [List.length_map], hl, by omega, hs, wk.id h⟩
theorem lam_ask {cells : List (Str × Addr)} {cs : List D} {L : LamT} {U : Du} {d : D} {μ : Mu} {k : KD} (hcs : cs = [duD U, tbD (leastT U)]) (hU : U.length ≤ 1000) (hL : L = lam_law_1 cells ∨ L = lam_law_2 cells) (hs : sm 20 d) (h : k (.bl (showsB U (leastT U).length d)) μ) : lamT (lamsL cells cs) L [.lst [d]] μ k := by
  rcases hL with rfl | rfl
  · exact ⟨(lam_law_1 cells, spLm cs), by simp, rfl, U, d, hcs, hU, rfl, hs, h⟩
  · exact ⟨(lam_law_2 cells, spLm cs), by simp, rfl, U, d, hcs, hU, rfl, hs, h⟩
def spRight (cells : List (Str × Addr)) (cs : List D) : DCall := fun ds μ k => ∃ (U : Du) (t f g : Addr) (d : D) (m n : Nat) (r : List D) (o : MO), cs = [duD U, tbD (leastT U)] ∧ U.length ≤ 1000 ∧ ds = [.ref t, .ref f, .ref g, .lst [d]] ∧ μ f = some (.fn (lam_law_1 cells)) ∧ μ g = some (.fn (lam_law_2 cells)) ∧ hs 0 m (.lst [d]) ∧ m ≤ 6 ∧ (D.lst [d]).vol ≤ 200000 ∧ μ t = some o ∧ Tp (n + 120) r o ∧
  ∀ o', Tp n r o' → k (.bl true) (mset μ t o')
theorem show_hs {s m V : Nat} {d : D} (h : hs s m d) (h1 : s ≤ 5) (h2 : m ≤ 90) (hv : d.vol ≤ V) (hV : V ≤ 10000000) : ShowD d := by
  have sM : 10000000 ≤ sizeLine := by decide
  obtain ⟨a, b⟩ := hs_sm (by omega) m d h
  exact ShowD.of b (Nat.le_trans hv (by omega)) (Nat.le_trans (sm_spec _ _ a).2.2.1 (by omega))
theorem spec_l_right (cells : List (Str × Addr)) (cs : List D) : ∀ ds μ k, ds.length = 4 → spRight cells cs ds μ k → d_l_right spBent (lamT (lamsL cells cs)) { nx := fun _ μ' => wk k .non μ', rt := wk k } (startD 8 ds) μ := by
  rintro ds μ k - ⟨U, t, f, g, d, m, n, r, o, hcs, hU, rfl, hf, hg, hd, m6, hv, e, hT, h⟩
  show d_l_right spBent (lamT (lamsL cells cs)) _ [some (.ref t), some (.ref f), some (.ref g), some (.lst [d]), none, none, none, none] μ
  unfold d_l_right
  have nf : f ≠ t := fun z => by
    have e2 : some (MO.fn (lam_law_1 cells)) = some o := by rw [← hf, z]; exact e
    obtain ⟨_, _, _, rfl, _⟩ := hT
    cases e2
  have ng : g ≠ t := fun z => by
    have e2 : some (MO.fn (lam_law_2 cells)) = some o := by rw [← hg, z]; exact e
    obtain ⟨_, _, _, rfl, _⟩ := hT
    cases e2
  walk_at "dk"
  refine ⟨⟨by decide, by decide⟩, ?_⟩
  refine for_ind (fun i ρ M => ∃ (x4 x5 x6 x7 : Option D) (o2 : MO), ρ = [some (.ref t), some (.ref f), some (.ref g), some (.lst [d]), x4, x5, x6, x7] ∧ M = mset μ t o2 ∧ Tp (n + 13 * (9 - i)) r o2) ⟨none, none, none, none, o, rfl, (mset_self e).symm, hT.mono (by omega)⟩ ?_ ?_
  · rintro i z ρ M K hz ⟨x4, x5, x6, x7, o2, rfl, rfl, hT2⟩ hK
    obtain ⟨hi, rfl⟩ := upto_some hz
    have rest : ∀ (y : D) (o3 : MO) (x6 x7 : Option D), hs 2 (m + 4) (.lst [y]) → (D.lst [y]).vol ≤ 3200000 → Tp (n + 13 * (9 - (i + 1))) r o3 →
        dSeq (dSet 6 (dCB rdRepr (dCons (dVar 5) dNil))) (dSeq (dSet 7 (dCallV 1 1 (lamT (lamsL cells cs)) (dCons (dVar 5) dNil)))
          (dIfS (dOr (dNot (dTru (dIsi "bool" (dVar 7)))) (dOr (dB (dOp rdNe (dVar 7) (dCallV 2 1 (lamT (lamsL cells cs)) (dCons (dVar 5) dNil)))) (dB (dOp rdNeS (dCB rdRepr (dCons (dVar 5) dNil)) (dVar 6))))) (dRet (dC (.bl false))) dNext))
          { nx := K, rt := wk k, ct := K, bk := dRet (dC (.bl true)) { nx := fun _ μ' => wk k .non μ', rt := wk k } } [some (.ref t), some (.ref f), some (.ref g), some (.lst [d]), some (.int i), some (.lst [y]), x6, x7] (mset μ t o3) := fun y o3 x6 x7 hy hv3 hT3 => by
      obtain ⟨_, _, _, hy2⟩ := hs_many (mk := D.lst) (.inr rfl) hy
      have sy : sm 20 y := hs_sm2 (hy2 y (by simp)) (by decide) (by omega)
      have S := show_hs hy (by decide) (by omega) hv3 (by decide)
      unfold dCallV
      walk_at "dk"
      refine ⟨S, f, (lam_law_1 cells), rfl, by rw [mset_ne nf]; exact hf, by rw [mset_ne nf]; exact hf, lam_ask hcs hU (.inl rfl) sy ?_⟩
      walk_at "dk"
      refine ⟨g, (lam_law_2 cells), rfl, by rw [mset_ne ng]; exact hg, by rw [mset_ne ng]; exact hg, lam_ask hcs hU (.inr rfl) sy ?_⟩
      walk_at "dk"
      exact ⟨S, ifc (fun z => absurd trivial z) (fun _ => hK _ _ ⟨_, _, _, _, o3, rfl, rfl, hT3⟩)⟩
    generalize (dSeq (dSet 6 (dCB rdRepr (dCons (dVar 5) dNil))) (dSeq (dSet 7 (dCallV 1 1 (lamT (lamsL cells cs)) (dCons (dVar 5) dNil)))
          (dIfS (dOr (dNot (dTru (dIsi "bool" (dVar 7)))) (dOr (dB (dOp rdNe (dVar 7) (dCallV 2 1 (lamT (lamsL cells cs)) (dCons (dVar 5) dNil)))) (dB (dOp rdNeS (dCB rdRepr (dCons (dVar 5) dNil)) (dVar 6))))) (dRet (dC (.bl false))) dNext))) = R at rest ⊢
    rw [Int.zero_add]
    refine ⟨trivial, ?_⟩
    walk_at "dk"
    refine ifc (fun _ => ?_) (fun _ => ?_)
    · exact rest d o2 _ _ (hd.up (by decide) (by omega)) (by omega) (hT2.mono (by omega))
    · refine ⟨t, d, m, n + 13 * (9 - (i + 1)), r, o2, rfl, hd, m6, hv, mset_same, hT2.mono (by omega), fun d' o' h1 h2 h3 => ?_⟩
      rw [mset_mset]
      exact rest d' o' _ _ h1 h2 h3
  · rintro ρ M ⟨x4, x5, x6, x7, o2, rfl, rfl, hT2⟩
    refine ⟨trivial, ?_⟩
    walk_at "dk"
    rw [upto_length] at hT2
    exact wk.id (h o2 (hT2.mono (by omega)))
/-! the law -/
theorem vols_nDs : ∀ l : List Nat, D.vols (l.map nD) = l.length * 32
  | [] => rfl
  | x :: l => by rw [List.map_cons, vols_cons, vol_nD, vols_nDs l, List.length_cons]; omega
theorem hs_paper {ps : List Nat} (h1 : ps.length ≤ 400) (h2 : ∀ p ∈ ps, p ≤ 400) : hs 0 2 (.lst [.lst (ps.map nD)]) ∧ (D.lst [.lst (ps.map nD)]).vol ≤ 200000 := by
  have tv : (D.lst [.lst (ps.map nD)]).vol = (D.vols (ps.map nD) + 3) + 2 + 0 + 3 := rfl
  have e := vols_nDs ps
  refine ⟨hs.lst (by simp) (hs.mem (hs.lst (by rw [List.length_map]; omega) fun d hd => ?_) hs.mem0), by omega⟩
  obtain ⟨p, hp, rfl⟩ := List.mem_map.mp hd
  have := h2 p hp
  exact hs.int (by show p ≤ _; omega)
theorem sm_nDs {n : Nat} {ps : List Nat} : ∀ d ∈ ps.map nD, sm n d := fun d hd => by
  obtain ⟨p, _, rfl⟩ := List.mem_map.mp hd
  cases n <;> trivial
theorem sm_repl {n m : Nat} {d : D} (h : sm n d) : ∀ x ∈ List.replicate m d, sm n x := fun x hx => by
  rw [(List.mem_replicate.mp hx).2]; exact h
theorem flat_repl {m : Nat} {d : D} : (List.replicate m [d]).flatten = List.replicate m d := by
  induction m with
  | zero => rfl
  | succ m ih => rw [List.replicate_succ, List.flatten_cons, ih]; rfl
def spLaw (PL : Addr) : DCall := fun ds μ k => ∃ ns : List Int, ds = [.scr (ns.map D.int)] ∧ ns.length ≤ 63 ∧ μ PL = some (.tab (lam_law_1 []).q) ∧ ∀ μ', k (.bl true) μ'
theorem law_start (PL : Addr) (ns : List Int) (h : ns.length ≤ 63) : spLaw PL [.scr (ns.map D.int)] (muT PL (lam_law_1 []).q) (fun d _ => d = .bl true) := ⟨ns, rfl, h, if_pos rfl, fun _ => rfl⟩
theorem spec_law (PL : Addr) : ∀ cells ds μ k, ds.length = 1 → spLaw PL ds μ k → d_law PL cells spTape spLDue spLLeast spRight spTake spShows spLShows { nx := fun _ μ' => wk k .non μ', rt := wk k } (startD 15 ds) μ := by
  rintro cells ds μ k - ⟨ns, rfl, hl, hP, h⟩
  show d_law PL cells spTape spLDue spLLeast spRight spTake spShows spLShows _ [some (.scr (ns.map D.int)), none, none, none, none, none, none, none, none, none, none, none, none, none, none] μ
  unfold d_law
  unfold dLam dCallC
  walk_at "dk"
  rw [List.length_map]
  have hmin : (if (ns.length : Int) < 8 then (ns.length : Int) else 8) ≤ 8 := by split <;> omega
  have hmin0 : 0 ≤ (if (ns.length : Int) < 8 then (ns.length : Int) else 8) := by split <;> omega
  generalize (if (ns.length : Int) < 8 then (ns.length : Int) else 8) = q at *
  refine ⟨⟨by omega, by omega⟩, ?_⟩
  refine for_ind (fun i ρ N => ∃ y1 y2 y3 y4 y5 y6 y7 y8 y9 y10 y11 y12 y13 y14, ρ = [some (.scr (ns.map D.int)), y1, y2, y3, y4, y5, y6, y7, y8, y9, y10, y11, y12, y13, y14] ∧ N PL = some (.tab (lam_law_1 []).q)) ⟨_, _, _, _, _, _, _, _, _, _, _, _, _, _, rfl, hP⟩ ?_ ?_
  · rintro i z ρ N K hz ⟨y1, y2, y3, y4, y5, y6, y7, y8, y9, y10, y11, y12, y13, y14, rfl, hN⟩ hK
    obtain ⟨hi, rfl⟩ := upto_some hz
    rw [Int.zero_add]
    walk_at "dk"
    refine ⟨ns, i, rfl, by omega, fun t o nt hT => ?_⟩
    have tP : PL ≠ t := mu_ne hN nt
    walk_at "dk"
    refine ⟨t, rfl, 2000, _, o, mset_same, hT.mono (by decide), fun d o2 hd hT2 => ?_⟩
    obtain ⟨U, rfl, hU, hth⟩ := hd
    rw [mset_mset]
    walk_at "dk"
    have ll := len_least U
    refine ⟨U, rfl, by omega, ?_⟩
    walk_at "dk"
    simp only [tbD]
    have bd : ∀ s ∈ leastT U, s.1 ≤ 398 := fun s hs => by
      have h1 := (li U _).bd s hs
      have h2 := h1.1
      have h3 := h1.2
      omega
    refine lc_map (fun s => nD s.1) trivial (by omega) ?_ ?_
    · intro s hs k2 e2 hk2
      simp only [stD]
      walk_at "dk"
      exact hk2
    have hps : ∀ p ∈ (leastT U).map (·.1), p ≤ 400 := fun p hp => by
      obtain ⟨s, hs, rfl⟩ := List.mem_map.mp hp
      have := bd s hs
      omega
    have hpl : ((leastT U).map (·.1)).length ≤ 400 := by rw [List.length_map]; omega
    have eps : (leastT U).map (fun s => nD s.1) = ((leastT U).map (·.1)).map nD := by rw [List.map_map]; rfl
    rw [eps]
    generalize (leastT U).map (·.1) = ps at hps hpl
    refine ⟨by rw [mset_ne tP]; exact hN, fun f nf => ⟨?_, fun g ng => ⟨[duD U, tbD (leastT U)], rfl, by decide, ?_⟩⟩⟩
    · have fP : PL ≠ f := fun z => by
        rw [← z, mset_ne tP, hN] at nf; cases nf
      rw [mset_ne fP, mset_ne tP]; exact hN
    have tf : t ≠ f := fun z => by
      rw [← z, mset_same] at nf; cases nf
    have gf : f ≠ g := fun z => by
      rw [← z, mset_same] at ng; cases ng
    have tg : t ≠ g := fun z => by
      rw [← z, mset_ne tf, mset_same] at ng; cases ng
    have fP : PL ≠ f := fun z => by
      rw [← z, mset_ne tP, hN] at nf; cases nf
    have gP : PL ≠ g := fun z => by
      rw [← z, mset_ne fP, mset_ne tP, hN] at ng; cases ng
    obtain ⟨hh, hv3⟩ := hs_paper hpl hps
    refine ⟨U, t, f, g, _, 2, 1000, _, o2, rfl, by omega, rfl, by rw [mset_ne gf]; exact mset_same, mset_same, hh, by decide, hv3, by rw [mset_ne tg, mset_ne tf]; exact mset_same, hT2.mono (by decide), fun o3 hT3 => ?_⟩
    have m0 : (mset (mset (mset (mset N t o2) f (.fn (lam_law_1 cells))) g (.fn (lam_law_2 cells))) t o3) PL = some (.tab (lam_law_1 []).q) := by rw [mset_ne tP, mset_ne gP, mset_ne fP, mset_ne tP]; exact hN
    have m1 : (mset (mset (mset (mset N t o2) f (.fn (lam_law_1 cells))) g (.fn (lam_law_2 cells))) t o3) t = some o3 := mset_same
    generalize mset (mset (mset (mset N t o2) f (.fn (lam_law_1 cells))) g (.fn (lam_law_2 cells))) t o3 = N4 at *
    walk_at "dk"
    refine lc_ind (fun j acc M => ∃ (vs : List Int) (o4 : MO), acc = vs.map D.int ∧ vs.length = j ∧ M = mset N4 t o4 ∧ Tp (400 + (400 - j)) [.int 0, .int 0, .int 0, .int 0] o4) ⟨[], o3, rfl, rfl, (mset_self m1).symm, hT3.mono (by decide)⟩ ?_ ?_
    · rintro j x acc M K2 hz2 ⟨vs, o4, rfl, hvl, rfl, hT4⟩ hK2
      have hj := (List.getElem?_eq_some_iff.mp hz2).1
      rw [List.length_map] at hj
      simp only [duD]
      walk_at "dk"
      refine draw (C := 0) (n := 400 + (400 - (j + 1))) mset_same (hT4.mono (by omega)) (by omega) (by rw [List.length_map]; omega) fun v o5 v0 v1 hT5 => ?_
      rw [mset_mset]
      refine ⟨by rw [List.length_map]; exact Nat.lt_of_lt_of_le (show vs.length < 1000 by omega) (by decide), hK2 _ _ ⟨vs ++ [v], o5, by rw [List.map_append]; rfl, by rw [List.length_append]; simp [hvl], rfl, hT5⟩⟩
    · rintro acc M ⟨vs, o4, rfl, hvl, rfl, hT4⟩
      rw [List.length_map] at hvl hT4
      walk_at "dk"
      have z1 : 1 * (((ps.map nD).length : Int)).toNat ≤ sizeLine := Nat.le_trans (show _ ≤ 1000 by rw [List.length_map]; omega) (by decide)
      have z2 : -9223372036854775808 ≤ ((ps.map nD).length : Int) := by omega
      have z3 : ((ps.map nD).length : Int) < 9223372036854775808 := by rw [List.length_map]; omega
      refine ⟨by decide, by decide, z2, z3, z1, by decide, z2, z3, z1, by decide, ?_⟩
      refine draw (C := 0) (n := 300) mset_same (hT4.mono (by omega)) (by decide) (by decide) fun v o5 v0 v1 hT5 => ?_
      rw [mset_mset]
      have m2 : mset N4 t o5 PL = some (.tab (lam_law_1 []).q) := by rw [mset_ne tP]; exact m0
      generalize mset N4 t o5 = N5 at m2 ⊢
      rw [flat_repl, flat_repl]
      have lps : (ps.map nD).length ≤ 1000 := by rw [List.length_map]; omega
      obtain ⟨y, hy, sy⟩ := atI_any (xs := [D.non, .bl true, .int 0, .str "", .tup [], .tup (ps.map nD), .lst (List.replicate ((ps.map nD).length : Int).toNat .non), .lst (List.replicate ((ps.map nD).length : Int).toNat (.bl true))]) (P := sm 20) v0 v1 fun x hx => by
        simp only [List.mem_cons, List.not_mem_nil, or_false] at hx
        rcases hx with rfl | rfl | rfl | rfl | rfl | rfl | rfl | rfl
        · trivial
        · trivial
        · trivial
        · exact (hs_sm (s := 0) (by decide) 20 _ (hs.wd (by decide +kernel))).1
        · exact ⟨Nat.zero_le _, fun _ h => nomatch h⟩
        · exact ⟨by omega, sm_nDs⟩
        · exact ⟨by rw [List.length_replicate]; omega, sm_repl trivial⟩
        · exact ⟨by rw [List.length_replicate]; omega, sm_repl trivial⟩
      refine ⟨y, hy, vs, rfl, fun vs2 hpm _ => ⟨by decide, ?_⟩⟩
      have lv : vs2.length = vs.length := hpm.length_eq
      have smv : ∀ l : List Int, l.length ≤ 1000 → sm 20 (.lst (l.map D.int)) := fun l h => ⟨by rw [List.length_map]; omega, fun d hd => by
        obtain ⟨_, _, rfl⟩ := List.mem_map.mp hd
        trivial⟩
      have s3 : ∀ d ∈ [D.lst (vs.map D.int), .lst (vs2.map D.int), y], sm 20 d := fun d hd => by
        simp only [List.mem_cons, List.not_mem_nil, or_false] at hd
        rcases hd with rfl | rfl | rfl
        · exact smv _ (by omega)
        · exact smv _ (by omega)
        · exact sy
      refine for_ind (fun j ρ M => M = N5 ∧ ∃ x6 x7 x8 x9 x10 x11 x12 x13 x14, ρ = [some (.scr (ns.map D.int)), some (.int i), some (.ref t), some (duD U), some (.lst ((leastT U).map stD)), some (.lst (ps.map nD)), x6, x7, x8, x9, x10, x11, x12, x13, x14]) ⟨rfl, _, _, _, _, _, _, _, _, _, rfl⟩ ?_ ?_
      · rintro j d ρ M K3 hd ⟨rfl, x6, x7, x8, x9, x10, x11, x12, x13, x14, rfl⟩ hK3
        have sd := s3 d (List.mem_of_getElem? hd)
        walk_at "dk"
        refine ⟨U, d, rfl, by omega, sd, ?_⟩
        walk_at "dk"
        refine ⟨U, d, (leastT U).length, by rw [List.length_map], by omega, by omega, sd, ?_⟩
        walk_at "dk"
        exact hK3 _ _ ⟨rfl, _, _, _, _, _, _, _, _, _, rfl⟩
      · rintro ρ M ⟨rfl, x6, x7, x8, x9, x10, x11, x12, x13, x14, rfl⟩
        exact ⟨trivial, hK _ _ ⟨_, _, _, _, _, _, _, _, _, _, _, _, _, _, rfl, m2⟩⟩
  · rintro ρ N ⟨y1, y2, y3, y4, y5, y6, y7, y8, y9, y10, y11, y12, y13, y14, rfl, hN⟩
    walk_at "dk"
    exact wk.id (h _)
end K37
namespace K37
open PySem PySem.Spec L2 DL
open PyProof.Rows hiding St
theorem all_mk {l : PySem.W.OpenLaw} {w : World} {K : PySem.W.Frag} {h : Heap} {mg : Str → Option Value} {fa : Addr} (X : K.In h) (G : h.Ns mainGlobals mg) (hfa : mg "law" = some (.ref fa)) (T0 : LamX.OwnTab K fa h)
    {f0 : Addr} {od0 an0 : Option Addr} {sl0 : Array (Option Value)} {oc0 kV0 dc0 pm0 cd0 ct0 : Value} (a0 : PySem.W.nsIn K mainGlobals "is_number" = some (some (.ref f0))) (l0 : K.lookup f0 = some ⟨oc0, od0, .func (PySem.W.fnOf "is_number" "is_number" (defArgs st_is_number) (defBody st_is_number) (defScope st_is_number) .none kV0 dc0 pm0 an0 cd0 ct0), sl0⟩) (c0 : PySem.W.codeIn K cd0 "is_number" = true) (k0 : PySem.W.keepIn K (.ref f0) = true)
    {f1 : Addr} {od1 an1 : Option Addr} {sl1 : Array (Option Value)} {oc1 kV1 dc1 pm1 cd1 ct1 : Value} (a1 : PySem.W.nsIn K mainGlobals "are_rising" = some (some (.ref f1))) (l1 : K.lookup f1 = some ⟨oc1, od1, .func (PySem.W.fnOf "are_rising" "are_rising" (defArgs st_are_rising) (defBody st_are_rising) (defScope st_are_rising) .none kV1 dc1 pm1 an1 cd1 ct1), sl1⟩) (c1 : PySem.W.codeIn K cd1 "are_rising" = true) (k1 : PySem.W.keepIn K (.ref f1) = true)
    {f2 : Addr} {od2 an2 : Option Addr} {sl2 : Array (Option Value)} {oc2 kV2 dc2 pm2 cd2 ct2 : Value} (a2 : PySem.W.nsIn K mainGlobals "parted_between" = some (some (.ref f2))) (l2 : K.lookup f2 = some ⟨oc2, od2, .func (PySem.W.fnOf "parted_between" "parted_between" (defArgs st_parted_between) (defBody st_parted_between) (defScope st_parted_between) .none kV2 dc2 pm2 an2 cd2 ct2), sl2⟩) (c2 : PySem.W.codeIn K cd2 "parted_between" = true) (k2 : PySem.W.keepIn K (.ref f2) = true)
    {f3 : Addr} {od3 an3 : Option Addr} {sl3 : Array (Option Value)} {oc3 kV3 dc3 pm3 cd3 ct3 : Value} (a3 : PySem.W.nsIn K mainGlobals "shows_least" = some (some (.ref f3))) (l3 : K.lookup f3 = some ⟨oc3, od3, .func (PySem.W.fnOf "shows_least" "shows_least" (defArgs st_shows_least) (defBody st_shows_least) (defScope st_shows_least) .none kV3 dc3 pm3 an3 cd3 ct3), sl3⟩) (c3 : PySem.W.codeIn K cd3 "shows_least" = true) (k3 : PySem.W.keepIn K (.ref f3) = true)
    {f4 : Addr} {od4 an4 : Option Addr} {sl4 : Array (Option Value)} {oc4 kV4 dc4 pm4 cd4 ct4 : Value} (a4 : PySem.W.nsIn K mainGlobals "_law_cell_at" = some (some (.ref f4))) (l4 : K.lookup f4 = some ⟨oc4, od4, .func (PySem.W.fnOf "_law_cell_at" "_law_cell_at" (defArgs st_l_cell_at) (defBody st_l_cell_at) (defScope st_l_cell_at) .none kV4 dc4 pm4 an4 cd4 ct4), sl4⟩) (c4 : PySem.W.codeIn K cd4 "_law_cell_at" = true) (k4 : PySem.W.keepIn K (.ref f4) = true)
    {f5 : Addr} {od5 an5 : Option Addr} {sl5 : Array (Option Value)} {oc5 kV5 dc5 pm5 cd5 ct5 : Value} (a5 : PySem.W.nsIn K mainGlobals "_law_tape" = some (some (.ref f5))) (l5 : K.lookup f5 = some ⟨oc5, od5, .func (PySem.W.fnOf "_law_tape" "_law_tape" (defArgs st_l_tape) (defBody st_l_tape) (defScope st_l_tape) .none kV5 dc5 pm5 an5 cd5 ct5), sl5⟩) (c5 : PySem.W.codeIn K cd5 "_law_tape" = true) (k5 : PySem.W.keepIn K (.ref f5) = true)
    {f6 : Addr} {od6 an6 : Option Addr} {sl6 : Array (Option Value)} {oc6 kV6 dc6 pm6 cd6 ct6 : Value} (a6 : PySem.W.nsIn K mainGlobals "_law_take" = some (some (.ref f6))) (l6 : K.lookup f6 = some ⟨oc6, od6, .func (PySem.W.fnOf "_law_take" "_law_take" (defArgs st_l_take) (defBody st_l_take) (defScope st_l_take) .none kV6 dc6 pm6 an6 cd6 ct6), sl6⟩) (c6 : PySem.W.codeIn K cd6 "_law_take" = true) (k6 : PySem.W.keepIn K (.ref f6) = true)
    {f7 : Addr} {od7 an7 : Option Addr} {sl7 : Array (Option Value)} {oc7 kV7 dc7 pm7 cd7 ct7 : Value} (a7 : PySem.W.nsIn K mainGlobals "_law_thing" = some (some (.ref f7))) (l7 : K.lookup f7 = some ⟨oc7, od7, .func (PySem.W.fnOf "_law_thing" "_law_thing" (defArgs st_l_thing) (defBody st_l_thing) (defScope st_l_thing) .none kV7 dc7 pm7 an7 cd7 ct7), sl7⟩) (c7 : PySem.W.codeIn K cd7 "_law_thing" = true) (k7 : PySem.W.keepIn K (.ref f7) = true)
    {f8 : Addr} {od8 an8 : Option Addr} {sl8 : Array (Option Value)} {oc8 kV8 dc8 pm8 cd8 ct8 : Value} (a8 : PySem.W.nsIn K mainGlobals "_law_due" = some (some (.ref f8))) (l8 : K.lookup f8 = some ⟨oc8, od8, .func (PySem.W.fnOf "_law_due" "_law_due" (defArgs st_l_due) (defBody st_l_due) (defScope st_l_due) .none kV8 dc8 pm8 an8 cd8 ct8), sl8⟩) (c8 : PySem.W.codeIn K cd8 "_law_due" = true) (k8 : PySem.W.keepIn K (.ref f8) = true)
    {f9 : Addr} {od9 an9 : Option Addr} {sl9 : Array (Option Value)} {oc9 kV9 dc9 pm9 cd9 ct9 : Value} (a9 : PySem.W.nsIn K mainGlobals "_law_least" = some (some (.ref f9))) (l9 : K.lookup f9 = some ⟨oc9, od9, .func (PySem.W.fnOf "_law_least" "_law_least" (defArgs st_l_least) (defBody st_l_least) (defScope st_l_least) .none kV9 dc9 pm9 an9 cd9 ct9), sl9⟩) (c9 : PySem.W.codeIn K cd9 "_law_least" = true) (k9 : PySem.W.keepIn K (.ref f9) = true)
    {f10 : Addr} {od10 an10 : Option Addr} {sl10 : Array (Option Value)} {oc10 kV10 dc10 pm10 cd10 ct10 : Value} (a10 : PySem.W.nsIn K mainGlobals "_law_shows" = some (some (.ref f10))) (l10 : K.lookup f10 = some ⟨oc10, od10, .func (PySem.W.fnOf "_law_shows" "_law_shows" (defArgs st_l_shows) (defBody st_l_shows) (defScope st_l_shows) .none kV10 dc10 pm10 an10 cd10 ct10), sl10⟩) (c10 : PySem.W.codeIn K cd10 "_law_shows" = true) (k10 : PySem.W.keepIn K (.ref f10) = true)
    {f11 : Addr} {od11 an11 : Option Addr} {sl11 : Array (Option Value)} {oc11 kV11 dc11 pm11 cd11 ct11 : Value} (a11 : PySem.W.nsIn K mainGlobals "_law_spots" = some (some (.ref f11))) (l11 : K.lookup f11 = some ⟨oc11, od11, .func (PySem.W.fnOf "_law_spots" "_law_spots" (defArgs st_l_spots) (defBody st_l_spots) (defScope st_l_spots) .none kV11 dc11 pm11 an11 cd11 ct11), sl11⟩) (c11 : PySem.W.codeIn K cd11 "_law_spots" = true) (k11 : PySem.W.keepIn K (.ref f11) = true)
    {f12 : Addr} {od12 an12 : Option Addr} {sl12 : Array (Option Value)} {oc12 kV12 dc12 pm12 cd12 ct12 : Value} (a12 : PySem.W.nsIn K mainGlobals "_law_as" = some (some (.ref f12))) (l12 : K.lookup f12 = some ⟨oc12, od12, .func (PySem.W.fnOf "_law_as" "_law_as" (defArgs st_l_as) (defBody st_l_as) (defScope st_l_as) .none kV12 dc12 pm12 an12 cd12 ct12), sl12⟩) (c12 : PySem.W.codeIn K cd12 "_law_as" = true) (k12 : PySem.W.keepIn K (.ref f12) = true)
    {f13 : Addr} {od13 an13 : Option Addr} {sl13 : Array (Option Value)} {oc13 kV13 dc13 pm13 cd13 ct13 : Value} (a13 : PySem.W.nsIn K mainGlobals "_law_step_of_many" = some (some (.ref f13))) (l13 : K.lookup f13 = some ⟨oc13, od13, .func (PySem.W.fnOf "_law_step_of_many" "_law_step_of_many" (defArgs st_l_step_of_many) (defBody st_l_step_of_many) (defScope st_l_step_of_many) .none kV13 dc13 pm13 an13 cd13 ct13), sl13⟩) (c13 : PySem.W.codeIn K cd13 "_law_step_of_many" = true) (k13 : PySem.W.keepIn K (.ref f13) = true)
    {f14 : Addr} {od14 an14 : Option Addr} {sl14 : Array (Option Value)} {oc14 kV14 dc14 pm14 cd14 ct14 : Value} (a14 : PySem.W.nsIn K mainGlobals "_law_step" = some (some (.ref f14))) (l14 : K.lookup f14 = some ⟨oc14, od14, .func (PySem.W.fnOf "_law_step" "_law_step" (defArgs st_l_step) (defBody st_l_step) (defScope st_l_step) .none kV14 dc14 pm14 an14 cd14 ct14), sl14⟩) (c14 : PySem.W.codeIn K cd14 "_law_step" = true) (k14 : PySem.W.keepIn K (.ref f14) = true)
    {f15 : Addr} {od15 an15 : Option Addr} {sl15 : Array (Option Value)} {oc15 kV15 dc15 pm15 cd15 ct15 : Value} (a15 : PySem.W.nsIn K mainGlobals "_law_bent_at" = some (some (.ref f15))) (l15 : K.lookup f15 = some ⟨oc15, od15, .func (PySem.W.fnOf "_law_bent_at" "_law_bent_at" (defArgs st_l_bent_at) (defBody st_l_bent_at) (defScope st_l_bent_at) .none kV15 dc15 pm15 an15 cd15 ct15), sl15⟩) (c15 : PySem.W.codeIn K cd15 "_law_bent_at" = true) (k15 : PySem.W.keepIn K (.ref f15) = true)
    {f16 : Addr} {od16 an16 : Option Addr} {sl16 : Array (Option Value)} {oc16 kV16 dc16 pm16 cd16 ct16 : Value} (a16 : PySem.W.nsIn K mainGlobals "_law_bent" = some (some (.ref f16))) (l16 : K.lookup f16 = some ⟨oc16, od16, .func (PySem.W.fnOf "_law_bent" "_law_bent" (defArgs st_l_bent) (defBody st_l_bent) (defScope st_l_bent) .none kV16 dc16 pm16 an16 cd16 ct16), sl16⟩) (c16 : PySem.W.codeIn K cd16 "_law_bent" = true) (k16 : PySem.W.keepIn K (.ref f16) = true)
    {f17 : Addr} {od17 an17 : Option Addr} {sl17 : Array (Option Value)} {oc17 kV17 dc17 pm17 cd17 ct17 : Value} (a17 : PySem.W.nsIn K mainGlobals "_law_right" = some (some (.ref f17))) (l17 : K.lookup f17 = some ⟨oc17, od17, .func (PySem.W.fnOf "_law_right" "_law_right" (defArgs st_l_right) (defBody st_l_right) (defScope st_l_right) .none kV17 dc17 pm17 an17 cd17 ct17), sl17⟩) (c17 : PySem.W.codeIn K cd17 "_law_right" = true) (k17 : PySem.W.keepIn K (.ref f17) = true)
    {f18 : Addr} {od18 an18 : Option Addr} {sl18 : Array (Option Value)} {oc18 kV18 dc18 pm18 cd18 ct18 : Value} (a18 : PySem.W.nsIn K mainGlobals "law" = some (some (.ref f18))) (l18 : K.lookup f18 = some ⟨oc18, od18, .func (PySem.W.fnOf "law" "law" (defArgs st_law) (defBody st_law) (defScope st_law) .none kV18 dc18 pm18 an18 cd18 ct18), sl18⟩) (c18 : PySem.W.codeIn K cd18 "law" = true) (k18 : PySem.W.keepIn K (.ref f18) = true)
    (z_abs : PySem.W.nsIn K mainGlobals "abs" = some none)
    (z_all : PySem.W.nsIn K mainGlobals "all" = some none)
    (z_bool : PySem.W.nsIn K mainGlobals "bool" = some none)
    (z_enumerate : PySem.W.nsIn K mainGlobals "enumerate" = some none)
    (z_int : PySem.W.nsIn K mainGlobals "int" = some none)
    (z_isinstance : PySem.W.nsIn K mainGlobals "isinstance" = some none)
    (z_len : PySem.W.nsIn K mainGlobals "len" = some none)
    (z_list : PySem.W.nsIn K mainGlobals "list" = some none)
    (z_min : PySem.W.nsIn K mainGlobals "min" = some none)
    (z_range : PySem.W.nsIn K mainGlobals "range" = some none)
    (z_repr : PySem.W.nsIn K mainGlobals "repr" = some none)
    (z_sorted : PySem.W.nsIn K mainGlobals "sorted" = some none)
    (z_str : PySem.W.nsIn K mainGlobals "str" = some none)
    (z_tuple : PySem.W.nsIn K mainGlobals "tuple" = some none)
    (z_zip : PySem.W.nsIn K mainGlobals "zip" = some none)
    (oL : ownIn K cd18 = true) :
    ∃ (fd : FuncData) (c P : Addr), h.get? P = some { cls := .none, data := .fields #[] } ∧ K.lookup P = none ∧ PySem.W.codeHdIn K c P = true ∧ (∀ (s : Shared) (v : Value), BindsTo s fd ⟨[v], []⟩ [("_law_script", v)]) ∧ ∀ base : Heap, K.In base → base.Ns mainGlobals mg → LamX.TabB base mg c P → FnG l.prog w K mg base 18 fa fd ["_law_script"] (liftSp K 1 (spLaw P)) := by
  have e := hfa.symm.trans (PySem.W.mg_of X G a18)
  cases e
  obtain ⟨hcd, hT, nT, hC⟩ := ownIn_ok oL T0 l18 rfl rfl
  refine ⟨PySem.W.fnOf "law" "law" (defArgs st_law) (defBody st_law) (defScope st_law) .none kV18 dc18 pm18 an18 cd18 ct18, _, _, hT, nT, hC, fun s v => .of_eq rfl, fun base _ _ TB => ?_⟩
  have B : Bt mg := ⟨PySem.W.mg_none_of X G z_abs, PySem.W.mg_none_of X G z_all, PySem.W.mg_none_of X G z_bool, PySem.W.mg_none_of X G z_enumerate, PySem.W.mg_none_of X G z_int, PySem.W.mg_none_of X G z_isinstance, PySem.W.mg_none_of X G z_len, PySem.W.mg_none_of X G z_list, PySem.W.mg_none_of X G z_min, PySem.W.mg_none_of X G z_range, PySem.W.mg_none_of X G z_repr, PySem.W.mg_none_of X G z_sorted, PySem.W.mg_none_of X G z_str, PySem.W.mg_none_of X G z_tuple, PySem.W.mg_none_of X G z_zip⟩
  have C : Ct mg := ⟨⟩
  have F0 := fun_mk (st := st_is_number) l0 c0 k0
  have b0 := F0.binds (ps := ["thing"]) fun _ _ _ _ _ _ us hl => match us, hl with | [_], _ => rfl
  have D_is_number := DFnG.of (P := l.prog) (w := w) (base := base) (k := 0) F0 (PySem.W.mg_of X G a0) b0 sc_is_number (fun cdv A outer s H E hr => body_is_number B C  cdv A outer s H E hr) spec_is_number
  have F1 := fun_mk (st := st_are_rising) l1 c1 k1
  have b1 := F1.binds (ps := ["thing", "many"]) fun _ _ _ _ _ _ us hl => match us, hl with | [_, _], _ => rfl
  have D_are_rising := DFnG.of (P := l.prog) (w := w) (base := base) (k := 1) F1 (PySem.W.mg_of X G a1) b1 sc_are_rising (fun cdv A outer s H E hr => body_are_rising B C (D_is_number.mono (by decide)) cdv A outer s H E hr) spec_are_rising
  have F2 := fun_mk (st := st_parted_between) l2 c2 k2
  have b2 := F2.binds (ps := ["due", "one", "other"]) fun _ _ _ _ _ _ us hl => match us, hl with | [_, _, _], _ => rfl
  have D_parted_between := DFnG.of (P := l.prog) (w := w) (base := base) (k := 0) F2 (PySem.W.mg_of X G a2) b2 sc_parted_between (fun cdv A outer s H E hr => body_parted_between B C  cdv A outer s H E hr) spec_parted_between
  have F3 := fun_mk (st := st_shows_least) l3 c3 k3
  have b3 := F3.binds (ps := ["due", "table", "paper"]) fun _ _ _ _ _ _ us hl => match us, hl with | [_, _, _], _ => rfl
  have D_shows_least := DFnG.of (P := l.prog) (w := w) (base := base) (k := 2) F3 (PySem.W.mg_of X G a3) b3 sc_shows_least (fun cdv A outer s H E hr => body_shows_least B C (D_are_rising.mono (by decide)) (D_parted_between.mono (by decide)) cdv A outer s H E hr) spec_shows_least
  have F4 := fun_mk (st := st_l_cell_at) l4 c4 k4
  have b4 := F4.binds (ps := ["_law_script", "_law_k"]) fun _ _ _ _ _ _ us hl => match us, hl with | [_, _], _ => rfl
  have D_l_cell_at := DFnG.of (P := l.prog) (w := w) (base := base) (k := 0) F4 (PySem.W.mg_of X G a4) b4 sc_l_cell_at (fun cdv A outer s H E hr => body_l_cell_at B C  cdv A outer s H E hr) spec_l_cell_at
  have F5 := fun_mk (st := st_l_tape) l5 c5 k5
  have b5 := F5.binds (ps := ["_law_script", "_law_k"]) fun _ _ _ _ _ _ us hl => match us, hl with | [_, _], _ => rfl
  have D_l_tape := DFnG.of (P := l.prog) (w := w) (base := base) (k := 1) F5 (PySem.W.mg_of X G a5) b5 sc_l_tape (fun cdv A outer s H E hr => body_l_tape B C (D_l_cell_at.mono (by decide)) cdv A outer s H E hr) spec_l_tape
  have F6 := fun_mk (st := st_l_take) l6 c6 k6
  have b6 := F6.binds (ps := ["_law_tape_here", "_law_many"]) fun _ _ _ _ _ _ us hl => match us, hl with | [_, _], _ => rfl
  have D_l_take := DFnG.of (P := l.prog) (w := w) (base := base) (k := 0) F6 (PySem.W.mg_of X G a6) b6 sc_l_take (fun cdv A outer s H E hr => body_l_take B C  cdv A outer s H E hr) spec_l_take
  have F7 := fun_mk (st := st_l_thing) l7 c7 k7
  have b7 := F7.binds (ps := ["_law_tape_here"]) fun _ _ _ _ _ _ us hl => match us, hl with | [_], _ => rfl
  have D_l_thing := DFnG.of (P := l.prog) (w := w) (base := base) (k := 1) F7 (PySem.W.mg_of X G a7) b7 sc_l_thing (fun cdv A outer s H E hr => body_l_thing B C (D_l_take.mono (by decide)) cdv A outer s H E hr) spec_l_thing
  have F8 := fun_mk (st := st_l_due) l8 c8 k8
  have b8 := F8.binds (ps := ["_law_tape_here"]) fun _ _ _ _ _ _ us hl => match us, hl with | [_], _ => rfl
  have D_l_due := DFnG.of (P := l.prog) (w := w) (base := base) (k := 2) F8 (PySem.W.mg_of X G a8) b8 sc_l_due (fun cdv A outer s H E hr => body_l_due B C (D_l_take.mono (by decide)) (D_l_thing.mono (by decide)) cdv A outer s H E hr) spec_l_due
  have F9 := fun_mk (st := st_l_least) l9 c9 k9
  have b9 := F9.binds (ps := ["_law_due_here"]) fun _ _ _ _ _ _ us hl => match us, hl with | [_], _ => rfl
  have D_l_least := DFnG.of (P := l.prog) (w := w) (base := base) (k := 0) F9 (PySem.W.mg_of X G a9) b9 sc_l_least (fun cdv A outer s H E hr => body_l_least B C  cdv A outer s H E hr) spec_l_least
  have F10 := fun_mk (st := st_l_shows) l10 c10 k10
  have b10 := F10.binds (ps := ["_law_due_here", "_law_many", "_law_thing_here"]) fun _ _ _ _ _ _ us hl => match us, hl with | [_, _, _], _ => rfl
  have D_l_shows := DFnG.of (P := l.prog) (w := w) (base := base) (k := 0) F10 (PySem.W.mg_of X G a10) b10 sc_l_shows (fun cdv A outer s H E hr => body_l_shows B C  cdv A outer s H E hr) spec_l_shows
  have F11 := fun_mk (st := st_l_spots) l11 c11 k11
  have b11 := F11.binds (ps := ["_law_thing_here"]) fun _ _ _ _ _ _ us hl => match us, hl with | [_], _ => rfl
  have D_l_spots := DFnG.recur (P := l.prog) (w := w) (base := base) (L := 0) (spS := spSpots) F11 (PySem.W.mg_of X G a11) b11 sc_l_spots (fun _ _ _ h => h) (fun j D cdv A outer s H E hr => body_l_spots B C D cdv A outer s H E hr) spec_l_spots 12
  have F12 := fun_mk (st := st_l_as) l12 c12 k12
  have b12 := F12.binds (ps := ["_law_thing_here", "_law_inner"]) fun _ _ _ _ _ _ us hl => match us, hl with | [_, _], _ => rfl
  have D_l_as := DFnG.of (P := l.prog) (w := w) (base := base) (k := 0) F12 (PySem.W.mg_of X G a12) b12 sc_l_as (fun cdv A outer s H E hr => body_l_as B C  cdv A outer s H E hr) spec_l_as
  have F13 := fun_mk (st := st_l_step_of_many) l13 c13 k13
  have b13 := F13.binds (ps := ["_law_tape_here", "_law_thing_here"]) fun _ _ _ _ _ _ us hl => match us, hl with | [_, _], _ => rfl
  have D_l_step_of_many := DFnG.of (P := l.prog) (w := w) (base := base) (k := 1) F13 (PySem.W.mg_of X G a13) b13 sc_l_step_of_many (fun cdv A outer s H E hr => body_l_step_of_many B C (D_l_take.mono (by decide)) (D_l_as.mono (by decide)) cdv A outer s H E hr) spec_l_step_of_many
  have F14 := fun_mk (st := st_l_step) l14 c14 k14
  have b14 := F14.binds (ps := ["_law_tape_here", "_law_thing_here"]) fun _ _ _ _ _ _ us hl => match us, hl with | [_, _], _ => rfl
  have D_l_step := DFnG.of (P := l.prog) (w := w) (base := base) (k := 2) F14 (PySem.W.mg_of X G a14) b14 sc_l_step (fun cdv A outer s H E hr => body_l_step B C (D_l_step_of_many.mono (by decide)) (D_l_take.mono (by decide)) cdv A outer s H E hr) spec_l_step
  have F15 := fun_mk (st := st_l_bent_at) l15 c15 k15
  have b15 := F15.binds (ps := ["_law_tape_here", "_law_thing_here", "_law_spot"]) fun _ _ _ _ _ _ us hl => match us, hl with | [_, _, _], _ => rfl
  have D_l_bent_at := DFnG.recur (P := l.prog) (w := w) (base := base) (L := 3) (spS := spBentAt) F15 (PySem.W.mg_of X G a15) b15 sc_l_bent_at (fun _ _ _ h => h) (fun j D cdv A outer s H E hr => body_l_bent_at B C (D_l_step.mono (by omega)) D (D_l_as.mono (by omega)) cdv A outer s H E hr) spec_l_bent_at 12
  have F16 := fun_mk (st := st_l_bent) l16 c16 k16
  have b16 := F16.binds (ps := ["_law_tape_here", "_law_handed"]) fun _ _ _ _ _ _ us hl => match us, hl with | [_, _], _ => rfl
  have D_l_bent := DFnG.of (P := l.prog) (w := w) (base := base) (k := 15) F16 (PySem.W.mg_of X G a16) b16 sc_l_bent (fun cdv A outer s H E hr => body_l_bent B C (D_l_take.mono (by decide)) (D_l_spots.mono (by decide)) (D_l_bent_at.mono (by decide)) cdv A outer s H E hr) spec_l_bent
  have D_lam_law_1 := fun (cells : List (Str × Addr)) (cs : List D) => DLamC.of (P := l.prog) (w := w) (mg := mg) (base := base) (k := 3) (L := lam_law_1 cells) (cs := cs) sc_lam_law_1 (fun us _ _ _ hl => match us, hl with | [_], _ => rfl) (fun f c A outer s H E hr => body_lam_law_1 B C (D_shows_least.mono (by decide)) cells f c A outer s H E hr) (spec_lam_law_1 cs)
  have D_lam_law_2 := fun (cells : List (Str × Addr)) (cs : List D) => DLamC.of (P := l.prog) (w := w) (mg := mg) (base := base) (k := 1) (L := lam_law_2 cells) (cs := cs) sc_lam_law_2 (fun us _ _ _ hl => match us, hl with | [_], _ => rfl) (fun f c A outer s H E hr => body_lam_law_2 B C (D_l_shows.mono (by decide)) cells f c A outer s H E hr) (spec_lam_law_2 cs)
  have F17 := fun_mk (st := st_l_right) l17 c17 k17
  have b17 := F17.binds (ps := ["_law_tape_here", "_law_ask", "_law_due_here", "_law_handed"]) fun _ _ _ _ _ _ us hl => match us, hl with | [_, _, _, _], _ => rfl
  have D_l_right := fun (cells : List (Str × Addr)) (cs : List D) => DFnC.of (P := l.prog) (w := w) (base := base) (k := 16) (m := 1) (ls := lamsL cells cs) F17 (PySem.W.mg_of X G a17) b17 sc_l_right (List.forall_mem_cons.mpr ⟨(D_lam_law_1 cells cs).mono (by decide), (List.forall_mem_cons.mpr ⟨(D_lam_law_2 cells cs).mono (by decide), (fun _ h => nomatch h)⟩)⟩) (fun anc cdv A outer s H E D_LAM hr => body_l_right B C (D_l_bent.mono (by decide)) (anc := anc) cdv A outer s H E D_LAM hr) (spec_l_right cells cs)
  have F18 := fun_mk (st := st_law) l18 c18 k18
  exact fng_ofLC (P := l.prog) (w := w) (base := base) (k := 17) F18 sc_law (fun cdv A outer s H E hc hr => body_law B C (D_l_tape.mono (by decide)) (D_l_due.mono (by decide)) (D_l_least.mono (by decide)) (fun cells cs => (D_l_right cells cs).mono (by decide)) (D_l_take.mono (by decide)) (D_shows_least.mono (by decide)) (D_l_shows.mono (by decide)) TB cdv A outer s H E (hc.symm.trans hcd) hr) (spec_law _)
end K37
open PySem PySem.W PyProof.Rows
set_option maxHeartbeats 0 in
theorem PySem.Challenge.cw_faultways_k37_papers_spoilt_anywhere_holds : PySem.Challenge.rw_faultways_k37_papers_spoilt_anywhere.Holds := by
  w_on; o_law; k_head; (case hw => w_witness2)
  k_fill
  refine DL.walk_ofL (l := PySem.Challenge.rw_faultways_k37_papers_spoilt_anywhere) (n := 63) (k := 18) (x := "_law_script") (sp := fun w P => DL.liftSp _ 1 (K37.spLaw P)) rfl (by decide) rfl ⟨rfl, by decide, by decide⟩ (by decide +kernel) (fun w h Y => PySem.W.km_in_of Y) ?F (fun _ _ P a ns hl hP hS => DL.law_spL hP hS (K37.law_start P ns hl))
  case F =>
    intro w mg fa h KX G hmg T0
    refine' K37.all_mk KX G hmg T0 ?a0 ?l0 ?c0 ?k0 ?a1 ?l1 ?c1 ?k1 ?a2 ?l2 ?c2 ?k2 ?a3 ?l3 ?c3 ?k3 ?a4 ?l4 ?c4 ?k4 ?a5 ?l5 ?c5 ?k5 ?a6 ?l6 ?c6 ?k6 ?a7 ?l7 ?c7 ?k7 ?a8 ?l8 ?c8 ?k8 ?a9 ?l9 ?c9 ?k9 ?a10 ?l10 ?c10 ?k10 ?a11 ?l11 ?c11 ?k11 ?a12 ?l12 ?c12 ?k12 ?a13 ?l13 ?c13 ?k13 ?a14 ?l14 ?c14 ?k14 ?a15 ?l15 ?c15 ?k15 ?a16 ?l16 ?c16 ?k16 ?a17 ?l17 ?c17 ?k17 ?a18 ?l18 ?c18 ?k18 ?z_abs ?z_all ?z_bool ?z_enumerate ?z_int ?z_isinstance ?z_len ?z_list ?z_min ?z_range ?z_repr ?z_sorted ?z_str ?z_tuple ?z_zip ?oL
    (case a0 => k_is); (case l0 => k_is); (case c0 => k_is); (case k0 => k_is); (case a1 => k_is); (case l1 => k_is); (case c1 => k_is); (case k1 => k_is); (case a2 => k_is); (case l2 => k_is); (case c2 => k_is); (case k2 => k_is); (case a3 => k_is); (case l3 => k_is); (case c3 => k_is); (case k3 => k_is); (case a4 => k_is); (case l4 => k_is); (case c4 => k_is); (case k4 => k_is); (case a5 => k_is); (case l5 => k_is); (case c5 => k_is); (case k5 => k_is); (case a6 => k_is); (case l6 => k_is); (case c6 => k_is); (case k6 => k_is); (case a7 => k_is); (case l7 => k_is); (case c7 => k_is); (case k7 => k_is); (case a8 => k_is); (case l8 => k_is); (case c8 => k_is); (case k8 => k_is); (case a9 => k_is); (case l9 => k_is); (case c9 => k_is); (case k9 => k_is); (case a10 => k_is); (case l10 => k_is); (case c10 => k_is); (case k10 => k_is); (case a11 => k_is); (case l11 => k_is); (case c11 => k_is); (case k11 => k_is); (case a12 => k_is); (case l12 => k_is); (case c12 => k_is); (case k12 => k_is); (case a13 => k_is); (case l13 => k_is); (case c13 => k_is); (case k13 => k_is); (case a14 => k_is); (case l14 => k_is); (case c14 => k_is); (case k14 => k_is); (case a15 => k_is); (case l15 => k_is); (case c15 => k_is); (case k15 => k_is); (case a16 => k_is); (case l16 => k_is); (case c16 => k_is); (case k16 => k_is); (case a17 => k_is); (case l17 => k_is); (case c17 => k_is); (case k17 => k_is); (case a18 => k_is); (case l18 => k_is); (case c18 => k_is); (case k18 => k_is); (case z_abs => k_is); (case z_all => k_is); (case z_bool => k_is); (case z_enumerate => k_is); (case z_int => k_is); (case z_isinstance => k_is); (case z_len => k_is); (case z_list => k_is); (case z_min => k_is); (case z_range => k_is); (case z_repr => k_is); (case z_sorted => k_is); (case z_str => k_is); (case z_tuple => k_is); (case z_zip => k_is); (case oL => kernel_rfl)
