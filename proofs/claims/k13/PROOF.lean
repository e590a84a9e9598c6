import PyProof.Rows.All
import Wide.All
import OpenK.AllK
import Wide.FinOn
import HandS.ForMost
import HandS.Exc
import HandS.ExcOwn
import HandS.WordsExc
import HandS.IsInst
import HandS.TupAny
import HandS.TupMul
import HandS.TupLe
import HandS.Lambda
import KE.KDictKeyed
import KE.KDictCopyH
import KE.KDictWalk
import KE.KDictDisplayH
import HandS.Deep
import HandS.ExcIs
import HandS.HeadHook4
import HandS.HeadEnd
import HandS.HeadWalk
import HandS.Style
import HandS.RaiseMore
import HandS.Iter
import HandS.Strs
import HandS.SetFor
import HandS.Set
import HandS.More
import KE.KDictList
import HandS.SortInts
import KE.KDictSum
import PySem.Challenge.RW_pairskept_k13_known_designs
import HandS.ExcInit
import HandS.ExcField
import KE.KExcSuper
import HandS.Head0
import HandS.Head1
import HandS.Head2
set_option Elab.async false
set_option linter.all false
set_option maxRecDepth 100000
set_option maxHeartbeats 4000000
/-! J0: data, mutable objects by number, how they lie in the layer's heap. -/
namespace J
open PySem PySem.Spec L2

/-- a value -/
inductive D where
  | non | bl (b : Bool) | int (i : Int) | str (x : Str) | ty (n : String) | tup (ds : List D) | lst (ds : List D) | frz (ds : List D) | obj (n : Nat) | raw (a : Addr)

/-- a mutable object: a list, a dict with int and text keys, an instance, a dict whose keys are data, a lambda of the text by its number -/
inductive IO where
  | lst (ds : List D) | dic (kvs : List (Key × D)) | ins (c : Nat) (fs : List (Str × D)) | dcd (kvs : List (D × D)) | lam (k : Nat)
/-- a lambda of the text: its parameters, body, scope, qualified name, captured cells, defaults -/
structure LamD where
  params : Arguments
  body : Expr
  scope : Scope
  q : Str
  cl : List (Str × Addr)
  dfl : List V

abbrev S := List IO
abbrev Env := List (Option D)
/-- an exception: its class, a field -/
structure Ex where
  cls : Nat
  arg : Option (Str × D) := none
inductive R (α : Type) where
  | ok (a : α) (s : S) | err (e : Ex) (s : S) | no
def R.bind {α β : Type} (r : R α) (k : α → S → R β) : R β := match r with
  | .ok a s => k a s
  | .err e s => .err e s
  | .no => .no
inductive Fl where
  | nx (ρ : Env) | rt (d : D) | bk (ρ : Env) | ct (ρ : Env)
abbrev GE := Env → S → R D
abbrev GT := Env → S → R Bool
abbrev GA := Env → S → R (List D)
abbrev GS := Env → S → R Fl

/-- the own classes by number; the tables of code objects of defs that make lambdas; the dicts of errors that are held; the lambdas of the text -/
structure Ct where
  c : Nat → Addr
  T : List (Addr × Str)
  P : Program
  w : World
  x : List (Addr × Str × V) := []
  lam : Nat → Option LamD := fun _ => none
/-- the mutable objects' addresses by number; all addresses whose lists may change -/
structure Wd where
  ι : List Addr
  M : List Addr

/-- a tuple stands at a: in the heap, or in the written part -/
def TupAt (K : PySem.W.Frag) (H : Hp) (a : Addr) (vs : List V) : Prop := H a = some (.tup vs) ∨
  ∃ (o : Obj) (its : Array Value) (n : Nat), K.lookup a = some o ∧ o.cls = .type "tuple" ∧ o.data = .seq its n ∧ its.size ≤ sizeLine ∧ Vals vs its.toList
theorem TupAt.sq {K : PySem.W.Frag} {H : Hp} {a : Addr} {vs : List V} (h : TupAt K H a vs) : SqT K H a vs := h.elim (fun h => SqT.of h) .inr

/-- a list that is never changed stands at a: locked, or in the written part -/
def FrzAt (K : PySem.W.Frag) (H : Hp) (a : Addr) (vs : List V) : Prop := (∃ o, H a = some (.frz o (.lst vs))) ∨
  ∃ (o : Obj) (its : Array Value) (n : Nat), K.lookup a = some o ∧ o.cls = .type "list" ∧ o.dict = none ∧ o.data = .seq its n ∧ its.size ≤ sizeLine ∧ Vals vs its.toList
theorem FrzAt.sq {K : PySem.W.Frag} {H : Hp} {a : Addr} {vs : List V} (h : FrzAt K H a vs) : SqL K H a vs := h.elim (fun ⟨o, h⟩ => .inl (.inr ⟨o, h⟩)) .inr

mutual
inductive Rep (K : PySem.W.Frag) (ι : Wd) (H : Hp) : D → V → Prop
  | non : Rep K ι H .non .non
  | bl (b : Bool) : Rep K ι H (.bl b) (.bl b)
  | int (i : Int) : Rep K ι H (.int i) (.int i)
  | str (x : Str) : Rep K ι H (.str x) (.str x)
  | ty (n : String) : Rep K ι H (.ty n) (.ty n)
  | tup {a : Addr} {vs : List V} {ds : List D} : TupAt K H a vs → Reps K ι H ds vs → Rep K ι H (.tup ds) (.ref a)
  | lst {a : Addr} {vs : List V} {ds : List D} : H a = some (.lst vs) → a ∉ ι.M → Reps K ι H ds vs → Rep K ι H (.lst ds) (.ref a)
  | frz {a : Addr} {vs : List V} {ds : List D} : FrzAt K H a vs → Reps K ι H ds vs → Rep K ι H (.frz ds) (.ref a)
  | frz2 {a : Addr} {vs : List V} {ds : List D} : H a = some (.lst vs) → a ∉ ι.M → Reps K ι H ds vs → Rep K ι H (.frz ds) (.ref a)
  | obj {a : Addr} {n : Nat} : ι.ι[n]? = some a → Rep K ι H (.obj n) (.ref a)
  | raw (a : Addr) : Rep K ι H (.raw a) (.ref a)
inductive Reps (K : PySem.W.Frag) (ι : Wd) (H : Hp) : List D → List V → Prop
  | nil : Reps K ι H [] []
  | cons {d : D} {ds : List D} {v : V} {vs : List V} : Rep K ι H d v → Reps K ι H ds vs → Reps K ι H (d :: ds) (v :: vs)
end

/-- not a table of code objects -/
def NoTab (o : HO) : Prop := ∀ ps, o ≠ .tbl ps
theorem noTab_lst {xs : List V} : NoTab (.lst xs) := fun _ z => by cases z
/-- what a value's form leans on is kept -/
structure Ke (ι : Wd) (H : Hp) (ι' : Wd) (H' : Hp) : Prop where
  pre : ι.ι <+: ι'.ι
  keep : ∀ a o, H a = some o → NoTab o → a ∉ ι.M → H' a = some o ∧ a ∉ ι'.M
  tup : ∀ a xs, H a = some (.tup xs) → H' a = some (.tup xs)
  frz : ∀ a o u, H a = some (.frz o u) → H' a = some (.frz o u)
/-- all but the mutable objects is kept -/
structure Le (ι : Wd) (H : Hp) (ι' : Wd) (H' : Hp) : Prop extends Ke ι H ι' H' where
  stay : ∀ a o, H a = some o → NoTab o → a ∉ ι.ι → H' a = some o ∧ a ∉ ι'.ι
  sub : ∀ a ∈ ι.M, a ∈ ι'.M

theorem Ke.refl {ι : Wd} {H : Hp} : Ke ι H ι H := ⟨List.prefix_rfl, fun _ _ h _ n => ⟨h, n⟩, fun _ _ h => h, fun _ _ _ h => h⟩
theorem Le.refl {ι : Wd} {H : Hp} : Le ι H ι H := ⟨.refl, fun _ _ h _ n => ⟨h, n⟩, fun _ h => h⟩
theorem Ke.trans {ι ι1 ι2 : Wd} {H H1 H2 : Hp} (a : Ke ι H ι1 H1) (b : Ke ι1 H1 ι2 H2) : Ke ι H ι2 H2 :=
  ⟨a.pre.trans b.pre, fun c o h t n => let q := a.keep c o h t n; b.keep c o q.1 t q.2, fun c xs h => b.tup c xs (a.tup c xs h), fun c o u h => b.frz c o u (a.frz c o u h)⟩
theorem Le.trans {ι ι1 ι2 : Wd} {H H1 H2 : Hp} (a : Le ι H ι1 H1) (b : Le ι1 H1 ι2 H2) : Le ι H ι2 H2 :=
  ⟨a.toKe.trans b.toKe, fun c o h t n => let q := a.stay c o h t n; b.stay c o q.1 t q.2, fun c h => b.sub c (a.sub c h)⟩
theorem Ke.get {ι ι' : Wd} {H H' : Hp} (l : Ke ι H ι' H') {n : Nat} {a : Addr} (h : ι.ι[n]? = some a) : ι'.ι[n]? = some a := by
  obtain ⟨t, e⟩ := l.pre
  rw [← e, List.getElem?_append_left (List.getElem?_eq_some_iff.mp h).1]; exact h
theorem Ke.tupAt {K : PySem.W.Frag} {ι ι' : Wd} {H H' : Hp} {a : Addr} {vs : List V} (l : Ke ι H ι' H') (h : TupAt K H a vs) : TupAt K H' a vs := h.elim (fun h => .inl (l.tup _ _ h)) .inr

theorem Ke.frzAt {K : PySem.W.Frag} {ι ι' : Wd} {H H' : Hp} {a : Addr} {vs : List V} (l : Ke ι H ι' H') (h : FrzAt K H a vs) : FrzAt K H' a vs := h.elim (fun ⟨o, h⟩ => .inl ⟨o, l.frz _ _ _ h⟩) .inr

mutual
theorem Rep.monoK {K : PySem.W.Frag} {ι ι' : Wd} {H H' : Hp} (l : Ke ι H ι' H') : ∀ {d : D} {v : V}, Rep K ι H d v → Rep K ι' H' d v
  | _, _, .non => .non
  | _, _, .bl b => .bl b
  | _, _, .int i => .int i
  | _, _, .str x => .str x
  | _, _, .ty n => .ty n
  | _, _, .tup h r => .tup (l.tupAt h) (Reps.monoK l r)
  | _, _, .lst h n r => .lst (l.keep _ _ h noTab_lst n).1 (l.keep _ _ h noTab_lst n).2 (Reps.monoK l r)
  | _, _, .frz h r => .frz (l.frzAt h) (Reps.monoK l r)
  | _, _, .frz2 h n r => .frz2 (l.keep _ _ h noTab_lst n).1 (l.keep _ _ h noTab_lst n).2 (Reps.monoK l r)
  | _, _, .obj h => .obj (l.get h)
  | _, _, .raw a => .raw a
theorem Reps.monoK {K : PySem.W.Frag} {ι ι' : Wd} {H H' : Hp} (l : Ke ι H ι' H') : ∀ {ds : List D} {vs : List V}, Reps K ι H ds vs → Reps K ι' H' ds vs
  | _, _, .nil => .nil
  | _, _, .cons r t => .cons (Rep.monoK l r) (Reps.monoK l t)
end
theorem Rep.mono {K : PySem.W.Frag} {ι ι' : Wd} {H H' : Hp} {d : D} {v : V} (r : Rep K ι H d v) (l : Le ι H ι' H') : Rep K ι' H' d v := Rep.monoK l.toKe r
theorem Reps.mono {K : PySem.W.Frag} {ι ι' : Wd} {H H' : Hp} {d : List D} {v : List V} (r : Reps K ι H d v) (l : Le ι H ι' H') : Reps K ι' H' d v := Reps.monoK l.toKe r
section
variable {K : PySem.W.Frag} {ι : Wd} {H : Hp}
theorem Reps.length : ∀ {ds : List D} {vs : List V}, Reps K ι H ds vs → ds.length = vs.length
  | _, _, .nil => rfl
  | _, _, .cons _ t => congrArg (· + 1) (Reps.length t)
theorem Reps.get : ∀ {ds : List D} {vs : List V} {i : Nat} {d : D}, Reps K ι H ds vs → ds[i]? = some d → ∃ v, vs[i]? = some v ∧ Rep K ι H d v
  | _, _, _, _, .nil, e => by simp at e
  | _, _, 0, _, .cons r _, e => by simp at e; subst e; exact ⟨_, rfl, r⟩
  | _, _, i + 1, _, .cons _ t, e => by
    obtain ⟨v, h1, h2⟩ := Reps.get (i := i) t (by simpa using e)
    exact ⟨v, by simpa using h1, h2⟩
theorem Reps.getV : ∀ {ds : List D} {vs : List V} {i : Nat} {v : V}, Reps K ι H ds vs → vs[i]? = some v → ∃ d, ds[i]? = some d ∧ Rep K ι H d v
  | _, _, _, _, .nil, e => by simp at e
  | _, _, 0, _, .cons r _, e => by simp at e; subst e; exact ⟨_, rfl, r⟩
  | _, _, i + 1, _, .cons _ t, e => by
    obtain ⟨v, h1, h2⟩ := Reps.getV (i := i) t (by simpa using e)
    exact ⟨v, by simpa using h1, h2⟩
theorem Reps.append : ∀ {ds es : List D} {vs ws : List V}, Reps K ι H ds vs → Reps K ι H es ws → Reps K ι H (ds ++ es) (vs ++ ws)
  | _, _, _, _, .nil, s => s
  | _, _, _, _, .cons r t, s => .cons r (Reps.append t s)
theorem Reps.take : ∀ {ds : List D} {vs : List V} (n : Nat), Reps K ι H ds vs → Reps K ι H (ds.take n) (vs.take n)
  | _, _, 0, _ => .nil
  | _, _, _ + 1, .nil => .nil
  | _, _, n + 1, .cons r t => .cons r (Reps.take n t)
theorem Reps.drop : ∀ {ds : List D} {vs : List V} (n : Nat), Reps K ι H ds vs → Reps K ι H (ds.drop n) (vs.drop n)
  | _, _, 0, r => r
  | _, _, _ + 1, .nil => .nil
  | _, _, n + 1, .cons _ t => Reps.drop n t
theorem Reps.set {d : D} {v : V} (r : Rep K ι H d v) : ∀ {ds : List D} {vs : List V} (i : Nat), Reps K ι H ds vs → Reps K ι H (ds.set i d) (vs.set i v)
  | _, _, _, .nil => .nil
  | _, _, 0, .cons _ t => .cons r t
  | _, _, i + 1, .cons q t => .cons q (Reps.set r i t)
theorem Reps.rep {d : D} {v : V} (r : Rep K ι H d v) : ∀ n : Nat, Reps K ι H (List.replicate n d) (List.replicate n v)
  | 0 => .nil
  | n + 1 => .cons r (Reps.rep r n)
theorem Reps.flat {ds : List D} {vs : List V} (r : Reps K ι H ds vs) : ∀ k : Nat, Reps K ι H (List.replicate k ds).flatten (List.replicate k vs).flatten
  | 0 => .nil
  | k + 1 => by rw [List.replicate_succ, List.replicate_succ, List.flatten_cons, List.flatten_cons]; exact r.append (Reps.flat r k)
theorem Reps.ints : ∀ {ns : List Int} {vs : List V}, Reps K ι H (ns.map D.int) vs → vs = ns.map V.int
  | [], _, h => by cases h; rfl
  | n :: ns, _, h => by
    cases h with
    | cons r t => cases r; rw [Reps.ints t]; rfl
theorem Reps.bls : ∀ {ns : List Bool} {vs : List V}, Reps K ι H (ns.map D.bl) vs → vs = ns.map V.bl
  | [], _, h => by cases h; rfl
  | n :: ns, _, h => by
    cases h with
    | cons r t => cases r; rw [Reps.bls t]; rfl
theorem Reps.strs : ∀ {ns : List Str} {vs : List V}, Reps K ι H (ns.map D.str) vs → vs = ns.map V.str
  | [], _, h => by cases h; rfl
  | n :: ns, _, h => by
    cases h with
    | cons r t => cases r; rw [Reps.strs t]; rfl
end

/-! ### dicts whose keys are data -/
mutual
/-- the key that data is -/
def keyN : D → Option NestedKey
  | .non => some .none
  | .bl b => some (.num (if b then 1 else 0))
  | .int i => some (.num i)
  | .str x => some (.text x)
  | .tup ds => (keysN ds).map NestedKey.tup
  | .lst _ => none
  | .frz _ => none
  | .ty _ => none
  | .obj _ => none
  | .raw _ => none
def keysN : List D → Option (List NestedKey)
  | [] => some []
  | d :: ds => match keyN d, keysN ds with
    | some p, some ps => some (p :: ps)
    | _, _ => none
end
/-- how deep -/
def okKey (k : NestedKey) : Bool := decide (k.depth ≤ 8)
/-- a dict by its entries, as it lies -/
def DN (P : Program) (w : World) (a : Addr) (xs : List (NestedKey × Addr × Value)) : HO := .ext fun h => ∃ (o : Obj) (es : Array DictEntry) (ep : Nat), h.get? a = some o ∧ o.ExactDict ∧ o.data = .dict es ep ∧
  es.toList = xs.map (entryOfKey (nestedKind P w)) ∧ (xs.map fun x => x.1).Nodup ∧ (a == sysModules) = false
theorem DN_ne {P : Program} {w : World} {a : Addr} {xs : List (NestedKey × Addr × Value)} (nd : (xs.map fun x => x.1).Nodup) (ns : (a == sysModules) = false) (c : Addr) (q : Str) : DN P w a xs ≠ LamX.CodeO c q := by
  intro z
  unfold DN LamX.CodeO at z
  injection z with z
  let ob : Obj := { cls := .type "dict", data := .dict (xs.map (entryOfKey (nestedKind P w))).toArray 0 }
  let h0 : Heap := { objs := Array.replicate (a + 1) ob, life := {} }
  have g : ∀ b o, h0.get? b = some o → o = ob := fun b o e => by
    unfold Heap.get? at e
    simp only [h0, Array.getElem?_replicate] at e
    by_cases hb : b < a + 1
    · rw [if_pos hb] at e
      exact (Option.some.inj e).symm
    · rw [if_neg hb] at e; cases e
  have ga : h0.get? a = some ob := by
    unfold Heap.get?
    simp only [h0, Array.getElem?_replicate]
    rw [if_pos (Nat.lt_succ_self a)]
  have := (congrFun z h0).mp ⟨ob, (xs.map (entryOfKey (nestedKind P w))).toArray, 0, ga, ⟨rfl, rfl, rfl⟩, rfl, by simp, nd, ns⟩
  obtain ⟨oc, vs, t, h1, h2, _⟩ := this
  rw [g _ _ h1] at h2
  cases h2
/-- entries, pair by pair -/
def RepN (K : PySem.W.Frag) (ι : Wd) (H : Hp) : List (D × D) → List (NestedKey × Addr × Value) → Prop := Paired fun p x => keyN p.1 = some x.1 ∧ okKey x.1 = true ∧ Rep K ι H p.1 (.ref x.2.1) ∧ ∃ v, RelV v x.2.2 ∧ Rep K ι H p.2 v
theorem RepN.monoK {K : PySem.W.Frag} {ι ι' : Wd} {H H' : Hp} (l : Ke ι H ι' H') {xs : List (D × D)} {ys : List (NestedKey × Addr × Value)} (r : RepN K ι H xs ys) : RepN K ι' H' xs ys :=
  Paired.mapP r fun _ _ q => ⟨q.1, q.2.1, Rep.monoK l q.2.2.1, let ⟨v, a, b⟩ := q.2.2.2; ⟨v, a, Rep.monoK l b⟩⟩
/-- what may change -/
def MutJ : HO → Prop
  | .lst _ => True
  | .dK _ => True
  | .ins _ _ _ => True
  | .ext φ => ∀ c q, HO.ext φ ≠ LamX.CodeO c q
  | _ => False
theorem MutJ.mut {o : HO} (h : MutJ o) : Mut (some o) := by
  cases o <;> first | trivial | exact h.elim
theorem MutJ.noTab {o : HO} (h : MutJ o) : NoTab o := fun ps z => by rw [z] at h; exact h
theorem MutJ.noCode {o : HO} (h : MutJ o) {c : Addr} {q : Str} : o ≠ LamX.CodeO c q := fun z => by
  have h2 : MutJ (LamX.CodeO c q) := z ▸ h
  exact h2 c q rfl
/-- the tables of code objects stand -/
def TabJ (T : List (Addr × Str)) (ι : Wd) (H : Hp) : Prop := ∀ p ∈ T, ∃ ps : Array Value, H p.1 = some (.tbl ps) ∧ p.1 ∉ ι.M ∧ TriplesOk ps.toList ∧ ∀ (pos : Pos) (cv : Value), codeAmong pos ps.toList = some cv → ∃ c, cv = .ref c ∧ H c = some (LamX.CodeO c p.2) ∧ c ∉ ι.M
theorem TabJ.keep {T : List (Addr × Str)} {ι ι' : Wd} {H H' : Hp} (t : TabJ T ι H) (k : ∀ a o, H a = some o → a ∉ ι.M → H' a = some o ∧ a ∉ ι'.M) : TabJ T ι' H' := fun p hp => by
  obtain ⟨ps, h1, h2, h3, h4⟩ := t p hp
  refine ⟨ps, (k _ _ h1 h2).1, (k _ _ h1 h2).2, h3, fun pos cv hc => ?_⟩
  obtain ⟨c, e, h5, h6⟩ := h4 pos cv hc
  exact ⟨c, e, (k _ _ h5 h6).1, (k _ _ h5 h6).2⟩
theorem TabJ.tabs {T : List (Addr × Str)} {ι : Wd} {H : Hp} (t : TabJ T ι H) : LamX.Tabs T H := fun p hp => by
  obtain ⟨ps, h1, h2, h3, h4⟩ := t p hp
  exact ⟨ps, h1, h3, fun pos cv hc => let ⟨c, e, h5, _⟩ := h4 pos cv hc; ⟨c, e, h5⟩⟩
/-- the dicts of the errors that are held stand -/
def ExcsJ (x : List (Addr × Str × V)) (ι : Wd) (H : Hp) : Prop := ∀ p ∈ x, ∃ fs, H p.1 = some (.xd fs) ∧ p.1 ∉ ι.M ∧ fs.lookup p.2.1 = some p.2.2
structure TabsJ (T : List (Addr × Str)) (x : List (Addr × Str × V)) (ι : Wd) (H : Hp) : Prop where
  t : TabJ T ι H
  e : ExcsJ x ι H
theorem TabsJ.keep {T : List (Addr × Str)} {x : List (Addr × Str × V)} {ι ι' : Wd} {H H' : Hp} (t : TabsJ T x ι H) (k : ∀ a o, H a = some o → a ∉ ι.M → H' a = some o ∧ a ∉ ι'.M) : TabsJ T x ι' H' :=
  ⟨t.t.keep k, fun p hp => let ⟨fs, h1, h2, h3⟩ := t.e p hp; ⟨fs, (k _ _ h1 h2).1, (k _ _ h1 h2).2, h3⟩⟩
theorem TabsJ.tabs {T : List (Addr × Str)} {x : List (Addr × Str × V)} {ι : Wd} {H : Hp} (t : TabsJ T x ι H) : LamX.Tabs T H := t.t.tabs
/-- a lambda as it lies -/
def LamD.fd (d : LamD) (pm cv ctv dV doc : Value) : FuncData := { name := "<lambda>", qualname := d.q, params := d.params, body := .expr d.body, scope := d.scope, globals := mainGlobals, closure := d.cl, defaults := dV, kwdefaults := .none, doc := doc, pyModule := pm, annotations := none, code := cv, closureTuple := ctv, builtins := builtinsNs }
def LamO (a : Addr) (fd : FuncData) : HO := .ext fun h => h.get? a = some ({ cls := .type "function", data := .func fd } : Obj)
theorem LamO_ne {a : Addr} {fd : FuncData} (c : Addr) (q : Str) : LamO a fd ≠ LamX.CodeO c q := by
  intro z
  unfold LamO LamX.CodeO at z
  injection z with z
  let ob : Obj := { cls := .type "function", data := .func fd }
  let h0 : Heap := { objs := Array.replicate (a + 1) ob, life := {} }
  have g : ∀ b o, h0.get? b = some o → o = ob := fun b o e => by
    unfold Heap.get? at e
    simp only [h0, Array.getElem?_replicate] at e
    by_cases hb : b < a + 1
    · rw [if_pos hb] at e
      exact (Option.some.inj e).symm
    · rw [if_neg hb] at e; cases e
  have ga : h0.get? a = some ob := by
    unfold Heap.get?
    simp only [h0, Array.getElem?_replicate]
    rw [if_pos (Nat.lt_succ_self a)]
  obtain ⟨oc, vs, t, h1, h2, _⟩ := (congrFun z h0).mp ga
  rw [g _ _ h1] at h2
  cases h2
theorem LamO_mut {a : Addr} {fd : FuncData} : MutJ (LamO a fd) := fun c q => LamO_ne c q
/-- a lambda stands at a -/
def LamAt (ι : Wd) (H : Hp) (a : Addr) (d : LamD) : Prop := ∃ (c' : Addr) (pm ctv dV doc : Value), H a = some (LamO a (d.fd pm (.ref c') ctv dV doc)) ∧ (H c' = some (LamX.CodeO c' d.q) ∧ c' ∉ ι.M) ∧
  ((d.dfl = [] ∧ dV = .none) ∨ ∃ T, dV = .ref T ∧ H T = some (.tup d.dfl))
theorem LamAt.monoK {ι ι' : Wd} {H H' : Hp} (l : Ke ι H ι' H') {a : Addr} {d : LamD} (e : H' a = H a) (q : LamAt ι H a d) : LamAt ι' H' a d := by
  obtain ⟨c', pm, ctv, dV, doc, h1, h2, h3⟩ := q
  refine ⟨c', pm, ctv, dV, doc, e.trans h1, l.keep _ _ h2.1 (fun ps z => by cases z) h2.2, h3.imp id fun ⟨T, a, b⟩ => ⟨T, a, l.tup _ _ b⟩⟩
/-- keyed values, pair by pair -/
def RepF {κ : Type} (K : PySem.W.Frag) (ι : Wd) (H : Hp) : List (κ × D) → List (κ × V) → Prop := Paired fun p q => p.1 = q.1 ∧ Rep K ι H p.2 q.2
def RepO (K : PySem.W.Frag) (ca : Ct) (ι : Wd) (H : Hp) (a : Addr) : IO → Prop
  | .lst ds => ∃ vs, H a = some (.lst vs) ∧ Reps K ι H ds vs
  | .dic kvs => ∃ ws, H a = some (.dK ws) ∧ RepF K ι H kvs ws
  | .ins c fs => ∃ dx ws, H a = some (.ins (ca.c c) dx ws) ∧ RepF K ι H fs ws
  | .dcd kvs => ∃ xs, H a = some (DN ca.P ca.w a xs) ∧ RepN K ι H kvs xs
  | .lam k => match ca.lam k with
    | none => ∃ o, H a = some o ∧ MutJ o
    | some d => LamAt ι H a d
theorem RepF.monoK {κ : Type} {K : PySem.W.Frag} {ι ι' : Wd} {H H' : Hp} (l : Ke ι H ι' H') {xs : List (κ × D)} {ys : List (κ × V)} (r : RepF K ι H xs ys) : RepF K ι' H' xs ys :=
  Paired.mapP r fun _ _ q => ⟨q.1, Rep.monoK l q.2⟩
theorem RepF.mono {κ : Type} {K : PySem.W.Frag} {ι ι' : Wd} {H H' : Hp} (l : Le ι H ι' H') {xs : List (κ × D)} {ys : List (κ × V)} (r : RepF K ι H xs ys) : RepF K ι' H' xs ys := RepF.monoK l.toKe r
structure Sim (K : PySem.W.Frag) (ca : Ct) (ι : Wd) (s : S) (H : Hp) : Prop where
  len : ι.ι.length = s.length
  nd : ι.ι.Nodup
  sub : ∀ a ∈ ι.ι, a ∈ ι.M
  tr : ∀ a ∈ ι.M, ∃ o, H a = some o ∧ MutJ o
  tab : TabsJ ca.T ca.x ι H
  ob : ∀ (n : Nat) (a : Addr) (o : IO), ι.ι[n]? = some a → s[n]? = some o → RepO K ca ι H a o
/-- the names' values -/
structure RelS (K : PySem.W.Frag) (ι : Wd) (H : Hp) (ρ : Env) (σ : L2.St) : Prop where
  len : ρ.length = σ.length
  at_ : ∀ (i : Nat) (d : D), ρ[i]? = some (some d) → ∃ v, σ[i]? = some (some v) ∧ Rep K ι H d v
def RepX (K : PySem.W.Frag) (ca : Ct) (ι : Wd) (H : Hp) (e : Ex) (cv : Value) (d : Option Addr) : Prop :=
  cv = .ref (ca.c e.cls) ∧ (e.arg = none → d = none) ∧ ∀ f x, e.arg = some (f, x) → ∃ dd fs v, d = some dd ∧ H dd = some (.xd fs) ∧ fs.lookup f = some v ∧ Rep K ι H x v
section
variable {K : PySem.W.Frag} {ca : Ct} {ι ι' : Wd} {H H' : Hp} {ρ : Env} {σ : L2.St} {s : S}
theorem RelS.mono (r : RelS K ι H ρ σ) (l : Le ι H ι' H') : RelS K ι' H' ρ σ := ⟨r.len, fun i d h => let ⟨v, a, b⟩ := r.at_ i d h; ⟨v, a, b.mono l⟩⟩
theorem RelS.set (r : RelS K ι H ρ σ) {d : D} {v : V} (q : Rep K ι H d v) (i : Nat) : RelS K ι H (ρ.set i (some d)) (σ.set i (some v)) := by
  refine ⟨by simp [r.len], fun j e h => ?_⟩
  by_cases hj : i = j
  · subst hj
    have hl : i < ρ.length := by
      have := (List.getElem?_eq_some_iff.mp h).1
      simpa using this
    rw [List.getElem?_set_self hl] at h
    cases h
    exact ⟨v, List.getElem?_set_self (by rw [← r.len]; exact hl), q⟩
  · rw [List.getElem?_set_ne hj] at h
    rw [List.getElem?_set_ne hj]
    exact r.at_ j e h
theorem RelS.wipe (r : RelS K ι H ρ σ) : ∀ vs : List Nat, RelS K ι H (vs.foldr (fun v l => l.set v none) ρ) (L2.wipe σ vs)
  | [] => r
  | v :: vs => by
    have q := RelS.wipe r vs
    refine ⟨by simp [L2.wipe, q.len], fun j e h => ?_⟩
    simp only [List.foldr_cons] at h
    unfold L2.wipe
    by_cases hj : v = j
    · subst hj
      rw [List.getElem?_set] at h
      simp at h
    · rw [List.getElem?_set_ne hj] at h
      rw [List.getElem?_set_ne hj]
      exact q.at_ j e h
theorem RepO.monoK (l : Ke ι H ι' H') {a : Addr} {u : IO} (e : H' a = H a) (q : RepO K ca ι H a u) : RepO K ca ι' H' a u := by
  cases u with
  | lst ds => obtain ⟨vs, h, r⟩ := q; exact ⟨vs, by rw [e]; exact h, Reps.monoK l r⟩
  | dic kvs => obtain ⟨vs, h, r⟩ := q; exact ⟨vs, by rw [e]; exact h, RepF.monoK l r⟩
  | ins c fs => obtain ⟨dx, ws, h, r⟩ := q; exact ⟨dx, ws, by rw [e]; exact h, RepF.monoK l r⟩
  | dcd kvs => obtain ⟨xs, h, r⟩ := q; exact ⟨xs, by rw [e]; exact h, RepN.monoK l r⟩
  | lam k =>
    simp only [RepO] at q ⊢
    cases h : ca.lam k with
    | none => rw [h] at q; obtain ⟨o, h1, h2⟩ := q; exact ⟨o, e.trans h1, h2⟩
    | some d => rw [h] at q; exact LamAt.monoK l e q
theorem RepO.mono (l : Le ι H ι' H') {a : Addr} {u : IO} (q : RepO K ca ι H a u) (e : H' a = H a) : RepO K ca ι' H' a u := RepO.monoK l.toKe e q
theorem Sim.tracked (m : Sim K ca ι s H) {a : Addr} (h : a ∈ ι.ι) : ∃ o, H a = some o ∧ MutJ o := m.tr a (m.sub a h)
theorem Sim.ne (m : Sim K ca ι s H) {p : Addr} (h : H p = none) : p ∉ ι.M := fun hp => by
  obtain ⟨o, q, _⟩ := m.tr p hp
  rw [h] at q; cases q
/-- a new object -/
theorem Le.new {p : Addr} {o : HO} (h : H p = none) : Le ι H ι (upd H p o) :=
  ⟨⟨List.prefix_rfl, fun a u q _ n => ⟨by rw [upd_ne (ne_of_none q h)]; exact q, n⟩, fun a xs q => by rw [upd_ne (ne_of_none q h)]; exact q, fun a xs u q => by rw [upd_ne (ne_of_none q h)]; exact q⟩,
    fun a u q _ n => ⟨by rw [upd_ne (ne_of_none q h)]; exact q, n⟩, fun _ h => h⟩
/-- a heap that changed nowhere but at what may change, apart from the objects by number -/
theorem Sim.grow (m : Sim K ca ι s H) (l : Le ι H ι H') (k : ∀ a ∈ ι.M, H' a = H a) (kt : ∀ a o, H a = some o → a ∉ ι.M → H' a = some o) : Sim K ca ι s H' :=
  ⟨m.len, m.nd, m.sub, fun a h => by rw [k a h]; exact m.tr a h, m.tab.keep fun a o h n => ⟨kt a o h n, n⟩, fun n a u hn hs => (m.ob n a u hn hs).mono l (k a (m.sub a (List.mem_of_getElem? hn)))⟩
/-- a new object that is never changed -/
theorem Sim.new (m : Sim K ca ι s H) {p : Addr} {o : HO} (h : H p = none) : Le ι H ι (upd H p o) ∧ Sim K ca ι s (upd H p o) :=
  ⟨Le.new h, m.grow (Le.new h) (fun a ha => upd_ne fun z => m.ne h (z ▸ ha)) fun a u q _ => by rw [upd_ne (ne_of_none q h)]; exact q⟩
/-- a new mutable object -/
theorem Sim.alloc (m : Sim K ca ι s H) {p : Addr} {o : HO} {u : IO} (h : H p = none) (mu : MutJ o) (hr : Le ι H ⟨ι.ι ++ [p], p :: ι.M⟩ (upd H p o) → RepO K ca ⟨ι.ι ++ [p], p :: ι.M⟩ (upd H p o) p u) :
    Le ι H ⟨ι.ι ++ [p], p :: ι.M⟩ (upd H p o) ∧ Sim K ca ⟨ι.ι ++ [p], p :: ι.M⟩ (s ++ [u]) (upd H p o) := by
  have l : Le ι H ⟨ι.ι ++ [p], p :: ι.M⟩ (upd H p o) := ⟨⟨List.prefix_append _ _, fun a x q _ n => ⟨by rw [upd_ne (ne_of_none q h)]; exact q, fun z => by
      rcases List.mem_cons.mp z with z | z
      · exact ne_of_none q h z
      · exact n z⟩, fun a xs q => by rw [upd_ne (ne_of_none q h)]; exact q, fun a xs u q => by rw [upd_ne (ne_of_none q h)]; exact q⟩,
    fun a x q _ n => ⟨by rw [upd_ne (ne_of_none q h)]; exact q, fun z => by
      rcases List.mem_append.mp z with z | z
      · exact n z
      · exact ne_of_none q h (by simpa using z)⟩, fun a ha => List.mem_cons_of_mem _ ha⟩
  refine ⟨l, by simp [m.len], ?_, fun a ha => ?_, fun a ha => ?_, m.tab.keep fun a x q n => ⟨by rw [upd_ne (ne_of_none q h)]; exact q, fun z => by
      rcases List.mem_cons.mp z with z | z
      · exact ne_of_none q h z
      · exact n z⟩, fun n a x hn hs => ?_⟩
  · refine List.nodup_append.mpr ⟨m.nd, by simp, fun a ha b hb => ?_⟩
    have : b = p := by simpa using hb
    subst this
    exact fun z => m.ne h (z ▸ m.sub a ha)
  · rcases List.mem_append.mp ha with z | z
    · exact List.mem_cons_of_mem _ (m.sub a z)
    · rw [show a = p by simpa using z]; exact List.mem_cons_self
  · rcases List.mem_cons.mp ha with z | z
    · subst z; exact ⟨o, upd_same, mu⟩
    · rw [upd_ne (show a ≠ p from fun e => m.ne h (by rw [← e]; exact z))]; exact m.tr a z
  · by_cases hlt : n < ι.ι.length
    · have hn' : ι.ι[n]? = some a := by rw [← hn]; exact (List.getElem?_append_left hlt).symm
      rw [List.getElem?_append_left (by rw [← m.len]; exact hlt)] at hs
      exact (m.ob n a x hn' hs).mono l (upd_ne fun z => m.ne h (z ▸ m.sub a (List.mem_of_getElem? hn')))
    · have hn2 : n = ι.ι.length := by
        have := (List.getElem?_eq_some_iff.mp hn).1
        simp at this; omega
      subst hn2
      have hn' : some p = some a := by rw [← hn]; simp
      rw [List.getElem?_append_right (by rw [m.len]; exact Nat.le_refl _)] at hs
      simp [m.len] at hs
      cases hn'
      subst hs
      exact hr l
/-- what may change is changed -/
theorem Ke.write (m : Sim K ca ι s H) {a : Addr} {o : HO} (ha : a ∈ ι.M) : Ke ι H ι (upd H a o) := by
  obtain ⟨x, hx, mu⟩ := m.tr a ha
  exact ⟨List.prefix_rfl, fun b y q _ nb => ⟨by rw [upd_ne (fun z : b = a => nb (by rw [z]; exact ha))]; exact q, nb⟩, fun b xs q => by
      rw [upd_ne (fun z : b = a => by rw [z, hx] at q; cases q; exact mu)]; exact q, fun b ob y q => by
      rw [upd_ne (fun z : b = a => by rw [z, hx] at q; cases q; exact mu)]; exact q⟩
theorem Le.write (m : Sim K ca ι s H) {a : Addr} {o : HO} (ha : a ∈ ι.ι) : Le ι H ι (upd H a o) :=
  ⟨Ke.write m (m.sub a ha), fun b y q _ nb => ⟨by rw [upd_ne (fun z : b = a => nb (by rw [z]; exact ha))]; exact q, nb⟩, fun _ h => h⟩
theorem Sim.idx (m : Sim K ca ι s H) {n j : Nat} {a : Addr} (hn : ι.ι[n]? = some a) (hj : ι.ι[j]? = some a) : n = j := by
  obtain ⟨h1, e1⟩ := List.getElem?_eq_some_iff.mp hn
  obtain ⟨h2, e2⟩ := List.getElem?_eq_some_iff.mp hj
  exact (List.getElem_inj m.nd).mp (e1.trans e2.symm)
/-- a mutable object is changed -/
theorem Sim.write (m : Sim K ca ι s H) {n : Nat} {a : Addr} {o : HO} {u : IO} (hn : ι.ι[n]? = some a) (mu : MutJ o) (hr : Le ι H ι (upd H a o) → RepO K ca ι (upd H a o) a u) :
    Le ι H ι (upd H a o) ∧ Sim K ca ι (s.set n u) (upd H a o) := by
  have l : Le ι H ι (upd H a o) := Le.write m (List.mem_of_getElem? hn)
  refine ⟨l, by simp [m.len], m.nd, m.sub, fun b hb => ?_, m.tab.keep fun b y q nb => ⟨by rw [upd_ne (fun z : b = a => nb (by rw [z]; exact m.sub a (List.mem_of_getElem? hn)))]; exact q, nb⟩, fun j b y hj hs => ?_⟩
  · by_cases e : b = a
    · subst e; exact ⟨o, upd_same, mu⟩
    · rw [upd_ne e]; exact m.tr b hb
  · by_cases e : n = j
    · subst e
      rw [hn] at hj; cases hj
      have hl : n < s.length := by rw [← m.len]; exact (List.getElem?_eq_some_iff.mp hn).1
      rw [List.getElem?_set_self hl] at hs
      cases hs
      exact hr l
    · rw [List.getElem?_set_ne e] at hs
      exact (m.ob j b y hj hs).mono l (upd_ne fun z => e (m.idx hn (z ▸ hj)))
/-- a list that is being filled (not by number) is changed -/
theorem Sim.fill (m : Sim K ca ι s H) {a : Addr} {o : HO} (ha : a ∈ ι.M) (hn : a ∉ ι.ι) (mu : MutJ o) : Ke ι H ι (upd H a o) ∧ Sim K ca ι s (upd H a o) := by
  have l : Ke ι H ι (upd H a o) := Ke.write m ha
  refine ⟨l, m.len, m.nd, m.sub, fun b hb => ?_, m.tab.keep fun b y q nb => ⟨by rw [upd_ne (fun z : b = a => nb (by rw [z]; exact ha))]; exact q, nb⟩, fun j b y hj hs => ?_⟩
  · by_cases e : b = a
    · subst e; exact ⟨o, upd_same, mu⟩
    · rw [upd_ne e]; exact m.tr b hb
  · exact (m.ob j b y hj hs).monoK l (upd_ne fun z => hn (z ▸ List.mem_of_getElem? hj))
/-- a list to be filled comes -/
theorem Sim.open (m : Sim K ca ι s H) {p : Addr} {o : HO} (h : H p = none) (mu : MutJ o) : Le ι H ⟨ι.ι, p :: ι.M⟩ (upd H p o) ∧ Sim K ca ⟨ι.ι, p :: ι.M⟩ s (upd H p o) := by
  have l : Le ι H ⟨ι.ι, p :: ι.M⟩ (upd H p o) := ⟨⟨List.prefix_rfl, fun a x q _ n => ⟨by rw [upd_ne (ne_of_none q h)]; exact q, fun z => by
      rcases List.mem_cons.mp z with z | z
      · exact ne_of_none q h z
      · exact n z⟩, fun a xs q => by rw [upd_ne (ne_of_none q h)]; exact q, fun a xs u q => by rw [upd_ne (ne_of_none q h)]; exact q⟩,
    fun a x q _ n => ⟨by rw [upd_ne (ne_of_none q h)]; exact q, n⟩, fun a ha => List.mem_cons_of_mem _ ha⟩
  refine ⟨l, m.len, m.nd, fun a ha => List.mem_cons_of_mem _ (m.sub a ha), fun a ha => ?_, m.tab.keep fun a x q n => ⟨by rw [upd_ne (ne_of_none q h)]; exact q, fun z => by
      rcases List.mem_cons.mp z with z | z
      · exact ne_of_none q h z
      · exact n z⟩, fun n a x hn hs => ?_⟩
  · rcases List.mem_cons.mp ha with z | z
    · subst z; exact ⟨o, upd_same, mu⟩
    · rw [upd_ne (show a ≠ p from fun e => m.ne h (by rw [← e]; exact z))]; exact m.tr a z
  · exact (m.ob n a x hn hs).mono l (upd_ne fun z => m.ne h (z ▸ m.sub a (List.mem_of_getElem? hn)))
/-- it is filled: from now on it never changes -/
theorem Sim.shut (m : Sim K ca ι s H) {p : Addr} (hn : p ∉ ι.ι) : Ke ι H ⟨ι.ι, ι.M.filter (· ≠ p)⟩ H ∧ Sim K ca ⟨ι.ι, ι.M.filter (· ≠ p)⟩ s H := by
  have l : Ke ι H ⟨ι.ι, ι.M.filter (· ≠ p)⟩ H := ⟨List.prefix_rfl, fun a o h _ n => ⟨h, fun z => n (List.mem_filter.mp z).1⟩, fun _ _ h => h, fun _ _ _ h => h⟩
  refine ⟨l, m.len, m.nd, fun a ha => List.mem_filter.mpr ⟨m.sub a ha, ?_⟩, fun a ha => m.tr a (List.mem_filter.mp ha).1, m.tab.keep fun a o h n => ⟨h, fun z => n (List.mem_filter.mp z).1⟩, fun n a x hn hs => (m.ob n a x hn hs).monoK l rfl⟩
  simp only [ne_eq, decide_not, Bool.not_eq_true', decide_eq_false_iff_not]
  exact fun z => hn (z ▸ ha)
end

/-! ### readings of mirrors -/
def PostE (K : PySem.W.Frag) (ca : Ct) (ι : Wd) (H : Hp) (r : R D) (Q : VK) (E : XK) : Prop := match r with
  | .ok d s' => ∀ ι' v H', Le ι H ι' H' → Sim K ca ι' s' H' → Rep K ι' H' d v → Q v H'
  | .err e s' => ∀ ι' cv dd H', Le ι H ι' H' → Sim K ca ι' s' H' → RepX K ca ι' H' e cv dd → E cv dd H'
  | .no => False
def tG (K : PySem.W.Frag) (ca : Ct) (W : WX) (g : GE) : TE := fun σ H Q => ∃ ι ρ s, RelS K ι H ρ σ ∧ Sim K ca ι s H ∧ PostE K ca ι H (g ρ s) Q (fun cv dd H' => W cv dd σ H')
def PostT (K : PySem.W.Frag) (ca : Ct) (ι : Wd) (H : Hp) (r : R Bool) (Q : Bool → Hp → Prop) (E : XK) : Prop := match r with
  | .ok b s' => ∀ ι' H', Le ι H ι' H' → Sim K ca ι' s' H' → Q b H'
  | .err e s' => ∀ ι' cv dd H', Le ι H ι' H' → Sim K ca ι' s' H' → RepX K ca ι' H' e cv dd → E cv dd H'
  | .no => False
def tT (K : PySem.W.Frag) (ca : Ct) (W : WX) (g : GT) : TT := fun σ H Q => ∃ ι ρ s, RelS K ι H ρ σ ∧ Sim K ca ι s H ∧ PostT K ca ι H (g ρ s) Q (fun cv dd H' => W cv dd σ H')
def PostA (K : PySem.W.Frag) (ca : Ct) (ι : Wd) (H : Hp) (r : R (List D)) (Q : List V → Hp → Prop) (E : XK) : Prop := match r with
  | .ok ds s' => ∀ ι' vs H', Le ι H ι' H' → Sim K ca ι' s' H' → Reps K ι' H' ds vs → Q vs H'
  | .err e s' => ∀ ι' cv dd H', Le ι H ι' H' → Sim K ca ι' s' H' → RepX K ca ι' H' e cv dd → E cv dd H'
  | .no => False
def tA (K : PySem.W.Frag) (ca : Ct) (W : WX) (g : GA) : TA := fun σ H Q => ∃ ι ρ s, RelS K ι H ρ σ ∧ Sim K ca ι s H ∧ PostA K ca ι H (g ρ s) Q (fun cv dd H' => W cv dd σ H')
def PostS (K : PySem.W.Frag) (ca : Ct) (ι : Wd) (H : Hp) (W : WX) (r : R Fl) (D : Ends) : Prop := match r with
  | .ok (.nx ρ') s' => ∀ ι' σ' H', Le ι H ι' H' → Sim K ca ι' s' H' → RelS K ι' H' ρ' σ' → D.nx σ' H'
  | .ok (.bk ρ') s' => ∀ ι' σ' H', Le ι H ι' H' → Sim K ca ι' s' H' → RelS K ι' H' ρ' σ' → D.bk σ' H'
  | .ok (.ct ρ') s' => ∀ ι' σ' H', Le ι H ι' H' → Sim K ca ι' s' H' → RelS K ι' H' ρ' σ' → D.ct σ' H'
  | .ok (.rt d) s' => ∀ ι' v H', Le ι H ι' H' → Sim K ca ι' s' H' → Rep K ι' H' d v → D.rt v H'
  | .err e s' => ∀ ι' cv dd H' σ', Le ι H ι' H' → Sim K ca ι' s' H' → RepX K ca ι' H' e cv dd → W cv dd σ' H'
  | .no => False
def tS (K : PySem.W.Frag) (ca : Ct) (W : WX) (g : GS) : TS := fun D σ H => ∃ ι ρ s, RelS K ι H ρ σ ∧ Sim K ca ι s H ∧ PostS K ca ι H W (g ρ s) D

section
variable {K : PySem.W.Frag} {ca : Ct} {ι ι' : Wd} {H H' : Hp} {r : R D} {Q Q' : VK} {E E' : XK}
theorem PostE.mono (p : PostE K ca ι H r Q E) (l : Le ι H ι' H') : PostE K ca ι' H' r Q E := by
  cases r with
  | ok d s => exact fun ι2 v H2 l2 m q => p ι2 v H2 (l.trans l2) m q
  | err e s => exact fun ι2 cv dd H2 l2 m q => p ι2 cv dd H2 (l.trans l2) m q
  | no => exact p
theorem PostT.mono {r : R Bool} {Q : Bool → Hp → Prop} (p : PostT K ca ι H r Q E) (l : Le ι H ι' H') : PostT K ca ι' H' r Q E := by
  cases r with
  | ok d s => exact fun ι2 H2 l2 m => p ι2 H2 (l.trans l2) m
  | err e s => exact fun ι2 cv dd H2 l2 m q => p ι2 cv dd H2 (l.trans l2) m q
  | no => exact p
theorem PostA.mono {r : R (List D)} {Q : List V → Hp → Prop} (p : PostA K ca ι H r Q E) (l : Le ι H ι' H') : PostA K ca ι' H' r Q E := by
  cases r with
  | ok d s => exact fun ι2 v H2 l2 m q => p ι2 v H2 (l.trans l2) m q
  | err e s => exact fun ι2 cv dd H2 l2 m q => p ι2 cv dd H2 (l.trans l2) m q
  | no => exact p
theorem PostS.mono {W : WX} {r : R Fl} {D : Ends} (p : PostS K ca ι H W r D) (l : Le ι H ι' H') : PostS K ca ι' H' W r D := by
  cases r with
  | ok f s => cases f with
    | nx ρ => exact fun ι2 v H2 l2 m q => p ι2 v H2 (l.trans l2) m q
    | bk ρ => exact fun ι2 v H2 l2 m q => p ι2 v H2 (l.trans l2) m q
    | ct ρ => exact fun ι2 v H2 l2 m q => p ι2 v H2 (l.trans l2) m q
    | rt d => exact fun ι2 v H2 l2 m q => p ι2 v H2 (l.trans l2) m q
  | err e s => exact fun ι2 cv dd H2 σ' l2 m q => p ι2 cv dd H2 σ' (l.trans l2) m q
  | no => exact p
end
end J


set_option Elab.async false
set_option linter.all false
set_option maxRecDepth 100000
set_option maxHeartbeats 4000000
/-! J1: operations on data; the judgements; names, constants, operators, comparisons, tests, displays. -/
namespace J
open PySem PySem.Spec L2

/-! ### operations on data -/
mutual
def D.toPy : D → Option PyData
  | .non => some .none
  | .bl b => some (.bool b)
  | .int i => some (.int i)
  | .str x => some (.str x)
  | .tup ds => (D.toPys ds).map PyData.tuple
  | .lst ds => (D.toPys ds).map PyData.list
  | .frz ds => (D.toPys ds).map PyData.list
  | .ty _ => none
  | .obj _ => none
  | .raw _ => none
def D.toPys : List D → Option (List PyData)
  | [] => some []
  | d :: ds => match D.toPy d, D.toPys ds with
    | some p, some ps => some (p :: ps)
    | _, _ => none
end
/-- the items of a list (of a mutable one: as they stand) -/
def itemsL (s : S) : D → Option (List D)
  | .lst ds => some ds
  | .frz ds => some ds
  | .obj n => match s[n]? with | some (.lst ds) => some ds | _ => none
  | _ => none
def itemsT : D → Option (List D)
  | .tup ds => some ds
  | _ => none
/-- a mutable list as a value for reading -/
def deref (s : S) : D → D
  | .obj n => match s[n]? with | some (.lst ds) => .lst ds | _ => .obj n
  | d => d
def eqD (s : S) (x y : D) : Option Bool := match (deref s x).toPy, (deref s y).toPy with
  | some a, some b => if SeqAt.shaped a && SeqAt.shaped b then some (PyData.eqv a b) else none
  | _, _ => none
def fEq (s : S) (x y : D) : Option D := (eqD s x y).map .bl
def fNe (s : S) (x y : D) : Option D := (eqD s x y).map fun b => .bl !b
def fitL (n : Nat) : Bool := n ≤ 16777216
def fAdd (_ : S) : D → D → Option D
  | .int i, .int j => some (.int (i + j))
  | .str x, .str y => if fitL (x.length + y.length) then some (.str (x ++ y)) else none
  | .tup x, .tup y => if fitL (x.length + y.length) then some (.tup (x ++ y)) else none
  | .lst x, .lst y => if fitL (x.length + y.length) then some (.lst (x ++ y)) else none
  | _, _ => none
def fSub (_ : S) : D → D → Option D
  | .int i, .int j => some (.int (i - j))
  | _, _ => none
def small64 (i : Int) : Bool := decide (-(2 ^ 64) < i) && decide (i < 2 ^ 64)
def fMul (_ : S) : D → D → Option D
  | .int i, .int j => if small64 i || small64 j then some (.int (i * j)) else none
  | .lst x, .int j => if decide (-(2 ^ 63) ≤ j) && decide (j < 2 ^ 63) && fitL (x.length * j.toNat) then some (.lst (List.replicate j.toNat x).flatten) else none
  | .tup x, .int j => if !x.isEmpty && decide (2 ≤ j) && decide (j ≤ 1000) && decide (x.length ≤ 1000) then some (.tup (List.replicate j.toNat x).flatten) else none
  | _, _ => none
def fDiv (_ : S) : D → D → Option D
  | .int i, .int j => if decide (0 < j) && decide (j < 1073741824) then some (.int (i / j)) else none
  | _, _ => none
def fMod (_ : S) : D → D → Option D
  | .int i, .int j => if decide (0 < j) then some (.int (i % j)) else none
  | _, _ => none
def fPow (_ : S) : D → D → Option D
  | .int i, .int j => if decide (0 ≤ j) && decide (j ≤ 1000000) && decide (i.natAbs < 2 ^ 64) then some (.int (i ^ j.toNat)) else none
  | _, _ => none
def fLt (_ : S) : D → D → Option D
  | .int i, .int j => some (.bl (decide (i < j)))
  | .str i, .str j => some (.bl (decide (i.cps.toList < j.cps.toList)))
  | _, _ => none
def fLe (_ : S) : D → D → Option D
  | .int i, .int j => some (.bl (decide (i ≤ j)))
  | _, _ => none
def fGt (_ : S) : D → D → Option D
  | .int i, .int j => some (.bl (decide (j < i)))
  | _, _ => none
def fGe (_ : S) : D → D → Option D
  | .int i, .int j => some (.bl (decide (j ≤ i)))
  | _, _ => none
/-- x is y, y None, True or False -/
def isD : D → D → Option Bool
  | .non, .non => some true
  | .bl a, .bl b => some (decide (a = b))
  | _, .non => some false
  | _, _ => none
def fIs (_ : S) (x y : D) : Option D := (isD x y).map .bl
def fIsN (_ : S) (x y : D) : Option D := (isD x y).map fun b => .bl !b
/-- x in y -/
def inD (s : S) (x y : D) : Option Bool := match y with
  | .str j => match x with | .str i => some (!(Builtin.Str.occurrences j i 0 j.length 1).isEmpty) | _ => none
  | .tup ds => match D.toPy x, D.toPys ds with
    | some p, some ps => if SeqAt.shaped p && SeqAt.shaped (.tuple ps) then some (ps.any fun z => PyData.eqv z p) else none
    | _, _ => none
  | y => match itemsL s y with
    | some ds => match D.toPy x, D.toPys ds with
      | some p, some ps => if SeqAt.shaped p && SeqAt.shaped (.list ps) then some (ps.any fun z => PyData.eqv z p) else none
      | _, _ => none
    | none => none
def fIn (s : S) (x y : D) : Option D := (inD s x y).map .bl
def fNotIn (s : S) (x y : D) : Option D := (inD s x y).map fun b => .bl !b
/-- x[i] -/
def fIdx (s : S) (x i : D) : Option D := match i with
  | .int i => match x with
    | .str z => if fitL z.length then (atI z.cps.toList i).map fun c => .str ⟨#[c]⟩ else none
    | .tup ds => atI ds i
    | x => (itemsL s x).bind fun ds => atI ds i
  | _ => none
def fLen (s : S) (x : D) : Option D := match x with
  | .str z => if fitL z.length then some (.int z.length) else none
  | .tup ds => some (.int ds.length)
  | x => (itemsL s x).map fun ds => .int ds.length

/-! ### data in the heap -/
section
variable {K : PySem.W.Frag} {ca : Ct} {ι ι' : Wd} {H H' : Hp} {s : S}
theorem Sim.items (m : Sim K ca ι s H) {d : D} {v : V} {ds : List D} (r : Rep K ι H d v) (h : itemsL s d = some ds) : ∃ a vs, v = .ref a ∧ SqL K H a vs ∧ Reps K ι H ds vs := by
  cases r with
  | lst h1 h2 h3 => cases h; exact ⟨_, _, rfl, SqL.of h1, h3⟩
  | frz h1 h3 => cases h; exact ⟨_, _, rfl, h1.sq, h3⟩
  | frz2 h1 h2 h3 => cases h; exact ⟨_, _, rfl, SqL.of h1, h3⟩
  | @obj a n h1 =>
    simp only [itemsL] at h
    split at h
    · rename_i e
      cases h
      obtain ⟨vs, h2, h3⟩ := m.ob n a _ h1 e
      exact ⟨_, _, rfl, SqL.of h2, h3⟩
    · cases h
  | _ => cases h
theorem Rep.tupOf {ds : List D} {v : V} (r : Rep K ι H (.tup ds) v) : ∃ a vs, v = .ref a ∧ TupAt K H a vs ∧ Reps K ι H ds vs := by
  cases r with
  | tup h r => exact ⟨_, _, rfl, h, r⟩
mutual
theorem Rep.dp : ∀ {d : D} {v : V} {p : PyData}, Rep K ι H d v → d.toPy = some p → Dp K H v p
  | _, _, _, .non, h => by cases h; exact .non
  | _, _, _, .bl b, h => by cases h; exact .bl b
  | _, _, _, .int i, h => by cases h; exact .int i
  | _, _, _, .str x, h => by cases h; exact .str x
  | _, _, _, .ty _, h => by simp [D.toPy] at h
  | _, _, _, .obj _, h => by simp [D.toPy] at h
  | _, _, _, .raw _, h => by simp [D.toPy] at h
  | _, _, _, .tup h1 r, h => by
    simp only [D.toPy, Option.map_eq_some_iff] at h
    obtain ⟨ps, e, rfl⟩ := h
    exact .tup h1.sq (Reps.dp r e)
  | _, _, _, .lst h1 _ r, h => by
    simp only [D.toPy, Option.map_eq_some_iff] at h
    obtain ⟨ps, e, rfl⟩ := h
    exact .lst (SqL.of h1) (Reps.dp r e)
  | _, _, _, .frz h1 r, h => by
    simp only [D.toPy, Option.map_eq_some_iff] at h
    obtain ⟨ps, e, rfl⟩ := h
    exact .lst h1.sq (Reps.dp r e)
  | _, _, _, .frz2 h1 _ r, h => by
    simp only [D.toPy, Option.map_eq_some_iff] at h
    obtain ⟨ps, e, rfl⟩ := h
    exact .lst (SqL.of h1) (Reps.dp r e)
theorem Reps.dp : ∀ {ds : List D} {vs : List V} {ps : List PyData}, Reps K ι H ds vs → D.toPys ds = some ps → DpAll K H vs ps
  | _, _, _, .nil, h => by cases h; exact .nil
  | _, _, _, .cons r t, h => by
    simp only [D.toPys] at h
    split at h
    · rename_i e1 e2
      cases h
      exact .cons (Rep.dp r e1) (Reps.dp t e2)
    · cases h
end
theorem Sim.dp (m : Sim K ca ι s H) {d : D} {v : V} {p : PyData} (r : Rep K ι H d v) (h : (deref s d).toPy = some p) : Dp K H v p := by
  cases r with
  | @obj a n h1 =>
    simp only [deref] at h
    split at h
    · rename_i ds e
      obtain ⟨vs, h2, h3⟩ := m.ob n a _ h1 e
      simp only [D.toPy, Option.map_eq_some_iff] at h
      obtain ⟨ps, e, rfl⟩ := h
      exact .lst (SqL.of h2) (Reps.dp h3 e)
    · simp [D.toPy] at h
  | non => exact Rep.dp (ι := ι) .non h
  | bl b => exact Rep.dp (ι := ι) (.bl b) h
  | int i => exact Rep.dp (ι := ι) (.int i) h
  | str x => exact Rep.dp (ι := ι) (.str x) h
  | ty n => simp [deref, D.toPy] at h
  | raw n => simp [deref, D.toPy] at h
  | tup a b => exact Rep.dp (.tup a b) h
  | lst a b c => exact Rep.dp (.lst a b c) h
  | frz a b => exact Rep.dp (.frz a b) h
  | frz2 a b c => exact Rep.dp (.frz2 a b c) h
end
theorem fitL_le {n : Nat} (h : fitL n = true) : n ≤ sizeLine := by
  rw [sizeLine_eq]
  simpa [fitL] using h

/-! ### two values to one -/
def OpJ (K : PySem.W.Frag) (ca : Ct) (r : R2) (f : S → D → D → Option D) : Prop :=
  ∀ (ι : Wd) (s : S) (H : Hp) (d e : D) (v u : V) (x : D) (Q : VK), Sim K ca ι s H → Rep K ι H d v → Rep K ι H e u → f s d e = some x →
    (∀ ι' v' H', Le ι H ι' H' → Sim K ca ι' s H' → Rep K ι' H' x v' → Q v' H') → r v u H Q
section
variable {X : Cx} {ca : Ct}
theorem OpR.imp {f : Value → Value → Sem Value} {r r' : R2} (h : OpR X f r) (i : ∀ x y H Q, r' x y H Q → r x y H Q) : OpR X f r' := fun pins s σ H x y v u Q I rx ry q => h pins s σ H x y v u Q I rx ry (i _ _ _ _ q)

/-- the reading: some mirror value, and what follows of it -/
def rJ (K : PySem.W.Frag) (ca : Ct) (f : S → D → D → Option D) : R2 := fun v u H Q => ∃ ι s d e x, Sim K ca ι s H ∧ Rep K ι H d v ∧ Rep K ι H e u ∧ f s d e = some x ∧
  ∀ ι' v' H', Le ι H ι' H' → Sim K ca ι' s H' → Rep K ι' H' x v' → Q v' H'
theorem oj_add : OpR X (binaryOp .Add) (rJ X.K ca fAdd) := by
  refine OpR.imp (((op_add.or op_add_str).or op_catA).or op_cat) fun v u H Q ⟨ι, s, d, e, x, m, rd, re, hf, q⟩ => ?_
  cases rd <;> cases re <;> simp only [fAdd] at hf <;> first | cases hf | skip
  · exact .inl (.inl (.inl ⟨_, _, rfl, rfl, q _ _ _ .refl m (.int _)⟩))
  · split at hf
    · rename_i hl
      cases hf
      exact .inl (.inl (.inr ⟨_, _, rfl, rfl, fitL_le hl, q _ _ _ .refl m (.str _)⟩))
    · cases hf
  · rename_i a vs ds h1 h2 b ws es h3 h4 _
    split at hf
    · rename_i hl
      cases hf
      refine .inl (.inr ⟨_, _, _, _, rfl, rfl, h1.sq, h3.sq, by rw [← h2.length, ← h4.length]; exact fitL_le hl, fun e => ?_, fun _ e => ?_, fun _ _ p hp => ?_⟩)
      · subst e
        cases h2
        exact q _ _ _ .refl m (.tup h3 h4)
      · subst e
        cases h4
        rw [List.append_nil] at q
        exact q _ _ _ .refl m (.tup h1 h2)
      · obtain ⟨l, m'⟩ := m.new (o := .tup (vs ++ ws)) hp
        exact q _ _ _ l m' (.tup (.inl upd_same) ((h2.append h4).mono l))
    · cases hf
  · rename_i a vs ds h1 n1 h2 b ws es h3 n3 h4 _
    split at hf
    · rename_i hl
      cases hf
      refine .inr ⟨_, _, _, _, rfl, rfl, h1, h3, by rw [← h2.length, ← h4.length]; exact fitL_le hl, fun p hp => ?_⟩
      obtain ⟨l, m'⟩ := m.new (o := .lst (vs ++ ws)) hp
      exact q _ _ _ l m' (.lst upd_same (m.ne hp) ((h2.append h4).mono l))
    · cases hf
theorem oj_sub : OpR X (binaryOp .Sub) (rJ X.K ca fSub) := by
  refine OpR.imp op_sub fun v u H Q ⟨ι, s, d, e, x, m, rd, re, hf, q⟩ => ?_
  cases rd <;> cases re <;> simp only [fSub] at hf <;> first | cases hf | skip
  exact ⟨_, _, rfl, rfl, q _ _ _ .refl m (.int _)⟩
theorem oj_mul : OpR X (binaryOp .Mult) (rJ X.K ca fMul) := by
  refine OpR.imp ((op_mul.or op_rep).or op_repT) fun v u H Q ⟨ι, s, d, e, x, m, rd, re, hf, q⟩ => ?_
  cases rd <;> cases re <;> simp only [fMul] at hf <;> first | cases hf | skip
  · split at hf
    · rename_i hl
      cases hf
      refine .inl (.inl ⟨_, _, rfl, rfl, ?_, q _ _ _ .refl m (.int _)⟩)
      simp only [small64, Bool.or_eq_true, Bool.and_eq_true, decide_eq_true_eq] at hl
      exact hl
    · cases hf
  · rename_i a vs ds h1 h2 j _
    split at hf
    · rename_i hl
      cases hf
      simp only [Bool.and_eq_true, decide_eq_true_eq, Bool.not_eq_true'] at hl
      obtain ⟨⟨⟨l1, l2⟩, l3⟩, l4⟩ := hl
      refine .inr ⟨_, _, _, rfl, rfl, h1.sq, fun z => ?_, l2, l3, by rw [← h2.length]; exact l4, fun p hp => ?_⟩
      · subst z
        cases h2
        simp at l1
      · obtain ⟨l, m'⟩ := m.new (o := .tup (List.replicate j.toNat vs).flatten) hp
        exact q _ _ _ l m' (.tup (.inl upd_same) ((h2.flat _).mono l))
    · cases hf
  · rename_i a vs ds h1 n1 h2 j _
    split at hf
    · rename_i hl
      cases hf
      simp only [Bool.and_eq_true, decide_eq_true_eq] at hl
      obtain ⟨⟨l1, l2⟩, l3⟩ := hl
      refine .inl (.inr ⟨_, _, _, rfl, rfl, h1, l1, l2, by rw [← h2.length]; exact fitL_le l3, fun p hp => ?_⟩)
      obtain ⟨l, m'⟩ := m.new (o := .lst (List.replicate j.toNat vs).flatten) hp
      exact q _ _ _ l m' (.lst upd_same (m.ne hp) ((h2.flat _).mono l))
    · cases hf
theorem oj_div : OpR X (binaryOp .FloorDiv) (rJ X.K ca fDiv) := by
  refine OpR.imp op_fdiv fun v u H Q ⟨ι, s, d, e, x, m, rd, re, hf, q⟩ => ?_
  cases rd <;> cases re <;> simp only [fDiv] at hf <;> first | cases hf | skip
  split at hf
  · rename_i hl
    cases hf
    simp only [Bool.and_eq_true, decide_eq_true_eq] at hl
    exact ⟨_, _, rfl, rfl, hl, q _ _ _ .refl m (.int _)⟩
  · cases hf
theorem oj_mod : OpR X (binaryOp .Mod) (rJ X.K ca fMod) := by
  refine OpR.imp op_mod fun v u H Q ⟨ι, s, d, e, x, m, rd, re, hf, q⟩ => ?_
  cases rd <;> cases re <;> simp only [fMod] at hf <;> first | cases hf | skip
  split at hf
  · rename_i hl
    cases hf
    simp only [decide_eq_true_eq] at hl
    exact ⟨_, _, rfl, rfl, hl, q _ _ _ .refl m (.int _)⟩
  · cases hf
theorem oj_pow : OpR X (binaryOp .Pow) (rJ X.K ca fPow) := by
  refine OpR.imp op_pow fun v u H Q ⟨ι, s, d, e, x, m, rd, re, hf, q⟩ => ?_
  cases rd <;> cases re <;> simp only [fPow] at hf <;> first | cases hf | skip
  split at hf
  · rename_i hl
    cases hf
    simp only [Bool.and_eq_true, decide_eq_true_eq] at hl
    exact ⟨_, _, rfl, rfl, ⟨hl.1.1, hl.1.2, hl.2⟩, q _ _ _ .refl m (.int _)⟩
  · cases hf
theorem oj_lt : OpR X (compareOp .Lt) (rJ X.K ca fLt) := by
  refine OpR.imp (op_lt.or op_lt_str) fun v u H Q ⟨ι, s, d, e, x, m, rd, re, hf, q⟩ => ?_
  cases rd <;> cases re <;> simp only [fLt] at hf <;> first | cases hf | skip
  · exact .inl ⟨_, _, rfl, rfl, q _ _ _ .refl m (.bl _)⟩
  · exact .inr ⟨_, _, rfl, rfl, q _ _ _ .refl m (.bl _)⟩
theorem oj_le : OpR X (compareOp .LtE) (rJ X.K ca fLe) := by
  refine OpR.imp op_le fun v u H Q ⟨ι, s, d, e, x, m, rd, re, hf, q⟩ => ?_
  cases rd <;> cases re <;> simp only [fLe] at hf <;> first | cases hf | skip
  exact ⟨_, _, rfl, rfl, q _ _ _ .refl m (.bl _)⟩
theorem oj_gt : OpR X (compareOp .Gt) (rJ X.K ca fGt) := by
  refine OpR.imp op_gt fun v u H Q ⟨ι, s, d, e, x, m, rd, re, hf, q⟩ => ?_
  cases rd <;> cases re <;> simp only [fGt] at hf <;> first | cases hf | skip
  exact ⟨_, _, rfl, rfl, q _ _ _ .refl m (.bl _)⟩
theorem oj_ge : OpR X (compareOp .GtE) (rJ X.K ca fGe) := by
  refine OpR.imp op_ge fun v u H Q ⟨ι, s, d, e, x, m, rd, re, hf, q⟩ => ?_
  cases rd <;> cases re <;> simp only [fGe] at hf <;> first | cases hf | skip
  exact ⟨_, _, rfl, rfl, q _ _ _ .refl m (.bl _)⟩
theorem oj_eq (hu : X.A.units + 64 < cLine) : OpR X (compareOp .Eq) (rJ X.K ca fEq) := by
  refine OpR.imp (op_eqD hu) fun v u H Q ⟨ι, s, d, e, x, m, rd, re, hf, q⟩ => ?_
  simp only [fEq, Option.map_eq_some_iff] at hf
  obtain ⟨b, hb, rfl⟩ := hf
  unfold eqD at hb
  split at hb
  · rename_i p1 p2 e1 e2
    split at hb
    · rename_i hs
      cases hb
      simp only [Bool.and_eq_true] at hs
      exact ⟨_, _, m.dp rd e1, m.dp re e2, hs.1, hs.2, q _ _ _ .refl m (.bl _)⟩
    · cases hb
  · cases hb
theorem oj_ne (hu : X.A.units + 64 < cLine) : OpR X (compareOp .NotEq) (rJ X.K ca fNe) := by
  refine OpR.imp (op_neD hu) fun v u H Q ⟨ι, s, d, e, x, m, rd, re, hf, q⟩ => ?_
  simp only [fNe, Option.map_eq_some_iff] at hf
  obtain ⟨b, hb, rfl⟩ := hf
  unfold eqD at hb
  split at hb
  · rename_i p1 p2 e1 e2
    split at hb
    · rename_i hs
      cases hb
      simp only [Bool.and_eq_true] at hs
      exact ⟨_, _, m.dp rd e1, m.dp re e2, hs.1, hs.2, q _ _ _ .refl m (.bl _)⟩
    · cases hb
  · cases hb
theorem isD_none {K : PySem.W.Frag} {ι : Wd} {H : Hp} {d : D} {v : V} {b : Bool} (r : Rep K ι H d v) (h : isD d .non = some b) : decide (v = V.non) = b := by
  cases r <;> simp only [isD] at h <;> cases h <;> rfl
theorem oj_is : OpR X (compareOp .Is) (rJ X.K ca fIs) := by
  refine OpR.imp (op_isN.or op_is_bl) fun v u H Q ⟨ι, s, d, e, x, m, rd, re, hf, q⟩ => ?_
  simp only [fIs, Option.map_eq_some_iff] at hf
  obtain ⟨b, hb, rfl⟩ := hf
  cases re with
  | non => exact .inl ⟨rfl, by rw [isD_none rd hb]; exact q _ _ _ .refl m (.bl _)⟩
  | bl c =>
    cases rd <;> simp only [isD] at hb <;> first | cases hb | skip
    exact .inr ⟨_, _, rfl, rfl, q _ _ _ .refl m (.bl _)⟩
  | _ => cases rd <;> simp only [isD] at hb <;> cases hb
theorem oj_isnot : OpR X (compareOp .IsNot) (rJ X.K ca fIsN) := by
  refine OpR.imp (op_notN.or op_isnot_bl) fun v u H Q ⟨ι, s, d, e, x, m, rd, re, hf, q⟩ => ?_
  simp only [fIsN, Option.map_eq_some_iff] at hf
  obtain ⟨b, hb, rfl⟩ := hf
  cases re with
  | non => exact .inl ⟨rfl, by rw [isD_none rd hb]; exact q _ _ _ .refl m (.bl _)⟩
  | bl c =>
    cases rd <;> simp only [isD] at hb <;> first | cases hb | skip
    exact .inr ⟨_, _, rfl, rfl, q _ _ _ .refl m (.bl _)⟩
  | _ => cases rd <;> simp only [isD] at hb <;> cases hb
/-- x in a tuple of data -/
theorem op_inTD (hu : X.A.units + 65 < cLine) : OpR X (compareOp .In) (fun x y H Q => ∃ d ds, Dp X.K H x d ∧ Dp X.K H y (.tuple ds) ∧ SeqAt.shaped d = true ∧ SeqAt.shaped (.tuple ds) = true ∧ Q (.bl (ds.any fun z => PyData.eqv z d)) H) := by
  intro pins s σ H x y v u Q I rx ry h
  obtain ⟨d, ds, hd, he, sd, se, q⟩ := h
  obtain ⟨as, r1⟩ := Dp.reads I d x v hd rx
  obtain ⟨bs, r2⟩ := Dp.reads I (.tuple ds) y u he ry
  exact SeqAt.in_tuple_reads r2 r1 (SeqAt.canLay_of_shaped se) (SeqAt.canLay_of_shaped sd) (PyProof.Rows.room_in_shaped sd hu) ⟨.bl _, H, I, rfl, q⟩
theorem op_notInTD (hu : X.A.units + 65 < cLine) : OpR X (compareOp .NotIn) (fun x y H Q => ∃ d ds, Dp X.K H x d ∧ Dp X.K H y (.tuple ds) ∧ SeqAt.shaped d = true ∧ SeqAt.shaped (.tuple ds) = true ∧ Q (.bl (!ds.any fun z => PyData.eqv z d)) H) := by
  intro pins s σ H x y v u Q I rx ry h
  obtain ⟨d, ds, hd, he, sd, se, q⟩ := h
  obtain ⟨as, r1⟩ := Dp.reads I d x v hd rx
  obtain ⟨bs, r2⟩ := Dp.reads I (.tuple ds) y u he ry
  exact SeqAt.notIn_tuple_reads r2 r1 (SeqAt.canLay_of_shaped se) (SeqAt.canLay_of_shaped sd) (PyProof.Rows.room_in_shaped sd hu) ⟨.bl _, H, I, rfl, q⟩
theorem inD_cases {K : PySem.W.Frag} {ι : Wd} {H : Hp} {s : S} {x y : D} {v u : V} {b : Bool} (m : Sim K ca ι s H) (rd : Rep K ι H x v) (re : Rep K ι H y u) (h : inD s x y = some b) :
    (∃ i j, v = .str i ∧ u = .str j ∧ b = !(Builtin.Str.occurrences j i 0 j.length 1).isEmpty) ∨
    (∃ d ds, Dp K H v d ∧ Dp K H u (.tuple ds) ∧ SeqAt.shaped d = true ∧ SeqAt.shaped (.tuple ds) = true ∧ b = ds.any fun z => PyData.eqv z d) ∨
    (∃ d ds, Dp K H v d ∧ Dp K H u (.list ds) ∧ SeqAt.shaped d = true ∧ SeqAt.shaped (.list ds) = true ∧ b = ds.any fun z => PyData.eqv z d) := by
  have lists : ∀ {ds : List D}, itemsL s y = some ds → (match D.toPy x, D.toPys ds with
      | some p, some ps => if SeqAt.shaped p && SeqAt.shaped (.list ps) then some (ps.any fun z => PyData.eqv z p) else none
      | _, _ => none) = some b → ∃ d ds, Dp K H v d ∧ Dp K H u (.list ds) ∧ SeqAt.shaped d = true ∧ SeqAt.shaped (.list ds) = true ∧ b = ds.any fun z => PyData.eqv z d := fun {ds} hi hb => by
    obtain ⟨a, vs, rfl, h1, h2⟩ := m.items re hi
    split at hb
    · rename_i p ps e1 e2
      split at hb
      · rename_i hs
        cases hb
        simp only [Bool.and_eq_true] at hs
        exact ⟨_, _, Rep.dp rd e1, .lst h1 (Reps.dp h2 e2), hs.1, hs.2, rfl⟩
      · cases hb
    · cases hb
  cases re with
  | str j =>
    simp only [inD] at h
    cases rd <;> simp only at h <;> cases h
    exact .inl ⟨_, _, rfl, rfl, rfl⟩
  | @tup a vs ds h1 h2 =>
    simp only [inD] at h
    split at h
    · rename_i p ps e1 e2
      split at h
      · rename_i hs
        cases h
        simp only [Bool.and_eq_true] at hs
        exact .inr (.inl ⟨_, _, Rep.dp rd e1, .tup h1.sq (Reps.dp h2 e2), hs.1, hs.2, rfl⟩)
      · cases h
    · cases h
  | non => simp [inD, itemsL] at h
  | bl _ => simp [inD, itemsL] at h
  | int _ => simp [inD, itemsL] at h
  | ty _ => simp [inD, itemsL] at h
  | raw _ => simp [inD, itemsL] at h
  | @lst a vs ds _ _ _ => exact .inr (.inr (lists (ds := ds) rfl h))
  | @frz a vs ds _ _ => exact .inr (.inr (lists (ds := ds) rfl h))
  | @frz2 a vs ds _ _ _ => exact .inr (.inr (lists (ds := ds) rfl h))
  | @obj a n _ =>
    cases e : itemsL s (.obj n) with
    | none => simp only [inD, e] at h; cases h
    | some ds => simp only [inD, e] at h; exact .inr (.inr (lists e h))
theorem oj_in (hu : X.A.units + 65 < cLine) : OpR X (compareOp .In) (rJ X.K ca fIn) := by
  refine OpR.imp (op_in_str.or ((op_inTD hu).or (op_inD hu))) fun v u H Q ⟨ι, s, d, e, x, m, rd, re, hf, q⟩ => ?_
  simp only [fIn, Option.map_eq_some_iff] at hf
  obtain ⟨b, hb, rfl⟩ := hf
  rcases inD_cases m rd re hb with ⟨i, j, rfl, rfl, rfl⟩ | ⟨p, ps, h1, h2, h3, h4, rfl⟩ | ⟨p, ps, h1, h2, h3, h4, rfl⟩
  · exact .inl ⟨_, _, rfl, rfl, q _ _ _ .refl m (.bl _)⟩
  · exact .inr (.inl ⟨_, _, h1, h2, h3, h4, q _ _ _ .refl m (.bl _)⟩)
  · exact .inr (.inr ⟨_, _, h1, h2, h3, h4, q _ _ _ .refl m (.bl _)⟩)
theorem oj_notin (hu : X.A.units + 65 < cLine) : OpR X (compareOp .NotIn) (rJ X.K ca fNotIn) := by
  refine OpR.imp (op_notin_str.or ((op_notInTD hu).or (op_notInD hu))) fun v u H Q ⟨ι, s, d, e, x, m, rd, re, hf, q⟩ => ?_
  simp only [fNotIn, Option.map_eq_some_iff] at hf
  obtain ⟨b, hb, rfl⟩ := hf
  rcases inD_cases m rd re hb with ⟨i, j, rfl, rfl, rfl⟩ | ⟨p, ps, h1, h2, h3, h4, rfl⟩ | ⟨p, ps, h1, h2, h3, h4, rfl⟩
  · exact .inl ⟨_, _, rfl, rfl, q _ _ _ .refl m (.bl _)⟩
  · exact .inr (.inl ⟨_, _, h1, h2, h3, h4, q _ _ _ .refl m (.bl _)⟩)
  · exact .inr (.inr ⟨_, _, h1, h2, h3, h4, q _ _ _ .refl m (.bl _)⟩)
theorem IxR.imp {r r' : R2} (h : IxR X r) (i : ∀ x y H Q, r' x y H Q → r x y H Q) : IxR X r' := fun value slice pins s σ H x y v u Q I rx ry q hs => h value slice pins s σ H x y v u Q I rx ry (i _ _ _ _ q) hs
theorem Reps.atI {K : PySem.W.Frag} {ι : Wd} {H : Hp} {ds : List D} {vs : List V} {i : Int} {d : D} (r : Reps K ι H ds vs) (h : L2.atI ds i = some d) : ∃ v, L2.atI vs i = some v ∧ Rep K ι H d v := by
  unfold L2.atI at h ⊢
  rw [← r.length]
  cases e : ixN ds.length i with
  | none => rw [e] at h; cases h
  | some j =>
    rw [e] at h
    exact r.get h
theorem ij_ix : IxR X (rJ X.K ca fIdx) := by
  refine IxR.imp ix_seq fun v u H Q ⟨ι, s, d, e, x, m, rd, re, hf, q⟩ => ?_
  have lists : ∀ {ds : List D} {i : Int}, u = .int i → itemsL s d = some ds → L2.atI ds i = some x → rIx X.K v u H Q := fun {ds i} hu hi ha => by
    subst hu
    obtain ⟨a, vs, rfl, h1, h2⟩ := m.items rd hi
    obtain ⟨v', h3, h4⟩ := h2.atI ha
    exact .inl ⟨_, _, _, _, rfl, rfl, h1, h3, q _ _ _ .refl m h4⟩
  cases re <;> simp only [fIdx] at hf <;> first | cases hf | skip
  rename_i i
  cases rd with
  | str z =>
    simp only at hf
    split at hf
    · rename_i hl
      simp only [Option.map_eq_some_iff] at hf
      obtain ⟨c, hc, rfl⟩ := hf
      exact .inr (.inr ⟨_, _, _, rfl, rfl, fitL_le hl, hc, q _ _ _ .refl m (.str _)⟩)
    · cases hf
  | @tup a vs ds h1 h2 =>
    obtain ⟨v', h3, h4⟩ := h2.atI hf
    exact .inr (.inl ⟨_, _, _, _, rfl, rfl, h1.sq, h3, q _ _ _ .refl m h4⟩)
  | non => simp [itemsL] at hf
  | bl _ => simp [itemsL] at hf
  | int _ => simp [itemsL] at hf
  | ty _ => simp [itemsL] at hf
  | raw _ => simp [itemsL] at hf
  | @lst a vs ds _ _ _ => exact lists (ds := ds) rfl rfl hf
  | @frz a vs ds _ _ => exact lists (ds := ds) rfl rfl hf
  | @frz2 a vs ds _ _ _ => exact lists (ds := ds) rfl rfl hf
  | @obj a n _ =>
    cases e : itemsL s (.obj n) with
    | none => simp only [e] at hf; cases hf
    | some ds => simp only [e] at hf; exact lists rfl e hf
end
end J


set_option Elab.async false
set_option linter.all false
set_option maxRecDepth 100000
set_option maxHeartbeats 4000000
/-! J2: the judgements; names, constants, operators, comparisons, tests, displays, calls of built-ins. -/
namespace J
open PySem PySem.Spec L2

def R.ofO {α : Type} (o : Option α) (s : S) : R α := match o with | some a => .ok a s | none => .no
@[simp] theorem R.ofO_some {α : Type} (a : α) (s : S) : R.ofO (some a) s = .ok a s := rfl
@[simp] theorem R.ofO_none {α : Type} (s : S) : R.ofO (none : Option α) s = .no := rfl
@[simp] theorem R.bind_ok {α β : Type} (a : α) (s : S) (k : α → S → R β) : (R.ok a s).bind k = k a s := rfl
@[simp] theorem R.bind_err {α β : Type} (e : Ex) (s : S) (k : α → S → R β) : (R.err e s).bind k = .err e s := rfl
@[simp] theorem R.bind_no {α β : Type} (k : α → S → R β) : (R.no : R α).bind k = .no := rfl

def JE (X : Cx) (ca : Ct) (W : WX) (e : Expr) (g : GE) : Prop := PE X e (tG X.K ca W g)
def JT (X : Cx) (ca : Ct) (W : WX) (e : Expr) (g : GT) : Prop := PT X e (tT X.K ca W g)
def JW (X : Cx) (ca : Ct) (W : WX) (e : Expr) (g : GT) : Prop := PW X e (tT X.K ca W g)
def JA (X : Cx) (ca : Ct) (W : WX) (es : List Expr) (g : GA) : Prop := PA X es (tA X.K ca W g)

structure Fam (K : PySem.W.Frag) (ca : Ct) (E : XK) {β : Type} (Φ : Wd → Hp → R β → Prop) : Prop where
  mono : ∀ {ι H ι' H' r}, Φ ι H r → Le ι H ι' H' → Φ ι' H' r
  err : ∀ {ι H e s}, Φ ι H (.err e s) → ∀ ι' cv dd H', Le ι H ι' H' → Sim K ca ι' s H' → RepX K ca ι' H' e cv dd → E cv dd H'
  no : ∀ {ι H}, ¬ Φ ι H .no
section
variable {K : PySem.W.Frag} {ca : Ct} {ι : Wd} {H : Hp} {ρ : Env} {σ : L2.St} {s : S} {W : WX}
theorem famE {E : XK} {Q : VK} : Fam K ca E (fun ι H r => PostE K ca ι H r Q E) := ⟨fun h l => h.mono l, fun h => h, fun h => h⟩
theorem famT {E : XK} {Q : Bool → Hp → Prop} : Fam K ca E (fun ι H r => PostT K ca ι H r Q E) := ⟨fun h l => h.mono l, fun h => h, fun h => h⟩
theorem famA {E : XK} {Q : List V → Hp → Prop} : Fam K ca E (fun ι H r => PostA K ca ι H r Q E) := ⟨fun h l => h.mono l, fun h => h, fun h => h⟩
theorem famS {D : Ends} : Fam K ca (fun cv dd H' => W cv dd σ H') (fun ι H r => PostS K ca ι H W r D) := ⟨fun h l => h.mono l, fun h ι' cv dd H' l m x => h ι' cv dd H' σ l m x, fun h => h⟩
variable {β : Type} {Φ : Wd → Hp → R β → Prop}
theorem bindE {g : GE} {k : D → S → R β} {Rr : VK} (F : Fam K ca (fun cv dd H' => W cv dd σ H') Φ) (hr : RelS K ι H ρ σ) (hm : Sim K ca ι s H) (h : Φ ι H ((g ρ s).bind k))
    (step : ∀ ι' s' d v H', Le ι H ι' H' → RelS K ι' H' ρ σ → Sim K ca ι' s' H' → Rep K ι' H' d v → Φ ι' H' (k d s') → Rr v H') : tG K ca W g σ H Rr := by
  refine ⟨ι, ρ, s, hr, hm, ?_⟩
  cases e : g ρ s with
  | ok d s' =>
    rw [e] at h
    exact fun ι' v H' l m q => step ι' s' d v H' l (hr.mono l) m q (F.mono h l)
  | err x s' =>
    rw [e] at h
    exact F.err h
  | no =>
    rw [e] at h
    exact F.no h
theorem bindT {g : GT} {k : Bool → S → R β} {Rr : Bool → Hp → Prop} (F : Fam K ca (fun cv dd H' => W cv dd σ H') Φ) (hr : RelS K ι H ρ σ) (hm : Sim K ca ι s H) (h : Φ ι H ((g ρ s).bind k))
    (step : ∀ ι' s' b H', Le ι H ι' H' → RelS K ι' H' ρ σ → Sim K ca ι' s' H' → Φ ι' H' (k b s') → Rr b H') : tT K ca W g σ H Rr := by
  refine ⟨ι, ρ, s, hr, hm, ?_⟩
  cases e : g ρ s with
  | ok d s' =>
    rw [e] at h
    exact fun ι' H' l m => step ι' s' d H' l (hr.mono l) m (F.mono h l)
  | err x s' =>
    rw [e] at h
    exact F.err h
  | no =>
    rw [e] at h
    exact F.no h
theorem bindA {g : GA} {k : List D → S → R β} {Rr : List V → Hp → Prop} (F : Fam K ca (fun cv dd H' => W cv dd σ H') Φ) (hr : RelS K ι H ρ σ) (hm : Sim K ca ι s H) (h : Φ ι H ((g ρ s).bind k))
    (step : ∀ ι' s' ds vs H', Le ι H ι' H' → RelS K ι' H' ρ σ → Sim K ca ι' s' H' → Reps K ι' H' ds vs → Φ ι' H' (k ds s') → Rr vs H') : tA K ca W g σ H Rr := by
  refine ⟨ι, ρ, s, hr, hm, ?_⟩
  cases e : g ρ s with
  | ok d s' =>
    rw [e] at h
    exact fun ι' v H' l m q => step ι' s' d v H' l (hr.mono l) m q (F.mono h l)
  | err x s' =>
    rw [e] at h
    exact F.err h
  | no =>
    rw [e] at h
    exact F.no h
end
section
variable {X : Cx} {ca : Ct} {W : WX} {e a b c : Expr} {es : List Expr} {pos : Pos} {g ga gb gc : GE} {t ta tb : GT}
theorem PE.imp {t t' : TE} (h : PE X e t) (i : ∀ σ H Q, t' σ H Q → t σ H Q) : PE X e t' := ⟨fun pins s σ H Q I q => h.run pins s σ H Q I (i _ _ _ q)⟩
theorem PT.imp {t t' : TT} (h : PT X e t) (i : ∀ σ H Q, t' σ H Q → t σ H Q) : PT X e t' := ⟨fun pins s σ H Q I q => h.run pins s σ H Q I (i _ _ _ q)⟩
theorem PW.imp {t t' : TT} (h : PW X e t) (i : ∀ σ H Q, t' σ H Q → t σ H Q) : PW X e t' := ⟨fun wh pins s σ H Q I q => h.run wh pins s σ H Q I (i _ _ _ q)⟩
theorem PA.imp {t t' : TA} (h : PA X es t) (i : ∀ σ H Q, t' σ H Q → t σ H Q) : PA X es t' := ⟨fun p pins s σ H Q I q => h.run p pins s σ H Q I (i _ _ _ q)⟩

/-! ### names, constants -/
def gVar (i : Nat) : GE := fun ρ s => match ρ[i]? with | some (some d) => .ok d s | _ => .no
def gC (d : D) : GE := fun _ s => .ok d s
theorem je_var (i : Nat) {x : Str} (hN : X.N[i]? = some x := by rfl) (hv : Vis X.env.scope x := by first | exact Or.inl rfl | exact Or.inr (Or.inl rfl) | exact Or.inr (Or.inr rfl)) (hd : (x == ("__debug__" : Str)) = false := by decide)
    (hcd : (x == ("__classdict__" : Str)) = false := by decide) : JE X ca W (.Name x pos) (gVar i) := by
  refine PE.imp (pe_var hN hv hd hcd) fun σ H Q ⟨ι, ρ, s, hr, hm, h⟩ => ?_
  unfold gVar at h
  split at h
  · rename_i d e
    obtain ⟨v, h1, h2⟩ := hr.at_ i d e
    exact ⟨v, h1, h ι v H .refl hm h2⟩
  · exact h.elim
theorem je_c {d : D} {v : V} (h : PE X e (tC v)) (r : ∀ ι H, Rep X.K ι H d v) : JE X ca W e (gC d) := PE.imp h fun σ H Q ⟨ι, ρ, s, hr, hm, h⟩ => h ι v H .refl hm (r ι H)
theorem je_int {i j} : JE X ca W (.Constant (.int i) j pos) (gC (.int i)) := je_c pe_int fun _ _ => .int i
theorem je_bl {b j} : JE X ca W (.Constant (.bool b) j pos) (gC (.bl b)) := je_c pe_bl fun _ _ => .bl b
theorem je_non {j} : JE X ca W (.Constant .none j pos) (gC .non) := je_c pe_non fun _ _ => .non
theorem je_str {x j} : JE X ca W (.Constant (.str x) j pos) (gC (.str x)) := je_c pe_str fun _ _ => .str x
/-- a constant of the module -/
theorem je_glob {x : Str} {d : D} {v : V} {u : Value} (hm : X.mg x = some u) (r : RelV v u) (q : ∀ ι H, Rep X.K ι H d v) (hg : Gl X x := by rfl) (hd : (x == ("__debug__" : Str)) = false := by decide) : JE X ca W (.Name x pos) (gC d) := je_c (pe_glob hg hm r hd) q
/-- a built-in class as a value -/
theorem je_ty {x : Str} {n : String} (hm : X.mg x = none) (hv : bootBuiltins x = some (.type n)) (hg : Gl X x := by rfl) (hn : x ≠ "__name__" := by decide) (hd : (x == ("__debug__" : Str)) = false := by decide) : JE X ca W (.Name x pos) (gC (.ty n)) :=
  je_c (v := .ty n) (pe_bltn hg hm hv rfl hn hd) fun _ _ => .ty n

/-! ### operators -/
def gOp2 (f : S → D → D → Option D) (ga gb : GE) : GE := fun ρ s => (ga ρ s).bind fun x s1 => (gb ρ s1).bind fun y s2 => R.ofO (f s2 x y) s2
theorem tG_op2 {f : S → D → D → Option D} {σ : L2.St} {H : Hp} {Q : VK} (h : tG X.K ca W (gOp2 f ga gb) σ H Q) : tOp (rJ X.K ca f) (tG X.K ca W ga) (tG X.K ca W gb) σ H Q := by
  obtain ⟨ι, ρ, s, hr, hm, h⟩ := h
  refine bindE famE hr hm h fun ι1 s1 x v H1 l1 hr1 hm1 rx h1 => bindE famE hr1 hm1 h1 fun ι2 s2 y u H2 l2 hr2 hm2 ry h2 => ?_
  cases e : f s2 x y with
  | none => rw [e] at h2; exact h2.elim
  | some z =>
    rw [e] at h2
    exact ⟨ι2, s2, x, y, z, hm2, rx.mono l2, ry, e, fun ι' v' H' l m r => h2 ι' v' H' l m r⟩
theorem je_op {op : Operator} {f : S → D → D → Option D} (ho : OpR X (binaryOp op) (rJ X.K ca f)) (ha : JE X ca W a ga) (hb : JE X ca W b gb) : JE X ca W (.BinOp a op b pos) (gOp2 f ga gb) := PE.imp (pe_op ho ha hb) fun _ _ _ h => tG_op2 h
theorem je_cmp {op : CmpOp} {f : S → D → D → Option D} (ho : OpR X (compareOp op) (rJ X.K ca f)) (ha : JE X ca W a ga) (hb : JE X ca W b gb) (hm : behindInMarks op b = false := by first | exact nomark _ | rfl) : JE X ca W (.Compare a [op] [b] pos) (gOp2 f ga gb) :=
  PE.imp (pe_cmpR ho ha hb hm) fun _ _ _ h => tG_op2 h
theorem je_ix (ha : JE X ca W a ga) (hb : JE X ca W b gb) (hs : PlainIx b := by exact fun _ _ => rfl) : JE X ca W (.Subscript a b pos) (gOp2 fIdx ga gb) := PE.imp (pe_ix ij_ix ha hb hs) fun _ _ _ h => tG_op2 h
/-- a bool's value -/
def gB (g : GE) : GT := fun ρ s => (g ρ s).bind fun d s1 => match d with | .bl b => .ok b s1 | _ => .no
theorem tT_gB {σ : L2.St} {H : Hp} {Q : Bool → Hp → Prop} (h : tT X.K ca W (gB g) σ H Q) : tG X.K ca W g σ H fun v H' => ∃ k, v = .bl k ∧ Q k H' := by
  obtain ⟨ι, ρ, s, hr, hm, h⟩ := h
  refine bindE famT hr hm h fun ι1 s1 x v H1 l1 hr1 hm1 rx h1 => ?_
  cases rx with
  | bl b => exact ⟨b, rfl, h1 ι1 H1 .refl hm1⟩
  | _ => exact h1.elim
theorem jt_cmp {op : CmpOp} {f : S → D → D → Option D} (ho : OpR X (compareOp op) (rJ X.K ca f)) (ha : JE X ca W a ga) (hb : JE X ca W b gb) (hm : behindInMarks op b = false := by first | exact nomark _ | rfl) : JT X ca W (.Compare a [op] [b] pos) (gB (gOp2 f ga gb)) := by
  refine PT.imp (pt_cmpR ho ha hb hm) fun σ H Q h => ?_
  have h := tT_gB h
  exact tG_op2 h
theorem jt_val (h : JE X ca W e g) (he : ∀ whole, isTrue e X.env whole = (do let v ← whole; standAt e.pos; holding [v] (truthy v)) := by intro _; rfl) : JT X ca W e (gB g) := PT.imp (pt_val h he) fun _ _ _ h => tT_gB h
/-- a < b < c -/
def gChain (f f' : S → D → D → Option D) (ga gb gc : GE) : GE := fun ρ s => (ga ρ s).bind fun x s1 => (gb ρ s1).bind fun y s2 => (R.ofO (f s2 x y) s2).bind fun z s3 => match z with
  | .bl true => (gc ρ s3).bind fun w s4 => R.ofO (f' s4 y w) s4
  | .bl false => .ok (.bl false) s3
  | _ => .no
theorem je_chain {op op' : CmpOp} {f f' : S → D → D → Option D} (ho : OpR X (compareOp op) (rJ X.K ca f)) (ho' : OpR X (compareOp op') (rJ X.K ca f')) (ha : JE X ca W a ga) (hb : JE X ca W b gb) (hc : JE X ca W c gc)
    (h1 : lastMarks [op, op'] [b, c] = false := by rfl) : JE X ca W (.Compare a [op, op'] [b, c] pos) (gChain f f' ga gb gc) := by
  refine PE.imp (pe_chain ho ho' ha hb hc (by exact h1)) fun σ H Q ⟨ι, ρ, s, hr, hm, h⟩ => ?_
  refine bindE famE hr hm h fun ι1 s1 x v H1 l1 hr1 hm1 rx h1 => bindE famE hr1 hm1 h1 fun ι2 s2 y u H2 l2 hr2 hm2 ry h2 => ?_
  cases e : f s2 x y with
  | none => rw [e] at h2; exact h2.elim
  | some z =>
    rw [e] at h2
    refine ⟨ι2, s2, x, y, z, hm2, rx.mono l2, ry, e, fun ι3 v3 H3 l3 m3 r3 => ?_⟩
    have h3 := PostE.mono h2 l3
    cases r3 with
    | bl k =>
      refine ⟨k, rfl, ?_⟩
      cases k with
      | true =>
        rw [if_pos rfl]
        refine bindE famE (hr2.mono l3) m3 h3 fun ι4 s4 w q H4 l4 hr4 hm4 rw' h4 => ?_
        cases e' : f' s4 y w with
        | none => rw [e'] at h4; exact h4.elim
        | some z' =>
          rw [e'] at h4
          exact ⟨ι4, s4, y, w, z', hm4, (ry.mono l3).mono l4, rw', e', fun ι' v' H' l m r => h4 ι' v' H' l m r⟩
      | false =>
        rw [if_neg Bool.false_ne_true]
        exact h3 ι3 _ H3 .refl m3 (.bl false)
    | _ => exact h3.elim

/-! ### tests -/
def gNot (t : GT) : GT := fun ρ s => (t ρ s).bind fun b s1 => .ok (!b) s1
def gAnd (t u : GT) : GT := fun ρ s => (t ρ s).bind fun b s1 => if b then u ρ s1 else .ok false s1
def gOr (t u : GT) : GT := fun ρ s => (t ρ s).bind fun b s1 => if b then .ok true s1 else u ρ s1
def gV (t : GT) : GE := fun ρ s => (t ρ s).bind fun b s1 => .ok (.bl b) s1
def gAndV (ga gb : GE) : GE := fun ρ s => (ga ρ s).bind fun d s1 => match d with | .bl true => gb ρ s1 | .bl false => .ok (.bl false) s1 | _ => .no
def gOrV (ga gb : GE) : GE := fun ρ s => (ga ρ s).bind fun d s1 => match d with | .bl true => .ok (.bl true) s1 | .bl false => gb ρ s1 | _ => .no
def gNotV (ga : GE) : GE := fun ρ s => (ga ρ s).bind fun d s1 => match d with | .bl b => .ok (.bl !b) s1 | _ => .no
def gIf (t : GT) (ga gb : GE) : GE := fun ρ s => (t ρ s).bind fun b s1 => if b then ga ρ s1 else gb ρ s1
theorem jt_not (h : JT X ca W a ta) : JT X ca W (.UnaryOp .Not a pos) (gNot ta) := PT.imp (pt_not h) fun σ H Q ⟨ι, ρ, s, hr, hm, h⟩ => bindT famT hr hm h fun ι1 s1 b H1 l1 hr1 hm1 h1 => h1 ι1 H1 .refl hm1
theorem jw_and1 (h : JT X ca W a ta) : JW X ca W (.BoolOp .And [a] pos) ta := pw_and1 h
theorem jw_or1 (h : JT X ca W a ta) : JW X ca W (.BoolOp .Or [a] pos) ta := pw_or1 h
theorem jw_and (ha : JT X ca W a ta) (hb : JW X ca W (.BoolOp .And (b :: es) pos) tb) : JW X ca W (.BoolOp .And (a :: b :: es) pos) (gAnd ta tb) := by
  refine PW.imp (pw_and ha hb) fun σ H Q ⟨ι, ρ, s, hr, hm, h⟩ => bindT famT hr hm h fun ι1 s1 k H1 l1 hr1 hm1 h1 => ?_
  cases k with
  | true => rw [if_pos rfl]; exact ⟨ι1, ρ, s1, hr1, hm1, h1⟩
  | false => rw [if_neg Bool.false_ne_true]; exact h1 ι1 H1 .refl hm1
theorem jw_or (ha : JT X ca W a ta) (hb : JW X ca W (.BoolOp .Or (b :: es) pos) tb) : JW X ca W (.BoolOp .Or (a :: b :: es) pos) (gOr ta tb) := by
  refine PW.imp (pw_or ha hb) fun σ H Q ⟨ι, ρ, s, hr, hm, h⟩ => bindT famT hr hm h fun ι1 s1 k H1 l1 hr1 hm1 h1 => ?_
  cases k with
  | true => rw [if_pos rfl]; exact h1 ι1 H1 .refl hm1
  | false => rw [if_neg Bool.false_ne_true]; exact ⟨ι1, ρ, s1, hr1, hm1, h1⟩
theorem jw_t (h : JW X ca W e t) : JT X ca W e t := PW.pt h
theorem je_one {op} (h : JE X ca W a g) : JE X ca W (.BoolOp op [a] pos) g := pe_one h
theorem je_and (ha : JE X ca W a ga) (hb : JE X ca W (.BoolOp .And (b :: es) pos) gb) : JE X ca W (.BoolOp .And (a :: b :: es) pos) (gAndV ga gb) := by
  refine PE.imp (pe_and ha hb) fun σ H Q ⟨ι, ρ, s, hr, hm, h⟩ => bindE famE hr hm h fun ι1 s1 d v H1 l1 hr1 hm1 rd h1 => ?_
  cases rd with
  | bl k =>
    refine ⟨k, rfl, ?_⟩
    cases k with
    | true => rw [if_pos rfl]; exact ⟨ι1, ρ, s1, hr1, hm1, h1⟩
    | false => rw [if_neg Bool.false_ne_true]; exact h1 ι1 _ H1 .refl hm1 (.bl false)
  | _ => exact h1.elim
theorem je_or (ha : JE X ca W a ga) (hb : JE X ca W (.BoolOp .Or (b :: es) pos) gb) : JE X ca W (.BoolOp .Or (a :: b :: es) pos) (gOrV ga gb) := by
  refine PE.imp (pe_or ha hb) fun σ H Q ⟨ι, ρ, s, hr, hm, h⟩ => bindE famE hr hm h fun ι1 s1 d v H1 l1 hr1 hm1 rd h1 => ?_
  cases rd with
  | bl k =>
    refine ⟨k, rfl, ?_⟩
    cases k with
    | true => rw [if_pos rfl]; exact h1 ι1 _ H1 .refl hm1 (.bl true)
    | false => rw [if_neg Bool.false_ne_true]; exact ⟨ι1, ρ, s1, hr1, hm1, h1⟩
  | _ => exact h1.elim
theorem je_not (ha : JE X ca W a ga) : JE X ca W (.UnaryOp .Not a pos) (gNotV ga) := by
  refine PE.imp (pe_not ha) fun σ H Q ⟨ι, ρ, s, hr, hm, h⟩ => bindE famE hr hm h fun ι1 s1 d v H1 l1 hr1 hm1 rd h1 => ?_
  cases rd with
  | bl k => exact ⟨k, rfl, h1 ι1 _ H1 .refl hm1 (.bl _)⟩
  | _ => exact h1.elim
theorem je_if (hc : JT X ca W c t) (ha : JE X ca W a ga) (hb : JE X ca W b gb) : JE X ca W (.IfExp c a b pos) (gIf t ga gb) := by
  refine PE.imp (pe_ifExp hc ha hb) fun σ H Q ⟨ι, ρ, s, hr, hm, h⟩ => bindT famE hr hm h fun ι1 s1 k H1 l1 hr1 hm1 h1 => ?_
  cases k with
  | true => rw [if_pos rfl]; exact ⟨ι1, ρ, s1, hr1, hm1, h1⟩
  | false => rw [if_neg Bool.false_ne_true]; exact ⟨ι1, ρ, s1, hr1, hm1, h1⟩
def gNeg (ga : GE) : GE := fun ρ s => (ga ρ s).bind fun d s1 => match d with | .int i => .ok (.int (-i)) s1 | _ => .no
theorem je_neg (ha : JE X ca W a ga) : JE X ca W (.UnaryOp .USub a pos) (gNeg ga) := by
  refine PE.imp (pe_un un_neg ha) fun σ H Q ⟨ι, ρ, s, hr, hm, h⟩ => bindE famE hr hm h fun ι1 s1 d v H1 l1 hr1 hm1 rd h1 => ?_
  cases rd with
  | int k => exact ⟨k, rfl, h1 ι1 _ H1 .refl hm1 (.int _)⟩
  | _ => exact h1.elim

/-! ### arguments, displays -/
def gaNil : GA := fun _ s => .ok [] s
def gaCons (g : GE) (r : GA) : GA := fun ρ s => (g ρ s).bind fun d s1 => (r ρ s1).bind fun ds s2 => .ok (d :: ds) s2
theorem ja_nil : JA X ca W [] gaNil := PA.imp pa_nil fun σ H Q ⟨ι, ρ, s, hr, hm, h⟩ => h ι [] H .refl hm .nil
theorem ja_cons {gr : GA} (h : JE X ca W e g) (hr : JA X ca W es gr) (hs : starEach (e :: es) X.env = (false, eval e X.env) :: starEach es X.env := by rfl) : JA X ca W (e :: es) (gaCons g gr) := by
  refine PA.imp (pa_cons h hr hs) fun σ H Q ⟨ι, ρ, s, hr, hm, h⟩ => bindE famA hr hm h fun ι1 s1 d v H1 l1 hr1 hm1 rd h1 => bindA famA hr1 hm1 h1 fun ι2 s2 ds vs H2 l2 hr2 hm2 rs h2 => ?_
  exact h2 ι2 _ H2 .refl hm2 (.cons (rd.mono l2) rs)
def gTup (g : GA) : GE := fun ρ s => (g ρ s).bind fun ds s1 => if fitL ds.length then .ok (.tup ds) s1 else .no
def gLst (g : GA) : GE := fun ρ s => (g ρ s).bind fun ds s1 => if fitL ds.length then .ok (.lst ds) s1 else .no
/-- a list that may change -/
def gLstM (g : GA) : GE := fun ρ s => (g ρ s).bind fun ds s1 => if fitL ds.length then .ok (.obj s1.length) (s1 ++ [.lst ds]) else .no
theorem je_tup {x1} {gr : GA} (h : JA X ca W es gr) : JE X ca W (.Tuple es x1 pos) (gTup gr) := by
  refine PE.imp (pe_tup h) fun σ H Q ⟨ι, ρ, s, hr, hm, h⟩ => bindA famE hr hm h fun ι1 s1 ds vs H1 l1 hr1 hm1 rs h1 => ?_
  split at h1
  · rename_i hf
    refine ⟨by rw [← rs.length]; exact fitL_le hf, fun p hp => ?_⟩
    obtain ⟨l, m⟩ := hm1.new (o := .tup vs) hp
    exact h1 _ _ _ l m (.tup (.inl upd_same) (rs.mono l))
  · exact h1.elim
theorem je_lst {gr : GA} (h : JA X ca W es gr) : JE X ca W (.List es pos) (gLst gr) := by
  refine PE.imp (pe_lst h) fun σ H Q ⟨ι, ρ, s, hr, hm, h⟩ => bindA famE hr hm h fun ι1 s1 ds vs H1 l1 hr1 hm1 rs h1 => ?_
  split at h1
  · rename_i hf
    refine ⟨by rw [← rs.length]; exact fitL_le hf, fun p hp => ?_⟩
    obtain ⟨l, m⟩ := hm1.new (o := .lst vs) hp
    exact h1 _ _ _ l m (.lst upd_same (hm1.ne hp) (rs.mono l))
  · exact h1.elim
theorem je_lstM {gr : GA} (h : JA X ca W es gr) : JE X ca W (.List es pos) (gLstM gr) := by
  refine PE.imp (pe_lst h) fun σ H Q ⟨ι, ρ, s, hr, hm, h⟩ => bindA famE hr hm h fun ι1 s1 ds vs H1 l1 hr1 hm1 rs h1 => ?_
  split at h1
  · rename_i hf
    refine ⟨by rw [← rs.length]; exact fitL_le hf, fun p hp => ?_⟩
    obtain ⟨l, m⟩ := hm1.alloc (o := .lst vs) (u := .lst ds) hp trivial fun l => ⟨vs, upd_same, rs.mono l⟩
    exact h1 _ _ _ l m (.obj (by simp [← hm1.len]))
  · exact h1.elim

/-! ### built-ins by values -/
def rCJ (K : PySem.W.Frag) (ca : Ct) (f : S → List D → Option D) : List V → Hp → VK → Prop := fun vs H Q => ∃ ι s ds x, Sim K ca ι s H ∧ Reps K ι H ds vs ∧ f s ds = some x ∧
  ∀ ι' v' H', Le ι H ι' H' → Sim K ca ι' s H' → Rep K ι' H' x v' → Q v' H'
theorem CallR.imp {f : Value} {r r' : List V → Hp → VK → Prop} (h : CallR X f r) (i : ∀ vs H Q, r' vs H Q → r vs H Q) : CallR X f r' := fun pins s σ H xs us Q I r q => h pins s σ H xs us Q I r (i _ _ _ q)
def gF (f : S → List D → Option D) (gr : GA) : GE := fun ρ s => (gr ρ s).bind fun ds s1 => R.ofO (f s1 ds) s1
theorem tG_gF {f : S → List D → Option D} {gr : GA} {σ : L2.St} {H : Hp} {Q : VK} (h : tG X.K ca W (gF f gr) σ H Q) : tCB (rCJ X.K ca f) (tA X.K ca W gr) σ H Q := by
  obtain ⟨ι, ρ, s, hr, hm, h⟩ := h
  refine bindA famE hr hm h fun ι1 s1 ds vs H1 l1 hr1 hm1 rs h1 => ?_
  cases e : f s1 ds with
  | none => rw [e] at h1; exact h1.elim
  | some z => rw [e] at h1; exact ⟨ι1, s1, ds, z, hm1, rs, e, fun ι' v' H' l m r => h1 ι' v' H' l m r⟩
theorem je_B {x : Str} {p : Pos} {id : String} {f : S → List D → Option D} {gr : GA} (hc : CallR X (.builtin id) (rCJ X.K ca f)) (hm : X.mg x = none) (hv : bootBuiltins x = some (.builtin id)) (ha : JA X ca W (e :: es) gr) (hg : Gl X x := by rfl) (hn : x ≠ "__name__" := by decide)
    (hdb : (x == ("__debug__" : Str)) = false := by decide) (he : starEach (e :: es) X.env = (false, eval e X.env) :: starEach es X.env := by rfl) (hpl : (backTo pos (starEach es X.env)).any (·.1) = false := by rfl) : JE X ca W (.Call (.Name x p) (e :: es) [] pos) (gF f gr) :=
  PE.imp (pe_callB hc hg hm hv ha hn hdb he hpl) fun _ _ _ h => tG_gF h
theorem je_Ty {x : Str} {p : Pos} {id : String} {f : S → List D → Option D} {gr : GA} (hc : CallR X (.type id) (rCJ X.K ca f)) (hm : X.mg x = none) (hv : bootBuiltins x = some (.type id)) (ha : JA X ca W (e :: es) gr) (hg : Gl X x := by rfl) (hn : x ≠ "__name__" := by decide)
    (hdb : (x == ("__debug__" : Str)) = false := by decide) (he : starEach (e :: es) X.env = (false, eval e X.env) :: starEach es X.env := by rfl) (hpl : (backTo pos (starEach es X.env)).any (·.1) = false := by rfl) : JE X ca W (.Call (.Name x p) (e :: es) [] pos) (gF f gr) :=
  PE.imp (pe_callTy hc hg hm hv ha hn hdb he hpl) fun _ _ _ h => tG_gF h
end
end J


set_option Elab.async false
set_option linter.all false
set_option maxRecDepth 100000
set_option maxHeartbeats 4000000
/-! J3: statements, loops, comprehensions, defs and their calls. -/
namespace J
open PySem PySem.Spec L2
open PyProof.Rows (envOfC)

abbrev W0 : WX := fun _ _ _ _ => False
def JS (X : Cx) (ca : Ct) (W : WX) (st : Stmt) (g : GS) : Prop := PS X st (tS X.K ca W g)
def JSs (X : Cx) (ca : Ct) (W : WX) (st : List Stmt) (g : GS) : Prop := PSs X st (tS X.K ca W g)
/-- a target -/
abbrev TD := D → Env → Option Env
def tgJ (K : PySem.W.Frag) (ca : Ct) (t : TD) : TG := fun v σ H Q => ∃ ι ρ s d ρ', RelS K ι H ρ σ ∧ Sim K ca ι s H ∧ Rep K ι H d v ∧ t d ρ = some ρ' ∧ ∀ ι' σ' H', Le ι H ι' H' → Sim K ca ι' s H' → RelS K ι' H' ρ' σ' → Q σ' H'
def tgsJ (K : PySem.W.Frag) (ca : Ct) (t : List D → Env → Option Env) : TGs := fun vs σ H Q => ∃ ι ρ s ds ρ', RelS K ι H ρ σ ∧ Sim K ca ι s H ∧ Reps K ι H ds vs ∧ t ds ρ = some ρ' ∧ ∀ ι' σ' H', Le ι H ι' H' → Sim K ca ι' s H' → RelS K ι' H' ρ' σ' → Q σ' H'
def JG (X : Cx) (ca : Ct) (tg : Expr) (t : TD) : Prop := PG X tg (tgJ X.K ca t)
def JGs (X : Cx) (ca : Ct) (tgs : List Expr) (t : List D → Env → Option Env) : Prop := PGs X tgs (tgsJ X.K ca t)
theorem PG.imp {X : Cx} {e : Expr} {t t' : TG} (h : PG X e t) (i : ∀ v σ H Q, t' v σ H Q → t v σ H Q) : PG X e t' := ⟨fun pins s σ H v u Q I r q => h.run pins s σ H v u Q I r (i _ _ _ _ q)⟩
theorem PGs.imp {X : Cx} {e : List Expr} {t t' : TGs} (h : PGs X e t) (i : ∀ v σ H Q, t' v σ H Q → t v σ H Q) : PGs X e t' := ⟨fun pins s σ H v u Q I r q => h.run pins s σ H v u Q I r (i _ _ _ _ q)⟩
theorem PS.imp {X : Cx} {e : Stmt} {t t' : TS} (h : PS X e t) (i : ∀ D σ H, t' D σ H → t D σ H) : PS X e t' := ⟨fun pins s σ H D I q => h.run pins s σ H D I (i _ _ _ q)⟩
theorem PSs.imp {X : Cx} {e : List Stmt} {t t' : TS} (h : PSs X e t) (i : ∀ D σ H, t' D σ H → t D σ H) : PSs X e t' := ⟨fun pins s σ H D I q => h.run pins s σ H D I (i _ _ _ q)⟩
theorem PI.imp {X : Cx} {tg e : Expr} {t t' : TI} (h : PI X tg e t) (i : ∀ σ H R, t' σ H R → t σ H R) : PI X tg e t' := ⟨fun pins s σ H R I q => h.run pins s σ H R I (i _ _ _ q)⟩
theorem PI.or {X : Cx} {tg e : Expr} {t t' : TI} (h : PI X tg e t) (h' : PI X tg e t') : PI X tg e (fun σ H R => t σ H R ∨ t' σ H R) := ⟨fun pins s σ H R I q => q.elim (h.run pins s σ H R I) (h'.run pins s σ H R I)⟩
section
variable {X : Cx} {ca : Ct} {W : WX} {e tg : Expr} {es : List Expr} {pos : Pos} {g : GE} {st : Stmt} {sts : List Stmt} {b b' : GS}
def dName (i : Nat) : TD := fun d ρ => some (ρ.set i (some d))
theorem jg_name (i : Nat) {x : Str} (hN : X.N.Nodup) (hi : X.N[i]? = some x := by rfl) (hx : Loc X.env.scope x := by first | exact Or.inl rfl | exact Or.inr rfl) (hf : X.fn x = true ∨ X.env.scope.names.lookup x = some .local := by first | exact .inl rfl | exact .inr rfl) : JG X ca (.Name x pos) (dName i) :=
  PG.imp (pg_name (i := i) hN hi hx hf) fun v σ H Q ⟨ι, ρ, s, d, ρ', hr, hm, rd, e, q⟩ => by
    cases e
    exact q ι _ H .refl hm (hr.set rd i)
def dsNil : List D → Env → Option Env := fun ds ρ => match ds with | [] => some ρ | _ => none
def dsCons (t : TD) (r : List D → Env → Option Env) : List D → Env → Option Env := fun ds ρ => match ds with | d :: ds => (t d ρ).bind (r ds) | _ => none
theorem jgs_nil : JGs X ca [] dsNil := PGs.imp pgs_nil fun v σ H Q ⟨ι, ρ, s, ds, ρ', hr, hm, rs, e, q⟩ => by
  cases rs with
  | nil => cases e; exact ⟨rfl, q ι _ H .refl hm hr⟩
  | cons _ _ => cases e
theorem jgs_cons {t : TD} {r : List D → Env → Option Env} (h1 : JG X ca e t) (h2 : JGs X ca es r) (hs : (assignEach (e :: es) X.env).map (·.2) = assign e X.env :: (assignEach es X.env).map (·.2) := by rfl) : JGs X ca (e :: es) (dsCons t r) :=
  PGs.imp (pgs_cons h1 h2 hs) fun v σ H Q ⟨ι, ρ, s, ds, ρ', hr, hm, rs, e, q⟩ => by
    cases rs with
    | nil => cases e
    | cons rd rs =>
      simp only [dsCons, Option.bind_eq_some_iff] at e
      obtain ⟨ρ1, e1, e2⟩ := e
      exact ⟨_, _, rfl, ι, ρ, s, _, ρ1, hr, hm, rd, e1, fun ι1 σ1 H1 l1 m1 r1 => ⟨ι1, ρ1, s, _, ρ', r1, m1, rs.mono l1, e2, fun ι2 σ2 H2 l2 m2 r2 => q ι2 σ2 H2 (l1.trans l2) m2 r2⟩⟩
def dTup (n : Nat) (t : List D → Env → Option Env) : TD := fun d ρ => match d with | .tup ds => if ds.length = n then t ds ρ else none | _ => none
theorem jg_tup {t : List D → Env → Option Env} {k n : Nat} (hc : X.calm = true) (h : JGs X ca es t) (hn : (assignEach es X.env).length = n := by rfl) (hst : (assignEach es X.env).findIdx? (·.1) = none := by rfl) : JG X ca (.Tuple es k pos) (dTup n t) :=
  PG.imp (pg_tup hc h hn hst) fun v σ H Q ⟨ι, ρ, s, d, ρ', hr, hm, rd, e, q⟩ => by
    cases rd with
    | tup h1 h2 =>
      simp only [dTup] at e
      split at e
      · rename_i hl
        exact ⟨_, _, rfl, h1.sq, by rw [← h2.length]; exact hl, ι, ρ, s, _, ρ', hr, hm, h2, e, q⟩
      · cases e
    | _ => simp [dTup] at e

/-! ### statements -/
def sNext : GS := fun ρ s => .ok (.nx ρ) s
def sSeq (a b : GS) : GS := fun ρ s => (a ρ s).bind fun f s1 => match f with | .nx ρ1 => b ρ1 s1 | f => .ok f s1
def sExpr (g : GE) : GS := fun ρ s => (g ρ s).bind fun _ s1 => .ok (.nx ρ) s1
def sRet (g : GE) : GS := fun ρ s => (g ρ s).bind fun d s1 => .ok (.rt d) s1
def sRetN : GS := fun _ s => .ok (.rt .non) s
def sAsg (g : GE) (t : TD) : GS := fun ρ s => (g ρ s).bind fun d s1 => match t d ρ with | some ρ1 => .ok (.nx ρ1) s1 | none => .no
def sIf (t : GT) (a b : GS) : GS := fun ρ s => (t ρ s).bind fun k s1 => if k then a ρ s1 else b ρ s1
def sBreak : GS := fun ρ s => .ok (.bk ρ) s
def sCont : GS := fun ρ s => .ok (.ct ρ) s
theorem jss_nil : JSs X ca W [] sNext := PSs.imp pss_nil fun D σ H ⟨ι, ρ, s, hr, hm, h⟩ => h ι σ H .refl hm hr
theorem jss_cons (h1 : JS X ca W st b) (h2 : JSs X ca W sts b') : JSs X ca W (st :: sts) (sSeq b b') := PSs.imp (pss_cons h1 h2) fun D σ H ⟨ι, ρ, s, hr, hm, h⟩ => by
  refine ⟨ι, ρ, s, hr, hm, ?_⟩
  unfold sSeq at h
  cases e : b ρ s with
  | ok f s1 =>
    rw [e] at h
    cases f with
    | nx ρ1 => exact fun ι' σ' H' l m r => ⟨ι', ρ1, s1, r, m, PostS.mono h l⟩
    | rt d => exact h
    | bk ρ1 => exact h
    | ct ρ1 => exact h
  | err x s1 => rw [e] at h; exact h
  | no => rw [e] at h; exact h
theorem jss_one (h1 : JS X ca W st b) : JSs X ca W [st] b := pss_one h1
theorem js_pass : JS X ca W (.Pass pos) sNext := PS.imp ps_pass fun D σ H ⟨ι, ρ, s, hr, hm, h⟩ => h ι σ H .refl hm hr
theorem js_break : JS X ca W (.Break pos) sBreak := PS.imp ps_break fun D σ H ⟨ι, ρ, s, hr, hm, h⟩ => h ι σ H .refl hm hr
theorem js_cont : JS X ca W (.Continue pos) sCont := PS.imp ps_continue fun D σ H ⟨ι, ρ, s, hr, hm, h⟩ => h ι σ H .refl hm hr
theorem js_expr (h : JE X ca W e g) (hs : swapsWith e none pos.line X.env = pure false := by rfl) : JS X ca W (.Expr e pos) (sExpr g) := PS.imp (ps_expr h hs) fun D σ H ⟨ι, ρ, s, hr, hm, h⟩ =>
  bindE famS hr hm h fun ι1 s1 d v H1 l1 hr1 hm1 rd h1 => h1 ι1 σ H1 .refl hm1 hr1
theorem js_ret (h : JE X ca W e g) : JS X ca W (.Return (some e) pos) (sRet g) := PS.imp (ps_ret h) fun D σ H ⟨ι, ρ, s, hr, hm, h⟩ =>
  bindE famS hr hm h fun ι1 s1 d v H1 l1 hr1 hm1 rd h1 => h1 ι1 v H1 .refl hm1 rd
theorem js_retN : JS X ca W (.Return none pos) sRetN := PS.imp ps_retN fun D σ H ⟨ι, ρ, s, hr, hm, h⟩ => h ι _ H .refl hm .non
theorem js_set (i : Nat) {x : Str} {pos' : Pos} (hN : X.N.Nodup) (he : JE X ca W e g) (hi : X.N[i]? = some x := by rfl) (hx : Loc X.env.scope x := by first | exact Or.inl rfl | exact Or.inr rfl) (hs : swapsWith e (some (.Name x pos')) pos.line X.env = pure false := by rfl)
    (hf : X.fn x = true ∨ X.env.scope.names.lookup x = some .local := by first | exact .inl rfl | exact .inr rfl) : JS X ca W (.Assign [.Name x pos'] e pos) (sAsg g (dName i)) := PS.imp (ps_set (i := i) hN hi hx he hs hf) fun D σ H ⟨ι, ρ, s, hr, hm, h⟩ =>
  bindE famS hr hm h fun ι1 s1 d v H1 l1 hr1 hm1 rd h1 => h1 ι1 _ H1 .refl hm1 (hr1.set rd i)
theorem js_asg {t : TD} (he : JE X ca W e g) (hg : JG X ca tg t) (hs : swapsWithSole [tg] e pos.line X.env = pure false := by rfl) (hw : swappedStores [tg] e X.env = pure none := by rfl)
    (h1 : (assignEach [tg] X.env).map (·.2) = [assign tg X.env] := by rfl) : JS X ca W (.Assign [tg] e pos) (sAsg g t) := PS.imp (ps_asg he hg hs hw h1) fun D σ H ⟨ι, ρ, s, hr, hm, h⟩ =>
  bindE famS hr hm h fun ι1 s1 d v H1 l1 hr1 hm1 rd h1 => by
    cases e : t d ρ with
    | none => rw [e] at h1; exact h1.elim
    | some ρ' => rw [e] at h1; exact ⟨ι1, ρ, s1, d, ρ', hr1, hm1, rd, e, fun ι' σ' H' l m r => h1 ι' σ' H' l m r⟩
def sPar (i j : Nat) (gr : GA) : GS := fun ρ s => (gr ρ s).bind fun ds s1 => match ds with | [d, e] => .ok (.nx ((ρ.set i (some d)).set j (some e))) s1 | _ => .no
theorem js_par (i j : Nat) {x y : Str} {a c : Expr} {gr : GA} {px py pt : Pos} {kt k2 pt2} (hc : X.calm = true) (hN : X.N.Nodup) (ha : JA X ca W [a, c] gr) (hi : X.N[i]? = some x := by rfl) (hj : X.N[j]? = some y := by rfl) (hij : i ≠ j := by decide)
    (hx : X.env.scope.names.lookup x = some .local := by rfl) (hy : X.env.scope.names.lookup y = some .local := by rfl)
    (hw : swappedStores [.Tuple [.Name x px, .Name y py] kt pt] (.Tuple [a, c] k2 pt2) X.env = pure (some [x, y]) := by rfl)
    (hs : swapsWithSole [.Tuple [.Name x px, .Name y py] kt pt] (.Tuple [a, c] k2 pt2) pos.line X.env = pure false := by rfl) :
    JS X ca W (.Assign [.Tuple [.Name x px, .Name y py] kt pt] (.Tuple [a, c] k2 pt2) pos) (sPar i j gr) := PS.imp (ps_par hc hN hi hj hij hx hy ha hw hs) fun D σ H ⟨ι, ρ, s, hr, hm, h⟩ =>
  bindA famS hr hm h fun ι1 s1 ds vs H1 l1 hr1 hm1 rs h1 => by
    cases rs with
    | nil => exact h1.elim
    | cons r1 rs =>
      cases rs with
      | nil => exact h1.elim
      | cons r2 rs =>
        cases rs with
        | nil => exact ⟨_, _, rfl, h1 ι1 _ H1 .refl hm1 ((hr1.set r1 i).set r2 j)⟩
        | cons _ _ => exact h1.elim
theorem js_if {c : Expr} {t : GT} {sa sb : List Stmt} (hc : JT X ca W c t) (ha : JSs X ca W sa b) (hb : JSs X ca W sb b') : JS X ca W (.If c sa sb pos) (sIf t b b') := PS.imp (ps_if hc ha hb) fun D σ H ⟨ι, ρ, s, hr, hm, h⟩ =>
  bindT famS hr hm h fun ι1 s1 k H1 l1 hr1 hm1 h1 => by
    cases k with
    | true => rw [if_pos rfl]; exact ⟨ι1, ρ, s1, hr1, hm1, h1⟩
    | false => rw [if_neg Bool.false_ne_true]; exact ⟨ι1, ρ, s1, hr1, hm1, h1⟩

/-! ### what is walked -/
/-- the iterator yields these, as long as what stands stands -/
def ItJ (K : PySem.W.Frag) (ι : Wd) (H : Hp) (J : It) (ds : List D) : Prop := ∀ ι' H', Le ι H ι' H' →
  (∀ i d, ds[i]? = some d → J.go i H' ∧ ∀ x H'', J.yld i H' x H'' → H'' = H' ∧ Rep K ι' H' d x) ∧ ∀ i, ds.length ≤ i → J.stop i H'
def PostI (K : PySem.W.Frag) (ca : Ct) (ι : Wd) (H : Hp) (r : R (List D)) (Q : It → Hp → Prop) (E : XK) : Prop := match r with
  | .ok ds s' => ∀ ι' J H', Le ι H ι' H' → Sim K ca ι' s' H' → ItJ K ι' H' J ds → Q J H'
  | .err e s' => ∀ ι' cv dd H', Le ι H ι' H' → Sim K ca ι' s' H' → RepX K ca ι' H' e cv dd → E cv dd H'
  | .no => False
theorem famI {K : PySem.W.Frag} {E : XK} {Q : It → Hp → Prop} : Fam K ca E (fun ι H r => PostI K ca ι H r Q E) := ⟨fun {ι H ι' H' r} h l => by
  cases r with
  | ok d s => exact fun ι2 v H2 l2 m q => h ι2 v H2 (l.trans l2) m q
  | err e s => exact fun ι2 cv dd H2 l2 m q => h ι2 cv dd H2 (l.trans l2) m q
  | no => exact h, fun h => h, fun h => h⟩
def tI (K : PySem.W.Frag) (ca : Ct) (W : WX) (g : GA) : TI := fun σ H R => ∃ ι ρ s, RelS K ι H ρ σ ∧ Sim K ca ι s H ∧ PostI K ca ι H (g ρ s) R (fun cv dd H' => W cv dd σ H')
def JI (X : Cx) (ca : Ct) (W : WX) (tg e : Expr) (g : GA) : Prop := PI X tg e (tI X.K ca W g)
def itemsF : D → Option (List D)
  | .lst ds => some ds
  | .frz ds => some ds
  | .tup ds => some ds
  | _ => none
def gItems (g : GE) : GA := fun ρ s => (g ρ s).bind fun d s1 => R.ofO (itemsF d) s1
theorem itJ_list {K : PySem.W.Frag} {ι : Wd} {H : Hp} {a : Addr} {vs : List V} {ds : List D} (h : ∀ ι' H', Le ι H ι' H' → SqL K H' a vs) (u : ∀ ι' H' ys, Le ι H ι' H' → SqL K H' a ys → ys = vs) (r : Reps K ι H ds vs) : ItJ K ι H (Itl K a) ds := fun ι' H' l =>
  ⟨fun i d hd => let ⟨x, hx, _⟩ := r.get hd; ⟨⟨vs, x, h ι' H' l, hx⟩, fun y H'' ⟨e, q⟩ => ⟨e, by
    have hy := q vs (h ι' H' l)
    obtain ⟨d', h1, h2⟩ := r.getV hy
    rw [hd] at h1; cases h1
    exact h2.mono l⟩⟩, fun i hi => ⟨vs, h ι' H' l, by rw [← r.length]; exact hi⟩⟩
theorem itJ_tup {K : PySem.W.Frag} {ι : Wd} {H : Hp} {a : Addr} {vs : List V} {ds : List D} (h : ∀ ι' H', Le ι H ι' H' → SqT K H' a vs) (r : Reps K ι H ds vs) : ItJ K ι H (Itt K a) ds := fun ι' H' l =>
  ⟨fun i d hd => let ⟨x, hx, _⟩ := r.get hd; ⟨⟨vs, x, h ι' H' l, hx⟩, fun y H'' ⟨e, q⟩ => ⟨e, by
    have hy := q vs (h ι' H' l)
    obtain ⟨d', h1, h2⟩ := r.getV hy
    rw [hd] at h1; cases h1
    exact h2.mono l⟩⟩, fun i hi => ⟨vs, h ι' H' l, by rw [← r.length]; exact hi⟩⟩
theorem ji_seq (h : JE X ca W e g) : JI X ca W tg e (gItems g) := by
  refine PI.imp (PI.or (pi_list h) (pi_tup h)) fun σ H R ⟨ι, ρ, s, hr, hm, h⟩ => ?_
  unfold gItems at h
  cases e : g ρ s with
  | err x s1 =>
    rw [e] at h
    exact .inl ⟨ι, ρ, s, hr, hm, by rw [e]; exact h⟩
  | no => rw [e] at h; exact h.elim
  | ok d s1 =>
    rw [e] at h
    have bnd : ∀ (T : VK), (∀ ι' v H', Le ι H ι' H' → Sim X.K ca ι' s1 H' → Rep X.K ι' H' d v → PostI X.K ca ι' H' (J.R.ofO (itemsF d) s1) R (fun cv dd H' => W cv dd σ H') → T v H') → tG X.K ca W g σ H T := fun T k =>
      ⟨ι, ρ, s, hr, hm, by rw [e]; exact fun ι' v H' l m r => k ι' v H' l m r (famI.mono h l)⟩
    cases d with
    | tup ds =>
      refine .inr (bnd (fun x H1 => ∃ a, x = .ref a ∧ (∃ xs, SqT X.K H1 a xs) ∧ R (Itt X.K a) H1) fun ι' v H' l m r q => ?_)
      obtain ⟨a, vs, rfl, h1, h2⟩ := r.tupOf
      exact ⟨a, rfl, ⟨vs, h1.sq⟩, q ι' _ H' .refl m (itJ_tup (fun _ _ l2 => (l2.toKe.tupAt h1).sq) h2)⟩
    | lst ds =>
      refine .inl (bnd (fun x H1 => ∃ a, x = .ref a ∧ (∃ xs, SqL X.K H1 a xs) ∧ R (Itl X.K a) H1) fun ι' v H' l m r q => ?_)
      cases r with
      | lst h1 hn h2 =>
        refine ⟨_, rfl, ⟨_, SqL.of h1⟩, q ι' _ H' .refl m ?_⟩
        intro ι2 H2 l2
        have h3 := (l2.keep _ _ h1 noTab_lst hn).1
        refine ⟨fun i d hd => let ⟨x, hx, rx⟩ := h2.get hd; ⟨⟨_, x, SqL.of h3, hx⟩, fun y H'' ⟨e, q⟩ => ⟨e, ?_⟩⟩, fun i hi => ⟨_, SqL.of h3, by rw [← h2.length]; exact hi⟩⟩
        have hy := q _ (SqL.of h3)
        rw [hx] at hy; cases hy
        exact rx.mono l2
    | frz ds =>
      refine .inl (bnd (fun x H1 => ∃ a, x = .ref a ∧ (∃ xs, SqL X.K H1 a xs) ∧ R (Itl X.K a) H1) fun ι' v H' l m r q => ?_)
      cases r with
      | frz h1 h2 =>
        refine ⟨_, rfl, ⟨_, h1.sq⟩, q ι' _ H' .refl m ?_⟩
        intro ι2 H2 l2
        have h3 := l2.toKe.frzAt h1
        refine ⟨fun i d hd => let ⟨x, hx, rx⟩ := h2.get hd; ⟨⟨_, x, h3.sq, hx⟩, fun y H'' ⟨e, q⟩ => ⟨e, ?_⟩⟩, fun i hi => ⟨_, h3.sq, by rw [← h2.length]; exact hi⟩⟩
        have hy := q _ h3.sq
        rw [hx] at hy; cases hy
        exact rx.mono l2
      | frz2 h1 hn h2 =>
        refine ⟨_, rfl, ⟨_, SqL.of h1⟩, q ι' _ H' .refl m ?_⟩
        intro ι2 H2 l2
        have h3 := (l2.keep _ _ h1 noTab_lst hn).1
        refine ⟨fun i d hd => let ⟨x, hx, rx⟩ := h2.get hd; ⟨⟨_, x, SqL.of h3, hx⟩, fun y H'' ⟨e, q⟩ => ⟨e, ?_⟩⟩, fun i hi => ⟨_, SqL.of h3, by rw [← h2.length]; exact hi⟩⟩
        have hy := q _ (SqL.of h3)
        rw [hx] at hy; cases hy
        exact rx.mono l2
    | _ => exact h.elim
/-- the ints lo, lo + 1, .. below hi -/
def rangeD (lo hi : Int) : List D := (List.range (hi - lo).toNat).map fun (k : Nat) => D.int (lo + k)
def okR (i : Int) : Bool := decide (-(2 ^ 62) ≤ i) && decide (i < 2 ^ 62)
def gRange1 (gr : GA) : GA := fun ρ s => (gr ρ s).bind fun ds s1 => match ds with | [.int j] => if okR j then .ok (rangeD 0 j) s1 else .no | _ => .no
def gRange2 (gr : GA) : GA := fun ρ s => (gr ρ s).bind fun ds s1 => match ds with | [.int i, .int j] => if okR i && okR j then .ok (rangeD i j) s1 else .no | _ => .no
theorem itJ_range {K : PySem.W.Frag} {ι : Wd} {H : Hp} {lo hi : Int} : ItJ K ι H (Itr lo (hi - lo).toNat) (rangeD lo hi) := by
  intro ι' H' l
  refine ⟨fun i d hd => ?_, fun i h => by
    rw [rangeD, List.length_map, List.length_range] at h; exact h⟩
  · 
    unfold rangeD at hd
    rw [List.getElem?_map] at hd
    by_cases hi' : i < (hi - lo).toNat
    · rw [List.getElem?_range hi'] at hd
      cases hd
      exact ⟨hi', fun y H'' ⟨e, q⟩ => ⟨e, by rw [q]; exact .int _⟩⟩
    · rw [List.getElem?_eq_none (by simpa using hi')] at hd
      cases hd
theorem ji_range1 {a : Expr} {gr : GA} {p : Pos} (hm : X.mg "range" = none) (ha : JA X ca W [a] gr) (hg : Gl X "range" := by rfl) (hs : starEach [a] X.env = [(false, eval a X.env)] := by rfl) : JI X ca W tg (.Call (.Name "range" p) [a] [] pos) (gRange1 gr) := by
  refine PI.imp (pi_range1 hg hm ha hs) fun σ H R ⟨ι, ρ, s, hr, hm, h⟩ => bindA famI hr hm h fun ι1 s1 ds vs H1 l1 hr1 hm1 rs h1 => ?_
  split at h1
  · split at h1
    · rename_i hk
      cases rs with
      | cons r1 rs =>
        cases rs
        cases r1
        simp only [okR, Bool.and_eq_true, decide_eq_true_eq] at hk
        refine ⟨_, rfl, hk.1, hk.2, h1 ι1 _ H1 .refl hm1 ?_⟩
        have := itJ_range (K := X.K) (ι := ι1) (H := H1) (lo := 0) (hi := ‹Int›)
        rwa [Int.sub_zero] at this
    · exact h1.elim
  · exact h1.elim
theorem ji_range2 {a c : Expr} {gr : GA} {p : Pos} (hm : X.mg "range" = none) (ha : JA X ca W [a, c] gr) (hg : Gl X "range" := by rfl) (hs : starEach [a, c] X.env = [(false, eval a X.env), (false, eval c X.env)] := by rfl) (hs2 : starEach [c] X.env = [(false, eval c X.env)] := by rfl) :
    JI X ca W tg (.Call (.Name "range" p) [a, c] [] pos) (gRange2 gr) := by
  refine PI.imp (pi_range2 hg hm ha hs hs2) fun σ H R ⟨ι, ρ, s, hr, hm, h⟩ => bindA famI hr hm h fun ι1 s1 ds vs H1 l1 hr1 hm1 rs h1 => ?_
  split at h1
  · split at h1
    · rename_i hk
      cases rs with
      | cons r1 rs =>
        cases rs with
        | cons r2 rs =>
          cases rs
          cases r1
          cases r2
          simp only [okR, Bool.and_eq_true, decide_eq_true_eq] at hk
          exact ⟨_, _, rfl, ⟨hk.1.1, hk.1.2, hk.2.1, hk.2.2⟩, h1 ι1 _ H1 .refl hm1 itJ_range⟩
    · exact h1.elim
  · exact h1.elim

/-! ### for -/
def forLoop (t : TD) (b : GS) : List D → Env → S → R Fl
  | [], ρ, s => .ok (.nx ρ) s
  | x :: xs, ρ, s => match t x ρ with
    | none => .no
    | some ρ1 => (b ρ1 s).bind fun f s1 => match f with
      | .nx ρ2 => forLoop t b xs ρ2 s1
      | .ct ρ2 => forLoop t b xs ρ2 s1
      | .bk ρ2 => .ok (.nx ρ2) s1
      | .rt d => .ok (.rt d) s1
def sFor (t : TD) (gi : GA) (b : GS) : GS := fun ρ s => (gi ρ s).bind fun ds s1 => forLoop t b ds ρ s1
theorem js_for {iter : Expr} {body : List Stmt} {gi : GA} {t : TD} (hp : PassesOwn (model X.prog X.w) X.A X.env X.xe) (hc : X.calm = true) (hi : JI X ca W tg iter gi) (hg : JG X ca tg t) (hb : JSs X ca W body b) (hs : ∀ x, foldedSetIterable iter X.env x = pure x := by intro _; rfl) :
    JS X ca W (.For tg iter body [] pos) (sFor t gi b) := by
  refine PS.imp (ps_for hp hc hi hg hb hs) fun D σ H ⟨ι, ρ, s, hr, hm, h⟩ => ?_
  refine ⟨ι, ρ, s, hr, hm, ?_⟩
  unfold sFor at h
  cases e : gi ρ s with
  | err x s1 => rw [e] at h; exact fun ι' cv dd H' l m q => h ι' cv dd H' σ l m q
  | no => rw [e] at h; exact h
  | ok ds s1 =>
    rw [e] at h
    intro ι1 J H1 l1 hm1 it
    refine ⟨fun i m σ' H' => m = ds.length - i ∧ ∃ ι' ρ' s', Le ι1 H1 ι' H' ∧ RelS X.K ι' H' ρ' σ' ∧ Sim X.K ca ι' s' H' ∧ PostS X.K ca ι H W (forLoop t b (ds.drop i) ρ' s') D, ⟨_, rfl, ι1, ρ, s1, .refl, hr.mono l1, hm1, h⟩, ?_⟩
    rintro i m σ' H' ⟨rfl, ι', ρ', s', l', hr', hm', h'⟩
    obtain ⟨i1, i2⟩ := it ι' H' l'
    have l0 := l1.trans l'
    by_cases hlt : i < ds.length
    · have hd : ds[i]? = some ds[i] := List.getElem?_eq_getElem hlt
      obtain ⟨g1, g2⟩ := i1 i _ hd
      refine .inr ⟨g1, fun σ2 H2 => ∃ ι2 ρ2 s2, Le ι1 H1 ι2 H2 ∧ RelS X.K ι2 H2 ρ2 σ2 ∧ Sim X.K ca ι2 s2 H2 ∧ PostS X.K ca ι H W (forLoop t b (ds.drop (i + 1)) ρ2 s2) D, fun σ2 H2 w => ⟨_, by omega, rfl, w⟩, fun x H2 y => ?_⟩
      obtain ⟨rfl, rx⟩ := g2 x H2 y
      rw [List.drop_eq_getElem_cons hlt] at h'
      unfold forLoop at h'
      cases e2 : t ds[i] ρ' with
      | none => rw [e2] at h'; exact h'.elim
      | some ρ2 =>
        rw [e2] at h'
        refine ⟨ι', ρ', s', _, ρ2, hr', hm', rx, e2, fun ι3 σ3 H3 l3 m3 r3 => ⟨ι3, ρ2, s', r3, m3, ?_⟩⟩
        simp only at h'
        cases e3 : b ρ2 s' with
        | err x s4 => rw [e3] at h'; exact PostS.mono (show PostS X.K ca ι H W (.err x s4) _ from h') (l0.trans l3)
        | no => rw [e3] at h'; exact h'
        | ok f s4 =>
          rw [e3] at h'
          cases f with
          | nx ρ4 => exact fun ι4 σ4 H4 l4 m4 r4 => ⟨ι4, ρ4, s4, (l'.trans l3).trans l4, r4, m4, h'⟩
          | ct ρ4 => exact fun ι4 σ4 H4 l4 m4 r4 => ⟨ι4, ρ4, s4, (l'.trans l3).trans l4, r4, m4, h'⟩
          | bk ρ4 => exact fun ι4 σ4 H4 l4 m4 r4 => h' ι4 σ4 H4 ((l0.trans l3).trans l4) m4 r4
          | rt d => exact fun ι4 v H4 l4 m4 r4 => h' ι4 v H4 ((l0.trans l3).trans l4) m4 r4
    · refine .inl ⟨i2 i (by omega), ?_⟩
      rw [List.drop_eq_nil_of_le (by omega)] at h'
      exact h' ι' σ' H' l0 hm' hr'

/-! ### list comprehensions -/
def noErr {α : Type} (r : R α) : R α := match r with | .err _ _ => .no | r => r
theorem noErr_ok {α : Type} {r : R α} {a : α} {s : S} (h : noErr r = .ok a s) : r = .ok a s := by
  cases r with
  | ok _ _ => exact h
  | err _ _ => cases h
  | no => cases h
def wipeD (vs : List Nat) (ρ : Env) : Env := vs.foldr (fun v l => l.set v none) ρ
def lcLoop (t : TD) (gt : GT) (ge : GE) (ρ : Env) : List D → S → R (List D)
  | [], s => .ok [] s
  | x :: xs, s => match t x ρ with
    | none => .no
    | some ρ1 => (noErr (gt ρ1 s)).bind fun b s1 => if b then (noErr (ge ρ1 s1)).bind fun y s2 => (lcLoop t gt ge ρ xs s2).bind fun ys s3 => .ok (y :: ys) s3 else lcLoop t gt ge ρ xs s1
def gLc (own : List Nat) (gi : GA) (t : TD) (gt : GT) (ge : GE) : GE := fun ρ s => (gi ρ s).bind fun ds s1 => if fitL ds.length then (lcLoop t gt ge (wipeD own ρ) ds s1).bind fun ys s2 => .ok (.lst ys) s2 else .no
def gYes : GT := fun _ s => .ok true s
def JTs (X : Cx) (ca : Ct) (W : WX) (ifs : List Expr) (g : GT) : Prop := PTs X ifs (tT X.K ca W g)
theorem jts_nil : JTs X ca W [] gYes := ⟨fun pins s σ H Q I ⟨ι, ρ, s', hr, hm, h⟩ => pts_nil.run pins s σ H Q I (h ι H .refl hm)⟩
theorem jts_one {c : Expr} {t : GT} (h : JT X ca W c t) : JTs X ca W [c] t := pts_one h
/-- a comprehension's target, told exactly -/
structure LcT (X : Cx) (own : List Nat) (tg : Expr) (g : TG) (t : TD) : Prop where
  pg : PG X tg g
  to : ∀ {K : PySem.W.Frag} {ι : Wd} {H : Hp} {ρ ρ' : Env} {σ : L2.St} {d : D} {v : V} {Q : L2.St → Hp → Prop}, RelS K ι H (wipeD own ρ) (wipe σ own) → Rep K ι H d v → t d (wipeD own ρ) = some ρ' →
    (∀ σ', RelS K ι H ρ' σ' → wipe σ' own = wipe σ own → Q σ' H) → g v (wipe σ own) H Q
theorem Le.updNone {ι ι' : Wd} {H H' : Hp} {p : Addr} {o : HO} (l : Le ι H ι' H') (h : H p = none) : Le ι H ι' (upd H' p o) :=
  ⟨⟨l.pre, fun a u q t n => ⟨by rw [upd_ne (ne_of_none q h)]; exact (l.keep a u q t n).1, (l.keep a u q t n).2⟩, fun a xs q => by rw [upd_ne (ne_of_none q h)]; exact l.tup a xs q, fun a xs u q => by rw [upd_ne (ne_of_none q h)]; exact l.frz a xs u q⟩,
    fun a u q t n => ⟨by rw [upd_ne (ne_of_none q h)]; exact (l.stay a u q t n).1, (l.stay a u q t n).2⟩, l.sub⟩
theorem Le.shutNone {ι ι' : Wd} {H H' : Hp} {p : Addr} (l : Le ι H ι' H') (h : H p = none) (hp : p ∉ ι.M) : Le ι H ⟨ι'.ι, ι'.M.filter (· ≠ p)⟩ H' :=
  ⟨⟨l.pre, fun a u q t n => ⟨(l.keep a u q t n).1, fun z => (l.keep a u q t n).2 (List.mem_filter.mp z).1⟩, l.tup, l.frz⟩, l.stay, fun a ha => List.mem_filter.mpr ⟨l.sub a ha, by
    simp only [ne_eq, decide_not, Bool.not_eq_true', decide_eq_false_iff_not]
    exact fun z => hp (z ▸ ha)⟩⟩
theorem tG_lc {ca : Ct} {K : PySem.W.Frag} {W : WX} {own : List Nat} {gi : GA} {t : TD} {gt : GT} {ge : GE} {tgt : TG} {σ : L2.St} {H : Hp} {Q : VK}
    (to : ∀ {ι : Wd} {H : Hp} {ρ ρ' : Env} {σ : L2.St} {d : D} {v : V} {Q : L2.St → Hp → Prop}, RelS K ι H (wipeD own ρ) (wipe σ own) → Rep K ι H d v → t d (wipeD own ρ) = some ρ' → (∀ σ', RelS K ι H ρ' σ' → wipe σ' own = wipe σ own → Q σ' H) → tgt v (wipe σ own) H Q)
    (h : tG K ca W (gLc own gi t gt ge) σ H Q) : tLc (tI K ca W gi) tgt (tT K ca W0 gt) (tG K ca W0 ge) own σ H Q := by
  obtain ⟨ι, ρ, s, hr, hm, h⟩ := h
  refine ⟨ι, ρ, s, hr, hm, ?_⟩
  unfold gLc at h
  cases e : gi ρ s with
  | err x s1 => rw [e] at h; exact h
  | no => rw [e] at h; exact h
  | ok ds s1 =>
    rw [e] at h
    intro ι1 J H1 l1 hm1 it Da hDa
    simp only [R.bind_ok] at h
    split at h
    · rename_i hfit
      obtain ⟨lo, mo⟩ := hm1.open (o := .lst []) hDa trivial
      have nι : Da ∉ ι1.ι := fun z => hm1.ne hDa (hm1.sub _ z)
      -- the invariant
      refine ⟨fun i m H' => m = ds.length - i ∧ ∃ ι' s' acc vs, Le ι1 H1 ι' H' ∧ Da ∈ ι'.M ∧ Da ∉ ι'.ι ∧ Sim K ca ι' s' H' ∧ H' Da = some (.lst vs) ∧ Reps K ι' H' acc vs ∧ acc.length ≤ i ∧
        PostE K ca ι H ((lcLoop t gt ge (wipeD own ρ) (ds.drop i) s').bind fun ys s2 => .ok (.lst (acc ++ ys)) s2) Q (fun cv dd H' => W cv dd σ H'), ⟨_, rfl, ⟨ι1.ι, Da :: ι1.M⟩, s1, [], [], lo, List.mem_cons_self, nι, mo, upd_same, .nil, Nat.le_refl _, h⟩, ?_⟩
      rintro i m H' ⟨rfl, ι', s', acc, vs, l', hDM, hDι, hm', hD', hacc, hlen, h'⟩
      obtain ⟨i1, i2⟩ := it ι' H' l'
      have l0 := l1.trans l'
      by_cases hlt : i < ds.length
      · have hd : ds[i]? = some ds[i] := List.getElem?_eq_getElem hlt
        obtain ⟨g1, g2⟩ := i1 i _ hd
        refine .inr ⟨g1, fun H2 => ∃ ι' s' acc vs, Le ι1 H1 ι' H2 ∧ Da ∈ ι'.M ∧ Da ∉ ι'.ι ∧ Sim K ca ι' s' H2 ∧ H2 Da = some (.lst vs) ∧ Reps K ι' H2 acc vs ∧ acc.length ≤ i + 1 ∧
          PostE K ca ι H ((lcLoop t gt ge (wipeD own ρ) (ds.drop (i + 1)) s').bind fun ys s2 => .ok (.lst (acc ++ ys)) s2) Q (fun cv dd H' => W cv dd σ H'), fun H2 w => ⟨_, by omega, rfl, w⟩, fun x H2 y => ?_⟩
        obtain ⟨rfl, rx⟩ := g2 x H2 y
        rw [List.drop_eq_getElem_cons hlt] at h'
        unfold lcLoop at h'
        cases e2 : t ds[i] (wipeD own ρ) with
        | none => rw [e2] at h'; exact h'.elim
        | some ρ2 =>
          rw [e2] at h'
          simp only at h'
          refine to ((hr.mono l0).wipe own) rx e2 fun σ2 hr2 hw2 => ⟨hw2, ι', ρ2, s', hr2, hm', ?_⟩
          cases e3 : gt ρ2 s' with
          | err x s4 => rw [e3] at h'; exact h'.elim
          | no => rw [e3] at h'; exact h'.elim
          | ok k s4 =>
            rw [e3] at h'
            simp only [noErr, R.bind_ok] at h'
            intro ι3 H3 l3 m3
            have d3 := l3.stay _ _ hD' noTab_lst hDι
            cases k with
            | false =>
              rw [if_neg Bool.false_ne_true]
              simp only [Bool.false_eq_true, if_false] at h'
              exact ⟨ι3, s4, acc, vs, l'.trans l3, l3.sub _ hDM, d3.2, m3, d3.1, hacc.mono l3, by omega, h'⟩
            | true =>
              rw [if_pos rfl]
              simp only [if_true] at h'
              refine ⟨ι3, ρ2, s4, hr2.mono l3, m3, ?_⟩
              cases e4 : ge ρ2 s4 with
              | err x s5 => rw [e4] at h'; exact h'.elim
              | no => rw [e4] at h'; exact h'.elim
              | ok y s5 =>
                rw [e4] at h'
                simp only [R.bind_ok] at h'
                intro ι4 v4 H4 l4 m4 r4
                have d4 := l4.stay _ _ d3.1 noTab_lst d3.2
                obtain ⟨kf, mf⟩ := m4.fill (o := .lst (vs ++ [v4])) (l4.sub _ (l3.sub _ hDM)) d4.2 trivial
                have hv : vs.length = acc.length := (hacc.length).symm
                refine ⟨vs, d4.1, ?_, ι4, s5, acc ++ [y], vs ++ [v4], ((l'.trans l3).trans l4).updNone hDa, l4.sub _ (l3.sub _ hDM), d4.2, mf, upd_same, (Reps.monoK kf ((hacc.mono l3).mono l4)).append (.cons (Rep.monoK kf r4) .nil), by simp; omega, ?_⟩
                · have := fitL_le hfit
                  omega
                · cases e5 : lcLoop t gt ge (wipeD own ρ) (ds.drop (i + 1)) s5 with
                  | ok ys s6 => rw [e5] at h'; simpa using h'
                  | err x s6 => rw [e5] at h'; exact h'
                  | no => rw [e5] at h'; exact h'
      · refine .inl ⟨i2 i (by omega), ?_⟩
        rw [List.drop_eq_nil_of_le (by omega)] at h'
        simp only [lcLoop, R.bind_ok, List.append_nil] at h'
        obtain ⟨ls, ms⟩ := hm'.shut (p := Da) hDι
        exact h' _ _ H' (l1.trans (l'.shutNone hDa (hm1.ne hDa))) ms (.lst hD' (fun z => by simpa using (List.mem_filter.mp z).2) (Reps.monoK ls hacc))
    · exact h.elim

theorem je_lc {elt iter : Expr} {ifs : List Expr} {scope : Scope} {i : Nat} {x : Str} {tpos : Pos} {gi : GA} {gt : GT} {ge : GE} (hc : X.calm = true) (hN : X.N.Nodup) (hi : JI X ca W (.Name x tpos) iter gi) (ok : BlkOk X.N X.env.scope scope [(x, i)])
    (hg : ∀ (s : Shared) (H : Hp) (C : Addr) (cl : List (Str × Addr)) (fp : List Addr), PG (X.blk s H scope (compEnvC scope cl C X.env) fp) (.Name x tpos) (gName i))
    (ht : ∀ (s : Shared) (H : Hp) (C : Addr) (cl : List (Str × Addr)) (fp : List Addr), JTs (X.blk s H scope (compEnvC scope cl C X.env) fp) ca W0 ifs gt)
    (he : ∀ (s : Shared) (H : Hp) (C : Addr) (cl : List (Str × Addr)) (fp : List Addr), JE (X.blk s H scope (compEnvC scope cl C X.env) fp) ca W0 elt ge) (hs : ∀ x, foldedSetIterable iter X.env x = pure x := by intro _; rfl) :
    JE X ca W (.ListComp elt [⟨.Name x tpos, iter, ifs, 0⟩] scope pos) (gLc [i] gi (dName i) gt ge) :=
  PE.imp (pe_lc (own := [(x, i)]) (g := gName i) (wi := tI X.K ca W gi) (tt := tT X.K ca W0 gt) (te := tG X.K ca W0 ge) hc hN hi ok hg ht he hs) fun σ H Q h => tG_lc (own := [i]) (fun {ι H ρ ρ' σ d v Q} r rd e k => by
    cases e
    refine k _ (r.set rd i) ?_
    show ((wipe σ [i]).set i (some v)).set i none = (σ.set i none)
    show ((σ.set i none).set i (some v)).set i none = (σ.set i none)
    rw [List.set_set, List.set_set]) h

/-! ### defs -/
def spJ (K : PySem.W.Frag) (ca : Ct) (n : Nat) (F : List D → S → R D) : Sp := fun vs H Q E => ∃ ι ds s, Reps K ι H ds vs ∧ Sim K ca ι s H ∧ ds.length = n ∧ PostE K ca ι H (F ds s) Q E
def runF (n : Nat) (b : GS) : List D → S → R D := fun ds s => (b (ds.map some ++ List.replicate (n - ds.length) none) s).bind fun f s1 => match f with
  | .rt d => .ok d s1
  | .nx _ => .ok .non s1
  | _ => .no
theorem relS_start {K : PySem.W.Frag} {ι : Wd} {H : Hp} {ds : List D} {vs : List V} (N : List Str) (r : Reps K ι H ds vs) : RelS K ι H (ds.map some ++ List.replicate (N.length - ds.length) none) (L2.start N vs) := by
  have hl := r.length
  refine ⟨by simp [L2.start, hl], fun i d h => ?_⟩
  by_cases hi : i < ds.length
  · rw [List.getElem?_append_left (by simpa using hi), List.getElem?_map] at h
    cases e : ds[i]? with
    | none => rw [e] at h; cases h
    | some x =>
      rw [e] at h
      cases h
      obtain ⟨v, h1, h2⟩ := r.get e
      refine ⟨v, ?_, h2⟩
      unfold L2.start
      rw [List.getElem?_append_left (by rw [List.length_map, ← hl]; exact hi), List.getElem?_map, h1]
      rfl
  · rw [List.getElem?_append_right (by simpa using hi), List.getElem?_replicate] at h
    split at h <;> cases h
theorem fnJ {P : Program} {w : World} {K : PySem.W.Frag} {mg : Str → Option Value} {base : Heap} {x qual : Str} {f : Addr} {fd : FuncData} {N ps : List Str} {k : Nat} (F : Fun K x qual st f fd) (Sc : FnScope N ps (defScope st))
    (hb : ∀ (cdv : Value) (A : Around) (outer : List PySem.Env) (s : Shared) (H : Hp) (E : XK), Room k (A.deeper (envOfC qual (defScope st) s.heap.objs.size f cdv)) →
      JSs (cxOf (L2.CX P w) P w K mg base N qual (defScope st) f cdv A outer s H E) ca (fun cls d _ H => E cls d H) (defBody st) b) : FnOk P w K mg base (L2.CX P w) (k + 1) f fd ps (spJ K ca ps.length (runF N.length b)) := by
  refine F.okX Sc (fun vs H Q E ⟨ι, ds, s, hr, hm, hl, h⟩ => by rw [← hr.length, hl]) (fun cdv A outer s H vs Q E hr h => ⟨_, hb cdv A outer s H E hr, ?_⟩)
  obtain ⟨ι, ds, s', hrs, hm, hl, h⟩ := h
  refine ⟨ι, _, s', relS_start N hrs, hm, ?_⟩
  unfold runF at h
  cases e : b (ds.map some ++ List.replicate (N.length - ds.length) none) s' with
  | err y s1 => rw [e] at h; exact fun ι' cv dd H' σ' l m q => h ι' cv dd H' l m q
  | no => rw [e] at h; exact h
  | ok fl s1 =>
    rw [e] at h
    cases fl with
    | rt d => exact h
    | nx ρ => exact fun ι' σ' H' l m r => h ι' .non H' l m .non
    | bk ρ => exact h.elim
    | ct ρ => exact h.elim
/-- a def of the module, by its mirror -/
structure JFn (P : Program) (w : World) (K : PySem.W.Frag) (mg : Str → Option Value) (base : Heap) (ca : Ct) (k : Nat) (x : Str) (n : Nat) (F : List D → S → R D) : Prop where
  ex : ∃ f fd ps, mg x = some (.ref f) ∧ PySem.W.keepIn K (.ref f) = true ∧ Binds K fd ps [] ∧ ps.length = n ∧ FnOk P w K mg base (L2.CX P w) k f fd ps (spJ K ca n F)
theorem JFn.mono {P : Program} {w : World} {K : PySem.W.Frag} {mg : Str → Option Value} {base : Heap} {k j n : Nat} {x : Str} {F : List D → S → R D} (h : JFn P w K mg base ca k x n F) (l : k ≤ j) : JFn P w K mg base ca j x n F := by
  obtain ⟨f, fd, ps, a, b, c, d, e⟩ := h.ex
  exact ⟨f, fd, ps, a, b, c, d, e.mono l⟩
/-- another mirror that says no more -/
theorem JFn.imp {P : Program} {w : World} {K : PySem.W.Frag} {mg : Str → Option Value} {base : Heap} {k n : Nat} {x : Str} {F G : List D → S → R D} (h : JFn P w K mg base ca k x n F) (i : ∀ ds s, ds.length = n → G ds s = .no ∨ G ds s = F ds s) : JFn P w K mg base ca k x n G := by
  obtain ⟨f, fd, ps, a, b, c, d, e⟩ := h.ex
  refine ⟨f, fd, ps, a, b, c, d, e.imp fun vs H Q E ⟨ι, ds, s, hr, hm, hl, p⟩ => ⟨ι, ds, s, hr, hm, hl, ?_⟩⟩
  rcases i ds s hl with z | z
  · rw [z] at p; exact p.elim
  · rw [← z]; exact p
def gCall (n : Nat) (F : List D → S → R D) (gr : GA) : GE := fun ρ s => (gr ρ s).bind fun ds s1 => if ds.length = n then F ds s1 else .no
theorem je_call {x : Str} {p : Pos} {k n : Nat} {F : List D → S → R D} {gr : GA} (h : JFn X.prog X.w X.K X.mg X.base ca k x n F) (hr : Room k X.A) (tk : Takes X W) (ha : JA X ca W (e :: es) gr) (hg : Gl X x := by rfl) (hdb : (x == ("__debug__" : Str)) = false := by decide)
    (he : starEach (e :: es) X.env = (false, eval e X.env) :: starEach es X.env := by rfl) (hpl : (backTo pos (starEach es X.env)).any (·.1) = false := by rfl) : JE X ca W (.Call (.Name x p) (e :: es) [] pos) (gCall n F gr) := by
  obtain ⟨f, fd, ps, hm, hk, hb, hn, F⟩ := h.ex
  refine PE.imp (pe_callS F hr hg hm hk hb (fun σ => passAt tk σ) ha hdb he hpl) fun σ H Q ⟨ι, ρ, s, hrs, hms, h⟩ => bindA famE hrs hms h fun ι1 s1 ds vs H1 l1 hr1 hm1 rs h1 => ?_
  split at h1
  · rename_i hl
    exact ⟨ι1, ds, s1, rs, hm1, hl, h1⟩
  · exact h1.elim
/-- f() -/
theorem pe_callS0 {CX : CXT} {k : Nat} {f : Addr} {fd : FuncData} {ps : List Str} {sp : Sp} {E : L2.St → XK} {x : Str} {p : Pos} (F : FnOk X.prog X.w X.K X.mg X.base CX k f fd ps sp) (hr : Room k X.A) (hg : Gl X x) (hm : X.mg x = some (.ref f)) (hk : PySem.W.keepIn X.K (.ref f) = true) (hb : Binds X.K fd ps []) (hx : ∀ σ, PassesAt CX X σ (E σ))
    (hdb : (x == ("__debug__" : Str)) = false := by decide) : PE X (.Call (.Name x p) [] [] pos) (tCallS sp E tNil) := by
  refine ⟨fun pins s σ H Q I h => ?_⟩
  refine wpAny_Call_Name_kw (ld_glob I hg hm ?_ hdb)
  exact PySem.W.callWith_K0 I.kIn hk (run_fnS (us := []) F hr hb (hx σ) I .nil h)
theorem je_call0 {x : Str} {p : Pos} {k : Nat} {F : List D → S → R D} (h : JFn X.prog X.w X.K X.mg X.base ca k x 0 F) (hr : Room k X.A) (tk : Takes X W) (hg : Gl X x := by rfl) (hdb : (x == ("__debug__" : Str)) = false := by decide) : JE X ca W (.Call (.Name x p) [] [] pos) (gCall 0 F gaNil) := by
  obtain ⟨f, fd, ps, hm, hk, hb, hn, F⟩ := h.ex
  refine PE.imp (pe_callS0 F hr hg hm hk hb (fun σ => passAt tk σ) hdb) fun σ H Q ⟨ι, ρ, s, hrs, hms, h⟩ => ⟨ι, [], s, .nil, hms, rfl, h⟩
end
end J


set_option Elab.async false
set_option linter.all false
set_option maxRecDepth 100000
set_option maxHeartbeats 4000000
/-! J4: built-ins by values; slices; stores into lists. -/
namespace J
open PySem PySem.Spec L2

theorem bt_len : bootBuiltins "len" = some (.builtin "len") := by decide +kernel
theorem bt_isinstance : bootBuiltins "isinstance" = some (.builtin "isinstance") := by decide +kernel
theorem bt_all : bootBuiltins "all" = some (.builtin "all") := by decide +kernel
theorem bt_any : bootBuiltins "any" = some (.builtin "any") := by decide +kernel
theorem bt_sum : bootBuiltins "sum" = some (.builtin "sum") := by decide +kernel
theorem bt_min : bootBuiltins "min" = some (.builtin "min") := by decide +kernel
theorem bt_sorted : bootBuiltins "sorted" = some (.builtin "sorted") := by decide +kernel
theorem bt_int : bootBuiltins "int" = some (.type "int") := by decide +kernel
theorem bt_str : bootBuiltins "str" = some (.type "str") := by decide +kernel
theorem bt_bool : bootBuiltins "bool" = some (.type "bool") := by decide +kernel
theorem bt_tuple : bootBuiltins "tuple" = some (.type "tuple") := by decide +kernel
theorem bt_list : bootBuiltins "list" = some (.type "list") := by decide +kernel
theorem bt_dict : bootBuiltins "dict" = some (.type "dict") := by decide +kernel
theorem bt_set : bootBuiltins "set" = some (.type "set") := by decide +kernel

section
variable {K : PySem.W.Frag} {ca : Ct} {ι ι' : Wd} {H H' : Hp} {s : S}
/-! ### isinstance -/
def tyD (s : S) : D → Option String
  | .non => some "NoneType"
  | .bl _ => some "bool"
  | .int _ => some "int"
  | .str _ => some "str"
  | .tup _ => some "tuple"
  | .lst _ => some "list"
  | .frz _ => some "list"
  | .obj n => match s[n]? with | some (.lst _) => some "list" | some (.dic _) => some "dict" | _ => none
  | .ty _ => none
  | .raw _ => none
def tyKnown : List String := ["NoneType", "bool", "int", "str", "tuple", "list", "dict"]
def isT (t c : String) : Bool := t == c || (t == "bool" && c == "int")
theorem isT_ok : ∀ t ∈ tyKnown, ∀ c ∈ tyKnown, kitB t c = some (isT t c) := by decide +kernel
theorem tyD_known {d : D} {t : String} (h : tyD s d = some t) : t ∈ tyKnown := by
  unfold tyD at h
  split at h
  all_goals first
    | (cases h; decide)
    | (cases h; done)
    | (split at h <;> first | (cases h; decide) | (cases h; done))
theorem Sim.tyx (m : Sim K ca ι s H) {d : D} {v : V} {t : String} (r : Rep K ι H d v) (h : tyD s d = some t) : TyX K H v (.type t) := by
  cases r with
  | non => cases h; exact .base .non
  | bl b => cases h; exact .base (.bl b)
  | int b => cases h; exact .base (.int b)
  | str b => cases h; exact .base (.str b)
  | ty n => cases h
  | raw n => cases h
  | tup h1 h2 =>
    cases h
    rcases h1 with h1 | ⟨o, its, n, h1, h3, _⟩
    · exact .base (.tup h1)
    · exact .kTuple h1 h3
  | lst h1 _ _ => cases h; exact .base (.lst h1)
  | frz h1 _ =>
    cases h
    rcases h1 with ⟨o, h1⟩ | ⟨o, its, n, h1, h3, _⟩
    · exact .base (.frz h1)
    · exact .kList h1 h3
  | frz2 h1 _ _ => cases h; exact .base (.lst h1)
  | @obj a n h1 =>
    simp only [tyD] at h
    split at h
    · rename_i e; cases h
      obtain ⟨vs, h2, _⟩ := m.ob n a _ h1 e
      exact .base (.lst h2)
    · rename_i e; cases h
      obtain ⟨vs, h2, _⟩ := m.ob n a _ h1 e
      exact .base (.dK h2)
    · cases h
def tysD : List D → Option (List String)
  | [] => some []
  | .ty n :: ds => (tysD ds).map (n :: ·)
  | _ :: _ => none
def known (c : String) : Bool := tyKnown.any (· == c)
theorem known_mem {c : String} (h : known c = true) : c ∈ tyKnown := by
  obtain ⟨x, hx, e⟩ := List.any_eq_true.mp h
  rw [← eq_of_beq e]; exact hx
def fIsi (s : S) : List D → Option D
  | [x, .ty c] => (tyD s x).bind fun t => if known c then some (.bl (isT t c)) else none
  | [x, .tup cs] => (tyD s x).bind fun t => (tysD cs).bind fun ns => if ns.all known then some (.bl (ns.any (isT t))) else none
  | _ => none
theorem kitAny_all {t : String} (ht : t ∈ tyKnown) : ∀ {ns : List String}, ns.all known = true → PySem.W.kitAny K (.type t) (ns.map Value.type) = some (ns.any (isT t))
  | [], _ => rfl
  | n :: ns, h => by
    simp only [List.all_cons, Bool.and_eq_true] at h
    refine kitAny_cons (kit_ty (isT_ok t ht n (known_mem h.1))) (fun e => ?_) fun e => ?_
    · rw [List.any_cons, e, Bool.false_or]; exact kitAny_all ht h.2
    · rw [List.any_cons, e, Bool.true_or]
theorem reps_tys : ∀ {ds : List D} {vs : List V} {ns : List String}, Reps K ι H ds vs → tysD ds = some ns → vs = ns.map V.ty
  | _, _, _, .nil, h => by cases h; rfl
  | .ty n :: ds, _, _, .cons r t, h => by
    cases r
    simp only [tysD, Option.map_eq_some_iff] at h
    obtain ⟨ms, e, rfl⟩ := h
    rw [reps_tys t e]; rfl
  | .non :: _, _, _, .cons _ _, h => by cases h
  | .bl _ :: _, _, _, .cons _ _, h => by cases h
  | .int _ :: _, _, _, .cons _ _, h => by cases h
  | .str _ :: _, _, _, .cons _ _, h => by cases h
  | .tup _ :: _, _, _, .cons _ _, h => by cases h
  | .lst _ :: _, _, _, .cons _ _, h => by cases h
  | .frz _ :: _, _, _, .cons _ _, h => by cases h
  | .obj _ :: _, _, _, .cons _ _, h => by cases h
  | .raw _ :: _, _, _, .cons _ _, h => by cases h
theorem clsV_tys : ∀ ns : List String, Paired ClsV (ns.map V.ty) (ns.map Value.type)
  | [] => .nil
  | n :: ns => .cons (.ty n) (clsV_tys ns)
theorem vals_tys : ∀ {ns : List String} {us : List Value}, Vals (ns.map V.ty) us → us = ns.map Value.type
  | [], _, h => by cases h; rfl
  | n :: ns, _, h => by
    cases h with
    | cons r t => cases (show _ = _ from r); rw [vals_tys t]; rfl
end
section
variable {X : Cx} {ca : Ct} {W : WX} {e : Expr} {es : List Expr} {pos : Pos}
theorem cj_isinstance : CallR X (.builtin "isinstance") (rCJ X.K ca fIsi) := by
  refine CallR.imp ((call_isi.or call_isiT).or call_isiK) fun vs H Q ⟨ι, s, ds, x, m, rs, hf, q⟩ => ?_
  unfold fIsi at hf
  split at hf
  · rename_i d c
    cases rs with
    | cons r1 rs =>
      cases rs with
      | cons r2 rs =>
        cases rs
        cases r2
        simp only [Option.bind_eq_some_iff] at hf
        obtain ⟨t, ht, hf⟩ := hf
        split at hf
        · rename_i hk
          cases hf
          exact .inl (.inl ⟨_, _, _, _, _, rfl, .ty c, m.tyx r1 ht, kit_ty (isT_ok t (tyD_known ht) c (known_mem hk)), q _ _ _ .refl m (.bl _)⟩)
        · cases hf
  · rename_i d cs
    cases rs with
    | cons r1 rs =>
      cases rs with
      | cons r2 rs =>
        cases rs
        simp only [Option.bind_eq_some_iff] at hf
        obtain ⟨t, ht, ns, hn, hf⟩ := hf
        split at hf
        · rename_i hk
          cases hf
          cases r2 with
          | tup h1 h2 =>
            have ev := reps_tys h2 hn
            subst ev
            rcases h1 with h1 | ⟨o, its, n, h1, h3, h4, h5, h6⟩
            · exact .inl (.inr ⟨_, _, _, _, _, _, rfl, h1, clsV_tys ns, m.tyx r1 ht, kitAny_all (tyD_known ht) hk, q _ _ _ .refl m (.bl _)⟩)
            · obtain ⟨oc, od, dt, sl⟩ := o
              simp only at h3 h4
              subst h3 h4
              have eu := vals_tys h6
              exact .inr ⟨_, _, od, ns.map Value.type, n, sl, _, _, rfl, by rw [h1, ← eu], m.tyx r1 ht, kitAny_all (tyD_known ht) hk, q _ _ _ .refl m (.bl _)⟩
        · cases hf
  · cases hf

/-! ### len, int, str, all, any, sum, tuple, list, min -/
def f1 (f : S → D → Option D) (s : S) : List D → Option D
  | [x] => f s x
  | _ => none
theorem cj1 {fn : Value} {r : List V → Hp → VK → Prop} {f : S → D → Option D} (h : CallR X fn r)
    (i : ∀ (ι : Wd) (s : S) (H : Hp) (d : D) (v : V) (x : D) (Q : VK), Sim X.K ca ι s H → Rep X.K ι H d v → f s d = some x → (∀ ι' v' H', Le ι H ι' H' → Sim X.K ca ι' s H' → Rep X.K ι' H' x v' → Q v' H') → r [v] H Q) : CallR X fn (rCJ X.K ca (f1 f)) :=
  CallR.imp h fun vs H Q ⟨ι, s, ds, x, m, rs, hf, q⟩ => by
    cases rs with
    | nil => cases hf
    | cons r1 rs =>
      cases rs with
      | nil => exact i ι s H _ _ x Q m r1 hf q
      | cons _ _ => cases hf
theorem cj_len : CallR X (.builtin "len") (rCJ X.K ca (f1 fLen)) := by
  refine cj1 (call_len_seq.or call_len_str) fun ι s H d v x Q m r hf q => ?_
  have lists : ∀ {ds : List D}, itemsL s d = some ds → x = .int ds.length → ∃ p ys, [v] = [V.ref p] ∧ (SqL X.K H p ys ∨ SqT X.K H p ys) ∧ Q (.int ys.length) H := fun {ds} hi e => by
    subst e
    obtain ⟨a, vs, rfl, h1, h2⟩ := m.items r hi
    exact ⟨_, _, rfl, .inl h1, by rw [← h2.length]; exact q _ _ _ .refl m (.int _)⟩
  cases r with
  | str z =>
    simp only [fLen] at hf
    split at hf
    · rename_i hl
      cases hf
      exact .inr ⟨_, rfl, fitL_le hl, q _ _ _ .refl m (.int _)⟩
    · cases hf
  | tup h1 h2 => cases hf; exact .inl ⟨_, _, rfl, .inr h1.sq, by rw [← h2.length]; exact q _ _ _ .refl m (.int _)⟩
  | non => simp [fLen, itemsL] at hf
  | bl _ => simp [fLen, itemsL] at hf
  | int _ => simp [fLen, itemsL] at hf
  | ty _ => simp [fLen, itemsL] at hf
  | raw _ => simp [fLen, itemsL] at hf
  | @lst a vs ds _ _ _ => exact .inl (lists (ds := ds) rfl (by simpa [fLen, itemsL] using hf.symm))
  | @frz a vs ds _ _ => exact .inl (lists (ds := ds) rfl (by simpa [fLen, itemsL] using hf.symm))
  | @frz2 a vs ds _ _ _ => exact .inl (lists (ds := ds) rfl (by simpa [fLen, itemsL] using hf.symm))
  | @obj a n _ =>
    cases e : itemsL s (.obj n) with
    | none => simp [fLen, e] at hf
    | some ds => exact .inl (lists e (by simpa [fLen, e] using hf.symm))
def fInt (_ : S) : D → Option D
  | .int i => some (.int i)
  | .bl b => some (.int (if b then 1 else 0))
  | _ => none
theorem cj_int : CallR X (.type "int") (rCJ X.K ca (f1 fInt)) := by
  refine cj1 call_int1 fun ι s H d v x Q m r hf q => ?_
  cases r <;> simp only [fInt] at hf <;> first | cases hf | skip
  · exact .inr ⟨_, rfl, q _ _ _ .refl m (.int _)⟩
  · exact .inl ⟨_, rfl, q _ _ _ .refl m (.int _)⟩
def blsD : List D → Option (List Bool)
  | [] => some []
  | .bl b :: ds => (blsD ds).map (b :: ·)
  | _ :: _ => none
theorem blsD_eq : ∀ {ds : List D} {bs : List Bool}, blsD ds = some bs → ds = bs.map D.bl
  | [], _, h => by cases h; rfl
  | .bl b :: ds, _, h => by
    simp only [blsD, Option.map_eq_some_iff] at h
    obtain ⟨ms, e, rfl⟩ := h
    rw [blsD_eq e]; rfl
  | .non :: _, _, h => by cases h
  | .ty _ :: _, _, h => by cases h
  | .int _ :: _, _, h => by cases h
  | .str _ :: _, _, h => by cases h
  | .tup _ :: _, _, h => by cases h
  | .lst _ :: _, _, h => by cases h
  | .frz _ :: _, _, h => by cases h
  | .obj _ :: _, _, h => by cases h
  | .raw _ :: _, _, h => by cases h
def intsD : List D → Option (List Int)
  | [] => some []
  | .int b :: ds => (intsD ds).map (b :: ·)
  | _ :: _ => none
theorem intsD_eq : ∀ {ds : List D} {bs : List Int}, intsD ds = some bs → ds = bs.map D.int
  | [], _, h => by cases h; rfl
  | .int b :: ds, _, h => by
    simp only [intsD, Option.map_eq_some_iff] at h
    obtain ⟨ms, e, rfl⟩ := h
    rw [intsD_eq e]; rfl
  | .non :: _, _, h => by cases h
  | .ty _ :: _, _, h => by cases h
  | .bl _ :: _, _, h => by cases h
  | .str _ :: _, _, h => by cases h
  | .tup _ :: _, _, h => by cases h
  | .lst _ :: _, _, h => by cases h
  | .frz _ :: _, _, h => by cases h
  | .obj _ :: _, _, h => by cases h
  | .raw _ :: _, _, h => by cases h
def fAll (s : S) (x : D) : Option D := (itemsL s x).bind fun ds => (blsD ds).map fun bs => .bl (bs.all id)
def fAny (s : S) (x : D) : Option D := (itemsL s x).bind fun ds => (blsD ds).map fun bs => .bl (bs.any id)
def fSum (s : S) (x : D) : Option D := (itemsL s x).bind fun ds => (intsD ds).map fun ns => .int ns.sum
theorem cj_all (hc : X.calm = true) : CallR X (.builtin "all") (rCJ X.K ca (f1 fAll)) := by
  refine cj1 (cr_all hc) fun ι s H d v x Q m r hf q => ?_
  simp only [fAll, Option.bind_eq_some_iff, Option.map_eq_some_iff] at hf
  obtain ⟨ds, hi, bs, hb, rfl⟩ := hf
  obtain ⟨a, vs, rfl, h1, h2⟩ := m.items r hi
  rw [blsD_eq hb] at h2
  rw [Reps.bls h2] at h1
  exact ⟨_, _, rfl, h1, q _ _ _ .refl m (.bl _)⟩
theorem cj_any (hc : X.calm = true) : CallR X (.builtin "any") (rCJ X.K ca (f1 fAny)) := by
  refine cj1 (cr_any hc) fun ι s H d v x Q m r hf q => ?_
  simp only [fAny, Option.bind_eq_some_iff, Option.map_eq_some_iff] at hf
  obtain ⟨ds, hi, bs, hb, rfl⟩ := hf
  obtain ⟨a, vs, rfl, h1, h2⟩ := m.items r hi
  rw [blsD_eq hb] at h2
  rw [Reps.bls h2] at h1
  exact ⟨_, _, rfl, h1, q _ _ _ .refl m (.bl _)⟩
theorem cj_sum (hc : X.calm = true) : CallR X (.builtin "sum") (rCJ X.K ca (f1 fSum)) := by
  refine cj1 (cr_sum hc) fun ι s H d v x Q m r hf q => ?_
  simp only [fSum, Option.bind_eq_some_iff, Option.map_eq_some_iff] at hf
  obtain ⟨ds, hi, bs, hb, rfl⟩ := hf
  obtain ⟨a, vs, rfl, h1, h2⟩ := m.items r hi
  rw [intsD_eq hb] at h2
  rw [Reps.ints h2] at h1
  exact ⟨_, _, rfl, h1, q _ _ _ .refl m (.int _)⟩
def fTuple (s : S) (x : D) : Option D := match x with
  | .tup ds => some (.tup ds)
  | x => (itemsL s x).map .tup
theorem cj_tuple : CallR X (.type "tuple") (rCJ X.K ca (f1 fTuple)) := by
  refine cj1 call_tuple_of fun ι s H d v x Q m r hf q => ?_
  have lists : ∀ {ds : List D}, itemsL s d = some ds → x = .tup ds → ∃ p ys, [v] = [V.ref p] ∧ ((SqL X.K H p ys ∧ ∀ l, H l = none → Q (.ref l) (upd H l (.tup ys))) ∨ (SqT X.K H p ys ∧ Q (.ref p) H)) := fun {ds} hi e => by
    subst e
    obtain ⟨a, vs, rfl, h1, h2⟩ := m.items r hi
    refine ⟨_, _, rfl, .inl ⟨h1, fun p hp => ?_⟩⟩
    obtain ⟨l, m'⟩ := m.new (o := .tup vs) hp
    exact q _ _ _ l m' (.tup (.inl upd_same) (h2.mono l))
  cases r with
  | tup h1 h2 => cases hf; exact ⟨_, _, rfl, .inr ⟨h1.sq, q _ _ _ .refl m (.tup h1 h2)⟩⟩
  | @lst a vs ds _ _ _ => exact lists (ds := ds) rfl (by simpa [fTuple, itemsL] using hf.symm)
  | @frz a vs ds _ _ => exact lists (ds := ds) rfl (by simpa [fTuple, itemsL] using hf.symm)
  | @frz2 a vs ds _ _ _ => exact lists (ds := ds) rfl (by simpa [fTuple, itemsL] using hf.symm)
  | @obj a n _ =>
    cases e : itemsL s (.obj n) with
    | none => simp [fTuple, e] at hf
    | some ds => exact lists e (by simpa [fTuple, e] using hf.symm)
  | _ => simp [fTuple, itemsL] at hf
def fList (s : S) (x : D) : Option D := match x with
  | .tup ds => some (.lst ds)
  | x => (itemsL s x).map .lst
theorem cj_list : CallR X (.type "list") (rCJ X.K ca (f1 fList)) := by
  refine cj1 call_list_of fun ι s H d v x Q m r hf q => ?_
  have fin : ∀ {ds : List D} {vs : List V}, Reps X.K ι H ds vs → x = .lst ds → ∀ l, H l = none → Q (.ref l) (upd H l (.lst vs)) := fun {ds vs} h2 e p hp => by
    subst e
    obtain ⟨l, m'⟩ := m.new (o := .lst vs) hp
    exact q _ _ _ l m' (.lst upd_same (m.ne hp) (h2.mono l))
  have lists : ∀ {ds : List D}, itemsL s d = some ds → x = .lst ds → ∃ p ys, [v] = [V.ref p] ∧ (SqL X.K H p ys ∨ SqT X.K H p ys) ∧ ∀ l, H l = none → Q (.ref l) (upd H l (.lst ys)) := fun {ds} hi e => by
    obtain ⟨a, vs, rfl, h1, h2⟩ := m.items r hi
    exact ⟨_, _, rfl, .inl h1, fin h2 e⟩
  cases r with
  | tup h1 h2 => cases hf; exact ⟨_, _, rfl, .inr h1.sq, fin h2 rfl⟩
  | @lst a vs ds _ _ _ => exact lists (ds := ds) rfl (by simpa [fList, itemsL] using hf.symm)
  | @frz a vs ds _ _ => exact lists (ds := ds) rfl (by simpa [fList, itemsL] using hf.symm)
  | @frz2 a vs ds _ _ _ => exact lists (ds := ds) rfl (by simpa [fList, itemsL] using hf.symm)
  | @obj a n _ =>
    cases e : itemsL s (.obj n) with
    | none => simp [fList, e] at hf
    | some ds => exact lists e (by simpa [fList, e] using hf.symm)
  | _ => simp [fList, itemsL] at hf
def fMin (_ : S) : List D → Option D
  | [.int i, .int j] => some (.int (if j < i then j else i))
  | _ => none
theorem cj_min (hc : X.calm = true) : CallR X (.builtin "min") (rCJ X.K ca fMin) := by
  refine CallR.imp (call_min2 hc) fun vs H Q ⟨ι, s, ds, x, m, rs, hf, q⟩ => ?_
  unfold fMin at hf
  split at hf
  · cases hf
    cases rs with
    | cons r1 rs =>
      cases rs with
      | cons r2 rs =>
        cases rs
        cases r1
        cases r2
        exact ⟨_, _, rfl, q _ _ _ .refl m (.int _)⟩
  · cases hf

/-! ### slices -/
def cutD (xs : List D) (lo hi : Option Int) : List D := (xs.drop (HT.sIx xs.length 0 lo)).take (HT.sIx xs.length xs.length hi - HT.sIx xs.length 0 lo)
def fSl (s : S) (x : D) (lo hi : Option Int) : Option D := match x with
  | .tup ds => some (.tup (cutD ds lo hi))
  | x => (itemsL s x).map fun ds => .lst (cutD ds lo hi)
abbrev GO := Env → S → R (Option Int)
def goNone : GO := fun _ s => .ok none s
def goSome (g : GE) : GO := fun ρ s => (g ρ s).bind fun d s1 => match d with | .int i => .ok (some i) s1 | _ => .no
def gSl (g : GE) (lo hi : GO) : GE := fun ρ s => (g ρ s).bind fun x s1 => (lo ρ s1).bind fun l s2 => (hi ρ s2).bind fun h s3 => R.ofO (fSl s3 x l h) s3
def PostO (K : PySem.W.Frag) (ca : Ct) (ι : Wd) (H : Hp) (r : R (Option Int)) (Q : Option Int → Hp → Prop) (E : XK) : Prop := match r with
  | .ok b s' => ∀ ι' H', Le ι H ι' H' → Sim K ca ι' s' H' → Q b H'
  | .err e s' => ∀ ι' cv dd H', Le ι H ι' H' → Sim K ca ι' s' H' → RepX K ca ι' H' e cv dd → E cv dd H'
  | .no => False
def tO (K : PySem.W.Frag) (ca : Ct) (W : WX) (g : GO) : TO := fun σ H Q => ∃ ι ρ s, RelS K ι H ρ σ ∧ Sim K ca ι s H ∧ PostO K ca ι H (g ρ s) Q (fun cv dd H' => W cv dd σ H')
def JO (X : Cx) (ca : Ct) (W : WX) (e : Option Expr) (g : GO) : Prop := PO X e (tO X.K ca W g)
theorem famO {K : PySem.W.Frag} {E : XK} {Q : Option Int → Hp → Prop} : Fam K ca E (fun ι H r => PostO K ca ι H r Q E) := ⟨fun {ι H ι' H' r} h l => by
  cases r with
  | ok d s => exact fun ι2 H2 l2 m => h ι2 H2 (l.trans l2) m
  | err e s => exact fun ι2 cv dd H2 l2 m q => h ι2 cv dd H2 (l.trans l2) m q
  | no => exact h, fun h => h, fun h => h⟩
theorem PO.imp {e : Option Expr} {t t' : TO} (h : PO X e t) (i : ∀ σ H Q, t' σ H Q → t σ H Q) : PO X e t' := ⟨fun pins s σ H Q I q => h.run pins s σ H Q I (i _ _ _ q)⟩
theorem jo_none : JO X ca W none goNone := PO.imp po_none fun σ H Q ⟨ι, ρ, s, hr, hm, h⟩ => h ι H .refl hm
theorem jo_some {g : GE} (h : JE X ca W e g) : JO X ca W (some e) (goSome g) := PO.imp (po_some h) fun σ H Q ⟨ι, ρ, s, hr, hm, h⟩ => bindE famO hr hm h fun ι1 s1 d v H1 l1 hr1 hm1 rd h1 => by
  cases rd with
  | int i => exact ⟨i, rfl, h1 ι1 H1 .refl hm1⟩
  | _ => exact h1.elim
theorem bindO {β : Type} {Φ : Wd → Hp → R β → Prop} {K : PySem.W.Frag} {ι : Wd} {H : Hp} {ρ : Env} {σ : L2.St} {s : S} {g : GO} {k : Option Int → S → R β} {Rr : Option Int → Hp → Prop} (F : Fam K ca (fun cv dd H' => W cv dd σ H') Φ) (hr : RelS K ι H ρ σ) (hm : Sim K ca ι s H) (h : Φ ι H ((g ρ s).bind k))
    (step : ∀ ι' s' b H', Le ι H ι' H' → RelS K ι' H' ρ σ → Sim K ca ι' s' H' → Φ ι' H' (k b s') → Rr b H') : tO K ca W g σ H Rr := by
  refine ⟨ι, ρ, s, hr, hm, ?_⟩
  cases e : g ρ s with
  | ok d s' =>
    rw [e] at h
    exact fun ι' H' l m => step ι' s' d H' l (hr.mono l) m (F.mono h l)
  | err x s' =>
    rw [e] at h
    exact F.err h
  | no =>
    rw [e] at h
    exact F.no h
theorem Reps.cut {K : PySem.W.Frag} {ι : Wd} {H : Hp} {ds : List D} {vs : List V} (r : Reps K ι H ds vs) (lo hi : Option Int) : Reps K ι H (cutD ds lo hi) (cutV vs lo hi) := by
  unfold cutD cutV
  rw [r.length]
  exact (r.drop _).take _
theorem SlR.imp {r r' : V → Option Int → Option Int → Hp → VK → Prop} (h : SlR X r) (i : ∀ v lo hi H Q, r' v lo hi H Q → r v lo hi H Q) : SlR X r' := fun pins s σ H x v vl vu lo hi sl Q I rx hs pl pu q => h pins s σ H x v vl vu lo hi sl Q I rx hs pl pu (i _ _ _ _ _ q)
theorem je_slice {lo hi : Option Expr} {p2 : Pos} {g : GE} {gl gh : GO} (he : JE X ca W e g) (hl : JO X ca W lo gl) (hh : JO X ca W hi gh) : JE X ca W (.Subscript e (.Slice lo hi none p2) pos) (gSl g gl gh) := by
  refine PE.imp (pe_slice (sl_tupA.or sl_list) he hl hh) fun σ H Q ⟨ι, ρ, s, hr, hm, h⟩ => bindE famE hr hm h fun ι1 s1 d v H1 l1 hr1 hm1 rd h1 => bindO famE hr1 hm1 h1 fun ι2 s2 lo H2 l2 hr2 hm2 h2 => bindO famE hr2 hm2 h2 fun ι3 s3 hi H3 l3 hr3 hm3 h3 => ?_
  have rd := (rd.mono l2).mono l3
  cases e : fSl s3 d lo hi with
  | none => rw [e] at h3; exact h3.elim
  | some x =>
    rw [e] at h3
    have lists : ∀ {ds : List D}, itemsL s3 d = some ds → x = .lst (cutD ds lo hi) → rSlL X.K v lo hi H3 Q := fun {ds} hi' ex => by
      subst ex
      obtain ⟨a, vs, rfl, k1, k2⟩ := hm3.items rd hi'
      refine ⟨_, _, rfl, k1, fun p hp => ?_⟩
      obtain ⟨l, m'⟩ := hm3.new (o := .lst (cutV vs lo hi)) hp
      exact h3 _ _ _ l m' (.lst upd_same (hm3.ne hp) ((k2.cut lo hi).mono l))
    cases rd with
    | @tup a vs ds k1 k2 =>
      cases e
      refine .inl ⟨_, _, rfl, k1.sq, fun hw => ?_, fun hw p hp => ?_⟩
      · have hc : cutD ds lo hi = ds := by
          unfold cutD
          rw [k2.length, hw.1, hw.2, List.drop_zero, Nat.sub_zero, ← k2.length, List.take_length]
        refine h3 _ _ _ .refl hm3 ?_
        rw [hc]
        exact .tup k1 k2
      · obtain ⟨l, m'⟩ := hm3.new (o := .tup (cutV vs lo hi)) hp
        exact h3 _ _ _ l m' (.tup (.inl upd_same) ((k2.cut lo hi).mono l))
    | @lst a vs ds _ _ _ => exact .inr (lists (ds := ds) rfl (by simpa [fSl, itemsL] using e.symm))
    | @frz a vs ds _ _ => exact .inr (lists (ds := ds) rfl (by simpa [fSl, itemsL] using e.symm))
    | @frz2 a vs ds _ _ _ => exact .inr (lists (ds := ds) rfl (by simpa [fSl, itemsL] using e.symm))
    | @obj a n _ =>
      cases e' : itemsL s3 (.obj n) with
      | none => simp [fSl, e'] at e
      | some ds => exact .inr (lists e' (by simpa [fSl, e'] using e.symm))
    | _ => simp [fSl, itemsL] at e

/-! ### a list's item stored -/
def putL (s : S) (o i x : D) : Option S := match o, i with
  | .obj n, .int k => match s[n]? with
    | some (.lst ds) => (ixN ds.length k).map fun j => s.set n (.lst (ds.set j x))
    | _ => none
  | _, _ => none
def sSetIx (ge go gi : GE) : GS := fun ρ s => (ge ρ s).bind fun x s1 => (go ρ s1).bind fun o s2 => (gi ρ s2).bind fun i s3 => match putL s3 o i x with
  | some s4 => .ok (.nx ρ) s4
  | none => .no
theorem js_setIx {o i : Expr} {ge go gi : GE} {tpos : Pos} (he : JE X ca W e ge) (ho : JE X ca W o go) (hi : JE X ca W i gi)
    (ha : ∀ v, assign (.Subscript o i tpos) X.env v = (do
      let ov ← holding [v] (eval o X.env)
      let iv ← holding [v, ov] (eval i X.env)
      standAt tpos
      holding [v, ov, iv] (setItem ov iv v)
      release [v, ov, iv] []) := by intro _; rfl) (hs : swapsWithSole [.Subscript o i tpos] e pos.line X.env = pure false := by rfl) (hw : swappedStores [.Subscript o i tpos] e X.env = pure none := by rfl)
    (h1 : (assignEach [.Subscript o i tpos] X.env).map (·.2) = [assign (.Subscript o i tpos) X.env] := by rfl) : JS X ca W (.Assign [.Subscript o i tpos] e pos) (sSetIx ge go gi) := by
  refine PS.imp (ps_asg he (pg_sub ho hi set_list ha) hs hw h1) fun D σ H ⟨ι, ρ, s, hr, hm, h⟩ => bindE famS hr hm h fun ι1 s1 x v H1 l1 hr1 hm1 rx h1 => bindE famS hr1 hm1 h1 fun ι2 s2 o ov H2 l2 hr2 hm2 ro h2 => bindE famS hr2 hm2 h2 fun ι3 s3 i iv H3 l3 hr3 hm3 ri h3 => ?_
  cases e : putL s3 o i x with
  | none => rw [e] at h3; exact h3.elim
  | some s4 =>
    rw [e] at h3
    have ro := ro.mono l3
    have rx := (rx.mono l2).mono l3
    cases ro with
    | @obj a n hn =>
      cases ri with
      | int k =>
        simp only [putL] at e
        split at e
        · rename_i ds hds
          simp only [Option.map_eq_some_iff] at e
          obtain ⟨j, hj, rfl⟩ := e
          obtain ⟨vs, k1, k2⟩ := hm3.ob n _ _ hn hds
          refine ⟨_, _, _, j, rfl, rfl, k1, by rw [← k2.length]; exact hj, ?_⟩
          obtain ⟨l, m'⟩ := hm3.write (o := .lst (vs.set j v)) (u := .lst (ds.set j x)) hn trivial fun l => ⟨_, upd_same, (k2.mono l).set (rx.mono l) j⟩
          exact h3 _ _ _ l m' (hr3.mono l)
        · cases e
      | _ => simp [putL] at e
    | _ => simp [putL] at e

/-- name = [..] on one line, the name a local -/
theorem js_setLc (j : Nat) {y : Str} {py : Pos} {elt iter : Expr} {ifs : List Expr} {scope : Scope} {i : Nat} {x : Str} {tpos lpos : Pos} {gi : GA} {gt : GT} {ge : GE} (hc : X.calm = true) (hN : X.N.Nodup) (hi : JI X ca W (.Name x tpos) iter gi) (ok : BlkOk X.N X.env.scope scope [(x, i)])
    (hg : ∀ (s : Shared) (H : Hp) (C : Addr) (cl : List (Str × Addr)) (fp : List Addr), PG (X.blk s H scope (compEnvC scope cl C X.env) fp) (.Name x tpos) (gName i))
    (ht : ∀ (s : Shared) (H : Hp) (C : Addr) (cl : List (Str × Addr)) (fp : List Addr), JTs (X.blk s H scope (compEnvC scope cl C X.env) fp) ca W0 ifs gt)
    (he : ∀ (s : Shared) (H : Hp) (C : Addr) (cl : List (Str × Addr)) (fp : List Addr), JE (X.blk s H scope (compEnvC scope cl C X.env) fp) ca W0 elt ge)
    (hsw : swapsWith (.ListComp elt [⟨.Name x tpos, iter, ifs, 0⟩] scope lpos) (some (.Name y py)) pos.line X.env = pure true) (hy : X.N[j]? = some y := by rfl) (hyl : X.env.scope.names.lookup y = some .local := by rfl)
    (hs : ∀ x, foldedSetIterable iter X.env x = pure x := by intro _; rfl) :
    JS X ca W (.Assign [.Name y py] (.ListComp elt [⟨.Name x tpos, iter, ifs, 0⟩] scope lpos) pos) (sAsg (gLc [i] gi (dName i) gt ge) (dName j)) :=
  PS.imp (ps_setLc (i := j) (own := [(x, i)]) (g := gName i) (wi := tI X.K ca W gi) (tt := tT X.K ca W0 gt) (te := tG X.K ca W0 ge) hc hN hy hyl hsw hi ok hg ht he hs) fun D σ H ⟨ι, ρ, s, hr, hm, h⟩ => by
    have h2 : tG X.K ca W (gLc [i] gi (dName i) gt ge) σ H (fun v H1 => D.nx (σ.set j (some v)) H1) :=
      bindE famS hr hm h fun ι1 s1 d v H1 l1 hr1 hm1 rd h1 => h1 ι1 _ H1 .refl hm1 (hr1.set rd j)
    exact tG_lc (own := [i]) (fun {ι H ρ ρ' σ d v Q} r rd e k => by
      cases e
      refine k _ (r.set rd i) ?_
      show ((σ.set i none).set i (some v)).set i none = (σ.set i none)
      rw [List.set_set, List.set_set]) h2
theorem Room.u65 {k : Nat} {A : Around} (r : Room k A) : A.units + 65 < cLine := by have := r.un; omega
/-! ### constants of the module: tuples of data -/
/-- a constant's form: which does not hang on the heap -/
def ConstAt (K : PySem.W.Frag) (v : V) (d : D) : Prop := ∀ ι H, Rep K ι H d v
end
end J


set_option Elab.async false
set_option linter.all false
set_option maxRecDepth 100000
set_option maxHeartbeats 4000000
/-! J5: raise of own errors; a lambda handed to a def that tells which error came. -/
namespace J
open PySem PySem.Spec L2
open PyProof.Rows (envOfC)
section
variable {X : Cx} {ca : Ct} {W : WX} {e : Expr} {es : List Expr} {pos : Pos}
/-- X(), X an own exception class without own __init__ -/
theorem pmk_own0 {C : Addr} {bmB : List Value} {B newId initId : String} {x : Str} {p : Pos} (F : ExcBaseFacts B newId initId bmB) (q : PySem.W.excIn X.K C bmB newId = true) (gC : X.mg x = some (.ref C))
    (kC : PySem.W.keepIn X.K (.ref C) = true) (r : Raises X (.ref C)) (hg : Gl X x) (hdb : (x == ("__debug__" : Str)) = false := by decide) :
    PMk X (.Call (.Name x p) [] [] pos) (fun σ H Q => Q (.ref C) none H) := by
  intro pins s σ H Q I h
  refine wpAny_Call_Name_kw (ld_glob I hg gC ?_ hdb)
  refine PySem.W.callWith_K0 I.kIn kC ?_
  show wpAny _ _ (call (.ref C) []) _ _ _
  obtain ⟨bm, N, nm, qn, bs, hdct, sn, sub, ab, col, dd, k0, k1, k2, k3, k5, mN, hC, hN, hni, T⟩ := exc_obj I.kIn q
  refine wpAny_call_exc_subT F T hC hN hni (fun h' e hm => ?_) (by show 0 ≤ sizeLine; decide)
  exact mk_of I hm r h (I.hok.gone hm.new)
/-- what the written part says of an own error class without fields -/
structure ExcJ (K : PySem.W.Frag) (mg : Str → Option Value) (ca : Ct) (c : Nat) (x : Str) : Prop where
  g : mg x = some (.ref (ca.c c))
  q : PySem.W.excIn K (ca.c c) He.veBase "ValueError.__new__" = true
  k : PySem.W.keepIn K (.ref (ca.c c)) = true
  b : PySem.W.subIn K (.ref (ca.c c)) (.type "BaseException") = some true
  t : PySem.W.typeIn K (.ref (ca.c c)) = some (.type "type")
def sRaise (c : Nat) : GS := fun _ s => .err ⟨c, none⟩ s
theorem js_raise0 {x : Str} {p pos' : Pos} {c : Nat} (T : ExcJ X.K X.mg ca c x) (hc : X.calm = true) (tk : Takes X W) (hg : Gl X x := by rfl) (hdb : (x == ("__debug__" : Str)) = false := by decide) :
    JS X ca W (.Raise (some (.Call (.Name x p) [] [] pos')) none pos) (sRaise c) :=
  PS.imp (ps_raise hc tk (pmk_own0 PySem.F.excBase_ValueError T.q T.g T.k (raises_own T.b T.t) hg hdb)) fun D σ H ⟨ι, ρ, s, hr, hm, h⟩ => h ι _ none H σ .refl hm ⟨rfl, fun _ => rfl, fun _ _ z => by cases z⟩
def sNever : GS := fun _ _ => .no
theorem js_never {st : Stmt} : JS X ca W st sNever := PS.imp ps_never fun D σ H ⟨ι, ρ, s, hr, hm, h⟩ => h

/-! ### a lambda without parameters, called by the def that it is handed to -/
theorem Sim.extN {K : PySem.W.Frag} {ι : Wd} {s : S} {H H1 : Hp} (m : Sim K ca ι s H) (e : LamX.ExtN H H1) (t : LamX.Tabs ca.T H1) : Le ι H ι H1 ∧ Sim K ca ι s H1 := by
  have k : ∀ a o, H a = some o → NoTab o → H1 a = some o := fun a o h n => e a o h n
  have l : Le ι H ι H1 := ⟨⟨List.prefix_rfl, fun a o h t n => ⟨k a o h t, n⟩, fun a xs h => k _ _ h (fun _ z => by cases z), fun a o u h => k _ _ h (fun _ z => by cases z)⟩, fun a o h t n => ⟨k a o h t, n⟩, fun _ h => h⟩
  have kM : ∀ a ∈ ι.M, H1 a = H a := fun a ha => by
    obtain ⟨o, h, mu⟩ := m.tr a ha
    rw [h]; exact k a o h mu.noTab
  have nM : ∀ a o, H1 a = some o → (∀ u, MutJ u → o ≠ u) → a ∉ ι.M := fun a o h n ha => by
    obtain ⟨u, hu, mu⟩ := m.tr a ha
    rw [kM a ha, hu] at h
    exact n u mu (Option.some.inj h).symm
  refine ⟨l, m.len, m.nd, m.sub, fun a ha => by rw [kM a ha]; exact m.tr a ha, ⟨fun p hp => ?_, fun p hp => let ⟨fs, h1, h2, h3⟩ := m.tab.e p hp; ⟨fs, e _ _ h1 (fun ps z => by cases z), h2, h3⟩⟩, fun n a u hn hs => (m.ob n a u hn hs).mono l (kM a (m.sub a (List.mem_of_getElem? hn)))⟩
  obtain ⟨ps, h1, h2, h3⟩ := t p hp
  refine ⟨ps, h1, nM _ _ h1 fun u mu z => mu.noTab ps z.symm, h2, fun pos cv hc => ?_⟩
  obtain ⟨c, ec, h4⟩ := h3 pos cv hc
  exact ⟨c, ec, h4, nM _ _ h4 fun u mu z => mu.noCode z.symm⟩
/-- what the def makes of the lambda: z if it ends; of its error, hd -/
def gWrong (z : D) (hd : Ex → S → R D) (gl : GE) : GE := fun ρ s => match gl ρ s with
  | .ok _ s1 => .ok z s1
  | .err e s1 => (match hd e s1 with | .ok d s2 => .ok d s2 | _ => .no)
  | .no => .no
def TTw (K : PySem.W.Frag) (ca : Ct) (zv : V) (hd : Ex → S → R D) : (XK → Hp → VK → Prop) → Hp → VK → Prop := fun tl H Q =>
  tl (fun cls d H' => ∃ e ι s, Sim K ca ι s H' ∧ RepX K ca ι H' e cls d ∧ PostE K ca ι H' (match hd e s with | .ok d s2 => .ok d s2 | _ => .no) Q (fun _ _ _ => False)) H
    (fun _ H' => Q zv H')
theorem je_wrong {z : D} {zv : V} (hz : ∀ ι H, Rep X.K ι H z zv) {hd : Ex → S → R D} {x a : Str} {g c P : Addr} {k : Nat} {pg : Arguments} {bg : List Stmt} {sg : Scope} {dV kV doc pm cdv ct oc : Value} {an od : Option Addr} {osl : Array (Option Value)} {Ng : List Str}
    {params : Arguments} {body : Expr} {scope : Scope} {gl : GE} {p lpos pos : Pos} (hg : Gl X x) (hm : X.mg x = some (.ref g)) (hk : PySem.W.keepIn X.K (.ref g) = true)
    (lk : X.K.lookup g = some ⟨oc, od, .func (PySem.W.fnOf x x pg bg sg dV kV doc pm an cdv ct), osl⟩) (hcg : PySem.W.codeIn X.K cdv x = true) (hb : L2.Binds X.K (PySem.W.fnOf x x pg bg sg dV kV doc pm an cdv ct) [a] []) (Sg : FnScope Ng [a] sg) (hNg : Ng[0]? = some a) (hva : Vis sg a)
    (hG : LamX.GivesTo X Ng x sg g cdv bg a (X.env.qual ++ "<lambda>") (TTw X.K ca zv hd))
    (TB : LamX.TabB X.base X.mg c P) (hcode : X.env.code = .ref c) (hmT : (P, X.env.qual ++ "<lambda>") ∈ ca.T) (hu : ∀ p ∈ ca.T, p.1 = P → p.2 = X.env.qual ++ "<lambda>") (hr : Room (k + 2) X.A) (L : LamX.LamS X.env.scope scope) (hdef : defaultsOf params X.env = ([], []))
    (hbind : ∀ (q : Str) (cl : List (Str × Addr)) (pm cv ctv : Value), bindArgs (PySem.W.kla_fn "<lambda>" q params body scope cl pm cv ctv) ⟨[], []⟩ = pure [])
    (hbody : ∀ (A : Around) (outer : List PySem.Env) (s : Shared) (H : Hp) (E : XK) (f c' : Addr), Room k (A.deeper (LamX.lamEnv X scope s.heap.objs.size f c')) → JE (LamX.lamCx X A outer s H E scope f c') ca (fun cls d _ H => E cls d H) body gl)
    (hdb : (x == ("__debug__" : Str)) = false := by decide) (hd' : (a == ("__debug__" : Str)) = false := by decide) (hcd : (a == ("__classdict__" : Str)) = false := by decide) :
    JE X ca W (.Call (.Name x p) [.Lambda params body scope lpos] [] pos) (gWrong z hd gl) := by
  refine PE.imp (LamX.pe_lamcall (T := ca.T) (t := fun E => tG X.K ca (fun cls d _ H => E cls d H) gl) hg hm hk lk hcg hb Sg hNg hva hG TB hcode hmT hu hr L hdef hbind hbody hdb hd' hcd) fun σ H Q ⟨ι, ρ, s, hrs, hms, h⟩ => ?_
  refine ⟨hms.tab.tabs, fun H1 eN T1 => ?_⟩
  obtain ⟨l, m1⟩ := hms.extN eN T1
  show tG X.K ca (fun cls d _ H' => ∃ e ι s, Sim X.K ca ι s H' ∧ RepX X.K ca ι H' e cls d ∧ PostE X.K ca ι H' (match hd e s with | .ok d s2 => .ok d s2 | _ => .no) Q (fun _ _ _ => False)) gl σ H1
    (fun _ H' => Q zv H')
  refine ⟨ι, ρ, s, hrs.mono l, m1, ?_⟩
  have h := PostE.mono h l
  unfold gWrong at h
  cases e : gl ρ s with
  | no => rw [e] at h; exact h
  | ok d s1 =>
    rw [e] at h
    exact fun ι' v H' l' m' r => h ι' zv H' l' m' (hz ι' H')
  | err x s1 =>
    rw [e] at h
    simp only at h
    intro ι' cv dd H' l' m' q
    refine ⟨x, ι', s1, m', q, ?_⟩
    cases e2 : hd x s1 with
    | ok d s2 => rw [e2] at h; exact PostE.mono (show PostE X.K ca ι H1 (.ok d s2) Q (fun _ _ _ => False) from h) l'
    | err _ _ => rw [e2] at h; exact h
    | no => rw [e2] at h; exact h
/-! ### isinstance of the error that a suite holds -/
def gIsE (b : Addr → Addr → Option Bool) (ga gc : GE) : GE := fun ρ s => (ga ρ s).bind fun x s1 => (gc ρ s1).bind fun y s2 => match x, y with
  | .raw a, .raw C => R.ofO ((b a C).map D.bl) s2
  | _, _ => .no
theorem je_isE {a D₀ : Addr} {oe : Obj} {pn : List (Addr × Obj)} {ea ec : Expr} {ga gc : GE} {p : Pos} {b : Addr → Option Bool} (C : ExcC X.K D₀) (hz : Zc (.ref D₀) none oe) (hf : ∃ vs, oe.data = .fields vs) (hb : ∀ E v, b E = some v → PySem.W.kitOne X.K (.ref D₀) (.ref E) = some v) (hm : X.mg "isinstance" = none)
    (ha : JE (X.suite a ((a, oe) :: pn)) ca W ea ga) (hc : JE (X.suite a ((a, oe) :: pn)) ca W ec gc) (hg : Gl X "isinstance" := by rfl)
    (he : starEach [ea, ec] X.env = (false, eval ea X.env) :: starEach [ec] X.env := by rfl) (he2 : starEach [ec] X.env = (false, eval ec X.env) :: starEach [] X.env := by rfl) (hpl : (backTo pos (starEach [ec] X.env)).any (·.1) = false := by rfl) :
    JE (X.suite a ((a, oe) :: pn)) ca W (.Call (.Name "isinstance" p) [ea, ec] [] pos) (gIsE (fun a' E => if a' = a then b E else none) ga gc) := by
  refine PE.imp (pe_callB (call_isE C hz hf) hg hm bt_isinstance (pa_cons ha (pa_cons hc pa_nil he2) he) (by decide) (by decide) he hpl) fun σ H Q ⟨ι, ρ, s, hr, hms, h⟩ => ?_
  refine bindE famE hr hms h fun ι1 s1 x v H1 l1 hr1 hm1 rx h1 => bindE famE hr1 hm1 h1 fun ι2 s2 y u H2 l2 hr2 hm2 ry h2 => ?_
  cases rx with
  | raw a' =>
    cases ry with
    | raw E =>
      simp only at h2
      by_cases ea : a' = a
      · subst ea
        rw [if_pos rfl] at h2
        cases eb : b E with
        | none => rw [eb] at h2; exact h2.elim
        | some v =>
          rw [eb] at h2
          exact ⟨_, .ref E, v, rfl, fun u r => r, hb E v eb, h2 ι2 _ H2 .refl hm2 (.bl v)⟩
      · rw [if_neg ea] at h2; exact h2.elim
    | _ => exact h2.elim
  | _ => exact h2.elim
end

section
variable {X : Cx} {ca : Ct} {W : WX} {pos : Pos}
/-! ### a written dict of texts, asked -/
def dictV (kvs : List (Str × Str)) (x : Str) : Option D := match valV (mergeK [] (kvs.map fun q => ((Sum.inr q.1 : Key), V.str q.2))) (Sum.inr x) with
  | some (.str y) => some (.str y)
  | _ => none
def gDictC (kvs : List (Str × Str)) (gk : GE) : GE := fun ρ s => (gk ρ s).bind fun d s1 => match d with | .str x => R.ofO (dictV kvs x) s1 | _ => .no
def trsC (kvs : List (Str × Str)) : List (TE × TE) := kvs.map fun q => (tC (.str q.1), tC (.str q.2))
theorem tPairs_c {σ : L2.St} : ∀ {kvs : List (Str × Str)} {H : Hp} {Q : List (V × V) → Hp → Prop}, Q (kvs.map fun q => (V.str q.1, V.str q.2)) H → tPairs (trsC kvs) σ H Q
  | [], _, _, h => h
  | q :: kvs, H, Q, h => tPairs_c (kvs := kvs) (H := H) (Q := fun ps H' => Q ((V.str q.1, V.str q.2) :: ps) H') h
theorem je_dictC {kvs : List (Str × Str)} {keys : List (Option Expr)} {values : List Expr} {k : Expr} {p : Pos} {gk : GE} {j : Nat} (hr : Room j X.A) (h : PPs X p keys values (trsC kvs)) (hk : JE X ca W k gk) (hn : kvs.length ≤ 15 := by decide) (hall : keys.all (·.isSome) = true := by rfl) (hl : keys.length = values.length := by rfl) (h0 : keys ≠ [] := by exact fun z => by cases z)
    (h15 : keys.length ≤ 15 := by decide) (hs : NoSl k := by exact fun _ _ => rfl) : JE X ca W (.Subscript (.Dict keys values p) k pos) (gDictC kvs gk) := by
  refine PE.imp (pe_dget (hu_of hr) (pe_disp h hall hl h0 h15) hk hs) fun σ H Q ⟨ι, ρ, s, hrs, hm, h⟩ => ?_
  intro pd hpd
  refine tPairs_c ?_
  refine ⟨upd_same, kvs.map fun q => ((Sum.inr q.1 : Key), V.str q.2), by rw [List.map_map]; rfl, by simpa using hn, ?_⟩
  rw [upd_upd]
  obtain ⟨l, m⟩ := hm.new (o := .dK (mergeK [] (kvs.map fun q => ((Sum.inr q.1 : Key), V.str q.2)))) hpd
  have h := PostE.mono h l
  refine bindE famE (hrs.mono l) m h fun ι1 s1 d v H1 l1 hr1 hm1 rd h1 => ?_
  have hd := (l1.stay _ _ upd_same (fun _ z => by cases z) (fun z => hm.ne hpd (hm.sub _ z))).1
  cases rd with
  | str x =>
    simp only at h1
    cases e : dictV kvs x with
    | none => rw [e] at h1; exact h1.elim
    | some d' =>
      rw [e] at h1
      unfold dictV at e
      split at e
      · rename_i y ey
        cases e
        exact ⟨pd, .str y, rfl, .inl ⟨_, Sum.inr x, .inl hd, rfl, ey.symm⟩, h1 ι1 _ H1 .refl hm1 (.str y)⟩
      · cases e
  | _ => exact h1.elim
end

section
variable {ca : Ct}
/-- as fnJ, of a def by its parts; what its code object is, is told -/
theorem fnJD {P : Program} {w : World} {K : PySem.W.Frag} {mg : Str → Option Value} {base : Heap} {x qual : Str} {params : Arguments} {body : List Stmt} {scope : Scope} {f : Addr} {fd : FuncData} {N ps : List Str} {k : Nat} {b : GS} (F : FunD K x qual params body scope [] [] f fd) (Sc : FnScope N ps scope)
    (hb : ∀ (cdv : Value) (A : Around) (outer : List PySem.Env) (s : Shared) (H : Hp) (E : XK), Room k (A.deeper (envOfC qual scope s.heap.objs.size f cdv)) →
      JSs (cxOf (L2.CX P w) P w K mg base N qual scope f cdv A outer s H E) ca (fun cls d _ H => E cls d H) body b) : FnOk P w K mg base (L2.CX P w) (k + 1) f fd ps (spJ K ca ps.length (runF N.length b)) := by
  refine F.ok Sc (fun vs H Q E ⟨ι, ds, s, hr, hm, hl, h⟩ => by rw [← hr.length, hl]) (fun cdv A outer s H vs Q E hr h => ⟨_, hb cdv A outer s H E hr, ?_⟩)
  obtain ⟨ι, ds, s', hrs, hm, hl, h⟩ := h
  refine ⟨ι, _, s', relS_start N hrs, hm, ?_⟩
  unfold runF at h
  cases e : b (ds.map some ++ List.replicate (N.length - ds.length) none) s' with
  | err y s1 => rw [e] at h; exact fun ι' cv dd H' σ' l m q => h ι' cv dd H' l m q
  | no => rw [e] at h; exact h
  | ok fl s1 =>
    rw [e] at h
    cases fl with
    | rt d => exact h
    | nx ρ => exact fun ι' σ' H' l m r => h ι' .non H' l m .non
    | bk ρ => exact h.elim
    | ct ρ => exact h.elim
/-- a module's constant that is data -/
def ConstJ (K : PySem.W.Frag) (mg : Str → Option Value) (x : Str) (d : D) : Prop := ∃ (u : Value) (v : V), mg x = some u ∧ RelV v u ∧ ∀ ι H, Rep K ι H d v
theorem je_k {X : Cx} {W : WX} {x : Str} {d : D} {pos : Pos} (h : ConstJ X.K X.mg x d) (hg : Gl X x := by rfl) (hd : (x == ("__debug__" : Str)) = false := by decide) : JE X ca W (.Name x pos) (gC d) := by
  obtain ⟨u, v, h1, h2, h3⟩ := h
  exact je_glob h1 h2 h3 hg hd
end
end J


set_option Elab.async false
set_option linter.all false
set_option maxRecDepth 100000
set_option maxHeartbeats 4000000
/-! J6: a def that tries what it is handed; constants of the module; the law's def; the end. -/
namespace J
open PySem PySem.Spec L2
open PyProof.Rows (envOfC)

/-- the def: try: a() / except ec as en: sst / return z -/
theorem gives_wrong {X : Cx} {ca : Ct} {x a en ec q : Str} {zv : V} {ze : Expr} {sg : Scope} {g C : Addr} {cdg : Value} {sst : Stmt} {p1 p2 p3 p4 p5 p6 p8 : Pos} {cls : List Nat} {hd : Ex → S → R D} {gs : Nat → Addr → GS}
    (hnd : [a, en].Nodup) (hen : sg.names.lookup en = some .local) (hge : sg.names.lookup ec = some .globalImplicit) (hme : X.mg ec = some (.ref C)) (hde : (ec == ("__debug__" : Str)) = false)
    (hze : ∀ (s : Shared) (H : Hp), PE (cxOf C8.CX0 X.prog X.w X.K X.mg X.base [a, en] x sg g cdg X.A X.stack s H C8.E0).nox ze (tC zv))
    (hx : ∀ i ∈ cls, PySem.W.exmOne X.K (.ref (ca.c i)) (.ref C) = some true)
    (hs : ∀ (s : Shared) (H : Hp), ∀ i ∈ cls, ∀ (a' : Addr) (oe : Obj) (pn : List (Addr × Obj)), Zc (.ref (ca.c i)) none oe → (∃ vs, oe.data = .fields vs) →
      JS ((cxOf C8.CX0 X.prog X.w X.K X.mg X.base [a, en] x sg g cdg X.A X.stack s H C8.E0).nox.suite a' ((a', oe) :: pn)) ca W0 sst (gs i a'))
    (hg : ∀ e s d s2, hd e s = .ok d s2 → e.cls ∈ cls ∧ e.arg = none ∧ ∀ a', gs e.cls a' [none, some (.raw a')] s = .ok (.rt d) s2) :
    LamX.GivesTo X [a, en] x sg g cdg [.Try [.Expr (.Call (.Name a p1) [] [] p2) p3] [.ExceptHandler (some (.Name ec p4)) (some en) [sst] p5] [] [] p6, .Return (some ze) p8] a q (TTw X.K ca zv hd) := by
  intro f c' s H Q tl act hc h
  have hgl : Gl (cxOf C8.CX0 X.prog X.w X.K X.mg X.base [a, en] x sg g cdg X.A X.stack s H C8.E0).nox ec := hge
  refine ⟨_, pss_cons (ps_try_as (X := (cxOf C8.CX0 X.prog X.w X.K X.mg X.base [a, en] x sg g cdg X.A X.stack s H C8.E0).nox) (c := .ref C) (i := 1) (Wout := fun _ _ _ _ => False)
      (tb := fun W D σ H => ∃ Ech : XK, (∀ cls d σ' H', Ech cls d H' → W cls d σ' H') ∧ σ[0]? = some (some (.ref f)) ∧ H c' = some (LamX.CodeO c' q) ∧ tl Ech H (fun _ H' => D.nx σ H'))
      (ts := fun a' cv d D σ H => ∃ i ∈ cls, cv = .ref (ca.c i) ∧ d = none ∧ (σ.length = 2 → tS X.K ca W0 (gs i a') D σ H))
      rfl rfl hnd rfl hen ⟨hgl, hde, .inl hme⟩ LamX.takes0 (fun W pn xe tk _ => ?_) (fun a' oe cv d pn hz hf => ?_)) (pss_one (ps_ret (hze s H))), ?_⟩
  · refine ⟨fun pins s' σ H' D I h' => ?_⟩
    obtain ⟨Ech, hW, h1, h2, h3⟩ := h'
    have hp := act W pn xe Ech p1 p2 tk (fun cv d σ' H2 z => hW cv d σ' H2 z)
    exact (pss_one (ps_expr (pos := p3) hp)).run pins s' σ H' D I ⟨h1, h2, h3⟩
  · refine ⟨fun pins s' σ H' D I ⟨i, hi, e1, e2, h'⟩ => ?_⟩
    subst e1 e2
    exact (pss_one (hs s H i hi a' oe pn hz hf)).run pins s' σ H' D I (h' I.len)
  · refine ⟨fun cv d H' => ∃ e ι s, Sim X.K ca ι s H' ∧ RepX X.K ca ι H' e cv d ∧ PostE X.K ca ι H' (match hd e s with | .ok d s2 => .ok d s2 | _ => .no) Q (fun _ _ _ => False), fun cv d σ' H' ⟨e, ι, s', m, rx, p⟩ => ?_, rfl, hc, ?_⟩
    · cases eh : hd e s' with
      | err _ _ => rw [eh] at p; exact p.elim
      | no => rw [eh] at p; exact p.elim
      | ok d' s2 =>
        rw [eh] at p
        obtain ⟨h1, h2, h3⟩ := hg e s' d' s2 eh
        obtain ⟨r1, r2, _⟩ := rx
        refine ⟨true, by rw [r1]; exact hx _ h1, fun _ a' _ => ⟨e.cls, h1, r1, r2 h2, fun hl => ⟨ι, [none, some (.raw a')], s', ⟨hl.symm, fun i d hi => ?_⟩, m, ?_⟩⟩, fun z => by cases z⟩
        · match i, hi with
          | 1, hi =>
            cases hi
            rw [List.length_set] at hl
            exact ⟨_, List.getElem?_set_self (by omega), .raw a'⟩
        · rw [h3 a']
          exact fun ι' v H2 l m2 r => p ι' v H2 l m2 r
    · exact h

/-! ### constants of the module -/
mutual
def reprB (K : PySem.W.Frag) : D → Value → Bool
  | .int i, .int j _ => i == j
  | .str x, .str y _ => decide (x = y)
  | .bl a, .bool b => a == b
  | .non, .none => true
  | .tup ds, .ref a => (match K.lookup a with
    | some ⟨.type c, _, .seq its _, _⟩ => decide (c = "tuple") && (decide (its.size ≤ sizeLine) && reprsB K ds its.toList)
    | _ => false)
  | _, _ => false
def reprsB (K : PySem.W.Frag) : List D → List Value → Bool
  | [], [] => true
  | d :: ds, u :: us => reprB K d u && reprsB K ds us
  | _, _ => false
end
mutual
theorem reprB_ok {K : PySem.W.Frag} : ∀ {d : D} {u : Value}, reprB K d u = true → ∃ v, RelV v u ∧ ∀ ι H, Rep K ι H d v
  | .int i, u, h => by
    cases u <;> simp only [reprB] at h <;> first | cases h | skip
    rename_i j t
    have e : i = j := by simpa using h
    subst e
    exact ⟨.int i, ⟨t, rfl⟩, fun _ _ => .int i⟩
  | .str x, u, h => by
    cases u <;> simp only [reprB] at h <;> first | cases h | skip
    rename_i y t
    have e : x = y := by simpa using h
    subst e
    exact ⟨.str x, ⟨t, rfl⟩, fun _ _ => .str x⟩
  | .bl x, u, h => by
    cases u <;> simp only [reprB] at h <;> first | cases h | skip
    rename_i y
    have e : x = y := by simpa using h
    subst e
    exact ⟨.bl x, rfl, fun _ _ => .bl x⟩
  | .non, u, h => by
    cases u <;> simp only [reprB] at h <;> first | cases h | skip
    exact ⟨.non, rfl, fun _ _ => .non⟩
  | .tup ds, u, h => by
    cases u <;> simp only [reprB] at h <;> first | cases h | skip
    rename_i a
    split at h
    · rename_i c od its n sl e
      simp only [Bool.and_eq_true, decide_eq_true_eq] at h
      obtain ⟨rfl, h2, h3⟩ := h
      obtain ⟨vs, rv, rr⟩ := reprsB_ok h3
      exact ⟨.ref a, rfl, fun ι H => .tup (.inr ⟨_, its, n, e, rfl, rfl, h2, rv⟩) (rr ι H)⟩
    · cases h
  | .ty _, u, h => by simp [reprB] at h
  | .lst _, u, h => by simp [reprB] at h
  | .frz _, u, h => by simp [reprB] at h
  | .obj _, u, h => by simp [reprB] at h
  | .raw _, u, h => by simp [reprB] at h
theorem reprsB_ok {K : PySem.W.Frag} : ∀ {ds : List D} {us : List Value}, reprsB K ds us = true → ∃ vs, Vals vs us ∧ ∀ ι H, Reps K ι H ds vs
  | [], [], _ => ⟨[], .nil, fun _ _ => .nil⟩
  | [], _ :: _, h => by simp [reprsB] at h
  | _ :: _, [], h => by simp [reprsB] at h
  | d :: ds, u :: us, h => by
    simp only [reprsB, Bool.and_eq_true] at h
    obtain ⟨v, r1, r2⟩ := reprB_ok h.1
    obtain ⟨vs, r3, r4⟩ := reprsB_ok h.2
    exact ⟨v :: vs, .cons r1 r3, fun ι H => .cons (r2 ι H) (r4 ι H)⟩
end
def constB (K : PySem.W.Frag) (x : Str) (d : D) : Bool := match PySem.W.nsIn K mainGlobals x with
  | some (some u) => reprB K d u
  | _ => false
theorem const_ok {K : PySem.W.Frag} {h : Heap} {mg : Str → Option Value} (X : K.In h) (G : h.Ns mainGlobals mg) {x : Str} {d : D} (c : constB K x d = true) : ConstJ K mg x d := by
  unfold constB at c
  split at c
  · rename_i u e
    obtain ⟨v, r1, r2⟩ := reprB_ok c
    exact ⟨u, v, PySem.W.mg_of X G e, r1, r2⟩
  · cases c
/-! ### own errors -/
def excCB (K : PySem.W.Frag) (D₀ : Addr) : Bool :=
  decide (PySem.W.findIn K (.ref D₀) "__getattribute__" = some (some (.builtin "BaseException.__getattribute__"))) && (decide (PySem.W.findIn K (.ref D₀) "__getattr__" = some none) && (decide (PySem.W.subIn K (.ref D₀) (.type "BaseException") = some true) && (PySem.W.hasDictIn K D₀ &&
    (decide (PySem.W.findIn K (.ref D₀) "__class__" = some (some (.builtin "object.__class__"))) && (decide (PySem.W.specialIn K (.builtin "object.__class__") "__get__" = some (some (.builtin "getset_descriptor.__get__"))) && (decide (PySem.W.takesIn K (.builtin "object.__class__") = some true) && decide (PySem.W.mroIn K D₀ (.type "object") = some true)))))))
theorem excCB_ok {K : PySem.W.Frag} {D₀ : Addr} (h : excCB K D₀ = true) : ExcC K D₀ := by
  simp only [excCB, Bool.and_eq_true, decide_eq_true_eq] at h
  exact ⟨h.1, h.2.1, h.2.2.1, h.2.2.2.1, h.2.2.2.2.1, h.2.2.2.2.2.1, h.2.2.2.2.2.2.1, h.2.2.2.2.2.2.2⟩
def kitB2 (K : PySem.W.Frag) (x y : Str) (b : Bool) : Bool := decide (PySem.W.kitOne K (.ref (He.ga K x)) (.ref (He.ga K y)) = some b)
theorem excJ_ok {K : PySem.W.Frag} {h : Heap} {mg : Str → Option Value} {ca : Ct} {i : Nat} {x : Str} (X : K.In h) (G : h.Ns mainGlobals mg) (c : (He.Fa.exc x).ok K = true) (g : (He.Fa.glo x).ok K = true) (e : ca.c i = He.ga K x) : ExcJ K mg ca i x := by
  obtain ⟨h1, h2, h3, h4⟩ := He.exc_ok c
  exact ⟨by rw [e]; exact He.glo_ok X G g, by rw [e]; exact h1, by rw [e]; exact h2, by rw [e]; exact h3, by rw [e]; exact h4⟩

/-! ### the law's def -/
theorem fnJL {ca : Ct} {P : Program} {w : World} {K : PySem.W.Frag} {mg : Str → Option Value} {base : Heap} {x qual : Str} {params : Arguments} {body : List Stmt} {scope : Scope} {f c : Addr} {fd : FuncData} {N ps : List Str} {k : Nat} {b : GS} (F : FunD K x qual params body scope [] [] f fd) (Sc : FnScope N ps scope)
    (hf : He.fAd K (x, none) = f) (hc : He.codeOf K (x, none) = c)
    (hb : ∀ (cdv : Value) (A : Around) (outer : List PySem.Env) (s : Shared) (H : Hp) (E : XK), cdv = .ref c → Room k (A.deeper (envOfC qual scope s.heap.objs.size f cdv)) →
      JSs (cxOf (L2.CX P w) P w K mg base N qual scope f cdv A outer s H E) ca (fun cls d _ H => E cls d H) body b) : FnOk P w K mg base (L2.CX P w) (k + 1) f fd ps (spJ K ca ps.length (runF N.length b)) := by
  obtain ⟨oc, od, dV, kV, doc, pm, an, cdv, ct, osl, rfl, lk, hcd, _, _⟩ := F.ex
  obtain ⟨c', rfl⟩ := He.codeIn_ref hcd
  have ec : c' = c := by rw [← hc]; exact (He.codeOf_eq (by rw [hf]; exact lk) rfl).symm
  refine fn_of lk hcd Sc (fun vs H Q E ⟨ι, ds, s, hr, hm, hl, h⟩ => by rw [← hr.length, hl]) (fun A outer s H vs Q E hr h => ⟨_, hb (.ref c') A outer s H E (by rw [ec]) hr, ?_⟩)
  obtain ⟨ι, ds, s', hrs, hm, hl, h⟩ := h
  refine ⟨ι, _, s', relS_start N hrs, hm, ?_⟩
  unfold runF at h
  cases e : b (ds.map some ++ List.replicate (N.length - ds.length) none) s' with
  | err y s1 => rw [e] at h; exact fun ι' cv dd H' σ' l m q => h ι' cv dd H' l m q
  | no => rw [e] at h; exact h
  | ok fl s1 =>
    rw [e] at h
    cases fl with
    | rt d => exact h
    | nx ρ => exact fun ι' σ' H' l m r => h ι' .non H' l m .non
    | bk ρ => exact h.elim
    | ct ρ => exact h.elim
theorem pass_none {P : Program} {w : World} {H : Hp} {s : Shared} {e : Value} {s' : Shared} (h : L2.CX P w [] H s (fun _ _ _ => False) e s') : False := by
  obtain ⟨_, _, _, _, _, _, _, _, _, _, _, _, z⟩ := h
  exact z.elim
/-- what the end asks of a law: for every script of at most 63 ints its mirror gives True -/
theorem spJ_law {K : PySem.W.Frag} {ca : Ct} {F : List D → S → R D} {H : Hp} {a : Addr} {ns : List Int} (hT : ∀ p ∈ ca.T, H p.1 = some (.tbl #[])) (hx : ca.x = []) (hS : SqL K H a (ns.map V.int)) (h : ∃ s', F [.frz (ns.map D.int)] [] = .ok (.bl true) s') :
    spJ K ca 1 F [.ref a] H (fun v _ => v = .bl true) (fun _ _ _ => False) := by
  obtain ⟨s', h⟩ := h
  have ri : ∀ ns : List Int, Reps K ⟨[], []⟩ H (ns.map D.int) (ns.map V.int) := fun ns => by
    induction ns with
    | nil => exact .nil
    | cons n ns ih => exact .cons (.int n) ih
  have r : Rep K ⟨[], []⟩ H (.frz (ns.map D.int)) (.ref a) := by
    rcases hS with (h1 | ⟨o, h1⟩) | h1
    · exact .frz2 h1 (by simp) (ri ns)
    · exact .frz (.inl ⟨o, h1⟩) (ri ns)
    · exact .frz (.inr h1) (ri ns)
  refine ⟨⟨[], []⟩, [.frz (ns.map D.int)], [], .cons r .nil, ⟨rfl, List.nodup_nil, (fun _ h => (List.not_mem_nil h).elim), (fun _ h => (List.not_mem_nil h).elim), ⟨(fun p hp => ⟨#[], hT p hp, List.not_mem_nil, trivial, fun pos cv hc => ?_⟩), fun p hp => by rw [hx] at hp; cases hp⟩, (fun n a o h => (nomatch (show ([] : List Addr)[n]? = some a from h)))⟩, rfl, ?_⟩
  · have z : codeAmong pos [] = some cv := hc
    simp [codeAmong] at z
  · rw [h]
    intro ι' v H' l m q
    cases q
    rfl
end J


set_option Elab.async false
set_option linter.all false
set_option maxRecDepth 100000
set_option maxHeartbeats 4000000
/-! J7: plain lemmas about the mirrors' words. -/
namespace J
open PySem L2

theorem lcLoop_pure {t : TD} {gt : GT} {ge : GE} {ρ : Env} {s : S} (p : D → Bool) (f : D → D) : ∀ xs : List D, (∀ x ∈ xs, ∃ ρ1, t x ρ = some ρ1 ∧ gt ρ1 s = .ok (p x) s ∧ (p x = true → ge ρ1 s = .ok (f x) s)) → lcLoop t gt ge ρ xs s = .ok ((xs.filter p).map f) s
  | [], _ => rfl
  | x :: xs, h => by
    obtain ⟨ρ1, h1, h2, h3⟩ := h x List.mem_cons_self
    have ih := lcLoop_pure p f xs fun y hy => h y (List.mem_cons_of_mem _ hy)
    unfold lcLoop
    rw [h1]
    simp only [h2, noErr, R.bind_ok]
    cases e : p x with
    | true =>
      simp only [if_true, h3 e, ih, R.bind_ok]
      rw [List.filter_cons_of_pos e]; rfl
    | false =>
      simp only [Bool.false_eq_true, if_false, ih]
      rw [List.filter_cons_of_neg (by rw [e]; exact Bool.false_ne_true)]
/-- the whole comprehension, of a thing that changes nothing -/
theorem gLc_pure {own : List Nat} {gi : GA} {t : TD} {gt : GT} {ge : GE} {ρ : Env} {s s1 : S} {xs : List D} (p : D → Bool) (f : D → D) (hi : gi ρ s = .ok xs s1) (hl : xs.length ≤ 16777216)
    (h : ∀ x ∈ xs, ∃ ρ1, t x (wipeD own ρ) = some ρ1 ∧ gt ρ1 s1 = .ok (p x) s1 ∧ (p x = true → ge ρ1 s1 = .ok (f x) s1)) : gLc own gi t gt ge ρ s = .ok (.lst ((xs.filter p).map f)) s1 := by
  unfold gLc
  rw [hi]
  simp only [R.bind_ok]
  rw [if_pos (by simpa [fitL] using hl), lcLoop_pure p f xs h]
  rfl
theorem eqD_str (s : S) (a b : Str) (ha : PyData.strOk a = true) (hb : PyData.strOk b = true) : eqD s (.str a) (.str b) = some (a == b) := by simp [eqD, deref, D.toPy, SeqAt.shaped, PyData.canLay0, PyData.depth, PyData.eqv, ha, hb]
@[simp] theorem eqD_int (s : S) (a b : Int) : eqD s (.int a) (.int b) = some (a == b) := by simp [eqD, deref, D.toPy, SeqAt.shaped, PyData.canLay0, PyData.depth, PyData.eqv]
@[simp] theorem eqD_bl (s : S) (a b : Bool) : eqD s (.bl a) (.bl b) = some (a == b) := by simp [eqD, deref, D.toPy, SeqAt.shaped, PyData.canLay0, PyData.depth, PyData.eqv]
@[simp] theorem eqD_non (s : S) : eqD s .non .non = some true := by simp [eqD, deref, D.toPy, SeqAt.shaped, PyData.canLay0, PyData.depth, PyData.eqv]
@[simp] theorem eqD_non_int (s : S) (a : Int) : eqD s .non (.int a) = some false := by simp [eqD, deref, D.toPy, SeqAt.shaped, PyData.canLay0, PyData.depth, PyData.eqv]
@[simp] theorem eqD_int_non (s : S) (a : Int) : eqD s (.int a) .non = some false := by simp [eqD, deref, D.toPy, SeqAt.shaped, PyData.canLay0, PyData.depth, PyData.eqv]
theorem toPys_ints : ∀ ns : List Int, D.toPys (ns.map D.int) = some (ns.map PyData.int)
  | [] => rfl
  | n :: ns => by simp [D.toPys, D.toPy, toPys_ints ns]
theorem shaped_ints (ns : List Int) : SeqAt.shaped (.list (ns.map PyData.int)) = true := by
  have h1 : ∀ ns : List Int, PyData.canLayAll0 (ns.map PyData.int) = true := fun ns => by
    induction ns with
    | nil => simp [PyData.canLayAll0]
    | cons n ns ih => simp [PyData.canLayAll0, PyData.canLay0, ih]
  have h2 : ∀ ns : List Int, PyData.depthAll (ns.map PyData.int) ≤ 0 := fun ns => by
    induction ns with
    | nil => simp [PyData.depthAll]
    | cons n ns ih => simp [PyData.depthAll, PyData.depth] at ih ⊢; omega
  simp only [SeqAt.shaped, Bool.and_eq_true, decide_eq_true_eq]
  refine ⟨by simpa [PyData.canLay0] using h1 ns, ?_⟩
  have := h2 ns
  simp only [PyData.depth]
  omega
theorem eqvAll_ints : ∀ ns ms : List Int, PyData.eqvAll (ns.map PyData.int) (ms.map PyData.int) = (ns == ms)
  | [], [] => by simp [PyData.eqvAll]
  | [], m :: ms => by simp [PyData.eqvAll]
  | n :: ns, [] => by simp [PyData.eqvAll]
  | n :: ns, m :: ms => by simp [PyData.eqvAll, PyData.eqv, eqvAll_ints ns ms]
theorem eqD_ints (s : S) (ns ms : List Int) : eqD s (.lst (ns.map D.int)) (.lst (ms.map D.int)) = some (ns == ms) := by
  simp only [eqD, deref, D.toPy, toPys_ints, Option.map_some, shaped_ints, Bool.and_self, if_true]
  simp [PyData.eqv, eqvAll_ints]
/-! ### the words, applied -/
inductive Dm {γ : Type} (k : γ) : Type | mk
/-- bind, so that simp looks at its first part alone -/
def R.bd {α β : Type} (r : R α) (k : α → S → R β) (_ : Dm k) : R β := r.bind k
@[simp] theorem R.bd_ok {α β : Type} (a : α) (s : S) (k : α → S → R β) (u : Dm k) : (R.ok a s).bd k u = k a s := id rfl
@[simp] theorem R.bd_err {α β : Type} (e : Ex) (s : S) (k : α → S → R β) (u : Dm k) : (R.err e s).bd k u = .err e s := id rfl
@[simp] theorem R.bd_no {α β : Type} (k : α → S → R β) (u : Dm k) : (R.no : R α).bd k u = .no := id rfl
@[simp] theorem ap_var (i : Nat) (ρ : Env) (s : S) : gVar i ρ s = match ρ[i]? with | some (some d) => .ok d s | _ => .no := id rfl
@[simp] theorem ap_C (d : D) (ρ : Env) (s : S) : gC d ρ s = .ok d s := id rfl
@[simp] theorem ap_op2 (f : S → D → D → Option D) (ga gb : GE) (ρ : Env) (s : S) : gOp2 f ga gb ρ s = (ga ρ s).bd (fun x s1 => (gb ρ s1).bd (fun y s2 => R.ofO (f s2 x y) s2) .mk) .mk := id rfl
@[simp] theorem ap_B (g : GE) (ρ : Env) (s : S) : gB g ρ s = (g ρ s).bd (fun d s1 => match d with | .bl b => .ok b s1 | _ => .no) .mk := id rfl
@[simp] theorem ap_chain (f f' : S → D → D → Option D) (ga gb gc : GE) (ρ : Env) (s : S) : gChain f f' ga gb gc ρ s = (ga ρ s).bd (fun x s1 => (gb ρ s1).bd (fun y s2 => (R.ofO (f s2 x y) s2).bd (fun z s3 => match z with
  | .bl true => (gc ρ s3).bd (fun w s4 => R.ofO (f' s4 y w) s4) .mk
  | .bl false => .ok (.bl false) s3
  | _ => .no) .mk) .mk) .mk := id rfl
@[simp] theorem ap_not (t : GT) (ρ : Env) (s : S) : gNot t ρ s = (t ρ s).bd (fun b s1 => .ok (!b) s1) .mk := id rfl
@[simp] theorem ap_and (t u : GT) (ρ : Env) (s : S) : gAnd t u ρ s = (t ρ s).bd (fun b s1 => if b then u ρ s1 else .ok false s1) .mk := id rfl
@[simp] theorem ap_or (t u : GT) (ρ : Env) (s : S) : gOr t u ρ s = (t ρ s).bd (fun b s1 => if b then .ok true s1 else u ρ s1) .mk := id rfl
@[simp] theorem ap_andV (ga gb : GE) (ρ : Env) (s : S) : gAndV ga gb ρ s = (ga ρ s).bd (fun d s1 => match d with | .bl true => gb ρ s1 | .bl false => .ok (.bl false) s1 | _ => .no) .mk := id rfl
@[simp] theorem ap_orV (ga gb : GE) (ρ : Env) (s : S) : gOrV ga gb ρ s = (ga ρ s).bd (fun d s1 => match d with | .bl true => .ok (.bl true) s1 | .bl false => gb ρ s1 | _ => .no) .mk := id rfl
@[simp] theorem ap_notV (ga : GE) (ρ : Env) (s : S) : gNotV ga ρ s = (ga ρ s).bd (fun d s1 => match d with | .bl b => .ok (.bl !b) s1 | _ => .no) .mk := id rfl
@[simp] theorem ap_if (t : GT) (ga gb : GE) (ρ : Env) (s : S) : gIf t ga gb ρ s = (t ρ s).bd (fun b s1 => if b then ga ρ s1 else gb ρ s1) .mk := id rfl
@[simp] theorem ap_neg (ga : GE) (ρ : Env) (s : S) : gNeg ga ρ s = (ga ρ s).bd (fun d s1 => match d with | .int i => .ok (.int (-i)) s1 | _ => .no) .mk := id rfl
@[simp] theorem ap_nil (ρ : Env) (s : S) : gaNil ρ s = .ok [] s := id rfl
@[simp] theorem ap_cons (g : GE) (r : GA) (ρ : Env) (s : S) : gaCons g r ρ s = (g ρ s).bd (fun d s1 => (r ρ s1).bd (fun ds s2 => .ok (d :: ds) s2) .mk) .mk := id rfl
@[simp] theorem ap_tup (g : GA) (ρ : Env) (s : S) : gTup g ρ s = (g ρ s).bd (fun ds s1 => if fitL ds.length then .ok (.tup ds) s1 else .no) .mk := id rfl
@[simp] theorem ap_lst (g : GA) (ρ : Env) (s : S) : gLst g ρ s = (g ρ s).bd (fun ds s1 => if fitL ds.length then .ok (.lst ds) s1 else .no) .mk := id rfl
@[simp] theorem ap_lstM (g : GA) (ρ : Env) (s : S) : gLstM g ρ s = (g ρ s).bd (fun ds s1 => if fitL ds.length then .ok (.obj s1.length) (s1 ++ [.lst ds]) else .no) .mk := id rfl
@[simp] theorem ap_F (f : S → List D → Option D) (gr : GA) (ρ : Env) (s : S) : gF f gr ρ s = (gr ρ s).bd (fun ds s1 => R.ofO (f s1 ds) s1) .mk := id rfl
@[simp] theorem ap_call (n : Nat) (F : List D → S → R D) (gr : GA) (ρ : Env) (s : S) : gCall n F gr ρ s = (gr ρ s).bd (fun ds s1 => if ds.length = n then F ds s1 else .no) .mk := id rfl
@[simp] theorem ap_sl (g : GE) (lo hi : GO) (ρ : Env) (s : S) : gSl g lo hi ρ s = (g ρ s).bd (fun x s1 => (lo ρ s1).bd (fun l s2 => (hi ρ s2).bd (fun h s3 => R.ofO (fSl s3 x l h) s3) .mk) .mk) .mk := id rfl
@[simp] theorem ap_goNone (ρ : Env) (s : S) : goNone ρ s = .ok none s := id rfl
@[simp] theorem ap_goSome (g : GE) (ρ : Env) (s : S) : goSome g ρ s = (g ρ s).bd (fun d s1 => match d with | .int i => .ok (some i) s1 | _ => .no) .mk := id rfl
@[simp] theorem ap_dictC (kvs : List (Str × Str)) (gk : GE) (ρ : Env) (s : S) : gDictC kvs gk ρ s = (gk ρ s).bd (fun d s1 => match d with | .str x => R.ofO (dictV kvs x) s1 | _ => .no) .mk := id rfl
@[simp] theorem ap_items (g : GE) (ρ : Env) (s : S) : gItems g ρ s = (g ρ s).bd (fun d s1 => R.ofO (itemsF d) s1) .mk := id rfl
@[simp] theorem ap_range1 (gr : GA) (ρ : Env) (s : S) : gRange1 gr ρ s = (gr ρ s).bd (fun ds s1 => match ds with | [.int j] => if okR j then .ok (rangeD 0 j) s1 else .no | _ => .no) .mk := id rfl
@[simp] theorem ap_range2 (gr : GA) (ρ : Env) (s : S) : gRange2 gr ρ s = (gr ρ s).bd (fun ds s1 => match ds with | [.int i, .int j] => if okR i && okR j then .ok (rangeD i j) s1 else .no | _ => .no) .mk := id rfl
@[simp] theorem ap_lc (own : List Nat) (gi : GA) (t : TD) (gt : GT) (ge : GE) (ρ : Env) (s : S) : gLc own gi t gt ge ρ s = (gi ρ s).bd (fun ds s1 => if fitL ds.length then (lcLoop t gt ge (wipeD own ρ) ds s1).bd (fun ys s2 => .ok (.lst ys) s2) .mk else .no) .mk := id rfl
@[simp] theorem ap_yes (ρ : Env) (s : S) : gYes ρ s = .ok true s := id rfl
@[simp] theorem ap_next (ρ : Env) (s : S) : sNext ρ s = .ok (.nx ρ) s := id rfl
@[simp] theorem ap_seq (a b : GS) (ρ : Env) (s : S) : sSeq a b ρ s = (a ρ s).bd (fun f s1 => match f with | .nx ρ1 => b ρ1 s1 | f => .ok f s1) .mk := id rfl
@[simp] theorem ap_expr (g : GE) (ρ : Env) (s : S) : sExpr g ρ s = (g ρ s).bd (fun _ s1 => .ok (.nx ρ) s1) .mk := id rfl
@[simp] theorem ap_ret (g : GE) (ρ : Env) (s : S) : sRet g ρ s = (g ρ s).bd (fun d s1 => .ok (.rt d) s1) .mk := id rfl
@[simp] theorem ap_asg (g : GE) (t : TD) (ρ : Env) (s : S) : sAsg g t ρ s = (g ρ s).bd (fun d s1 => match t d ρ with | some ρ1 => .ok (.nx ρ1) s1 | none => .no) .mk := id rfl
@[simp] theorem ap_sif (t : GT) (a b : GS) (ρ : Env) (s : S) : sIf t a b ρ s = (t ρ s).bd (fun k s1 => if k then a ρ s1 else b ρ s1) .mk := id rfl
@[simp] theorem ap_par (i j : Nat) (gr : GA) (ρ : Env) (s : S) : sPar i j gr ρ s = (gr ρ s).bd (fun ds s1 => match ds with | [d, e] => .ok (.nx ((ρ.set i (some d)).set j (some e))) s1 | _ => .no) .mk := id rfl
@[simp] theorem ap_for (t : TD) (gi : GA) (b : GS) (ρ : Env) (s : S) : sFor t gi b ρ s = (gi ρ s).bd (fun ds s1 => forLoop t b ds ρ s1) .mk := id rfl
@[simp] theorem ap_raise (c : Nat) (ρ : Env) (s : S) : sRaise c ρ s = .err ⟨c, none⟩ s := id rfl
@[simp] theorem ap_setIx (ge go gi : GE) (ρ : Env) (s : S) : sSetIx ge go gi ρ s = (ge ρ s).bd (fun x s1 => (go ρ s1).bd (fun o s2 => (gi ρ s2).bd (fun i s3 => match putL s3 o i x with
  | some s4 => .ok (.nx ρ) s4
  | none => .no) .mk) .mk) .mk := id rfl
@[simp] theorem ap_dName (i : Nat) (d : D) (ρ : Env) : dName i d ρ = some (ρ.set i (some d)) := id rfl
@[simp] theorem ap_dsNil (ρ : Env) : dsNil [] ρ = some ρ := id rfl
@[simp] theorem ap_dsCons (t : TD) (r : List D → Env → Option Env) (d : D) (ds : List D) (ρ : Env) : dsCons t r (d :: ds) ρ = (t d ρ).bind (r ds) := id rfl
@[simp] theorem ap_dTup (n : Nat) (t : List D → Env → Option Env) (ds : List D) (ρ : Env) : dTup n t (.tup ds) ρ = if ds.length = n then t ds ρ else none := id rfl
@[simp] theorem ap_run (n : Nat) (b : GS) (ds : List D) (s : S) : runF n b ds s = (b (ds.map some ++ List.replicate (n - ds.length) none) s).bd (fun f s1 => match f with
  | .rt d => .ok d s1
  | .nx _ => .ok .non s1
  | _ => .no) .mk := id rfl
@[simp] theorem ap_fEq (s : S) (x y : D) : fEq s x y = (eqD s x y).map .bl := id rfl
@[simp] theorem ap_fNe (s : S) (x y : D) : fNe s x y = (eqD s x y).map fun b => .bl !b := id rfl
@[simp] theorem ap_fIn (s : S) (x y : D) : fIn s x y = (inD s x y).map .bl := id rfl
@[simp] theorem ap_fNotIn (s : S) (x y : D) : fNotIn s x y = (inD s x y).map fun b => .bl !b := id rfl
@[simp] theorem ap_fIs (s : S) (x y : D) : fIs s x y = (isD x y).map .bl := id rfl
@[simp] theorem ap_fIsN (s : S) (x y : D) : fIsN s x y = (isD x y).map fun b => .bl !b := id rfl
@[simp] theorem ap_subI (s : S) (i j : Int) : fSub s (.int i) (.int j) = some (.int (i - j)) := id rfl
@[simp] theorem ap_addI (s : S) (i j : Int) : fAdd s (.int i) (.int j) = some (.int (i + j)) := id rfl
@[simp] theorem ap_addS (s : S) (i j : Str) : fAdd s (.str i) (.str j) = if fitL (i.length + j.length) then some (.str (i ++ j)) else none := id rfl
@[simp] theorem ap_ltI (s : S) (i j : Int) : fLt s (.int i) (.int j) = some (.bl (decide (i < j))) := id rfl
@[simp] theorem ap_leI (s : S) (i j : Int) : fLe s (.int i) (.int j) = some (.bl (decide (i ≤ j))) := id rfl
@[simp] theorem ap_gtI (s : S) (i j : Int) : fGt s (.int i) (.int j) = some (.bl (decide (j < i))) := id rfl
@[simp] theorem ap_geI (s : S) (i j : Int) : fGe s (.int i) (.int j) = some (.bl (decide (j ≤ i))) := id rfl
@[simp] theorem ap_isNN : isD .non .non = some true := id rfl
@[simp] theorem ap_isI (i : Int) : isD (.int i) .non = some false := id rfl
@[simp] theorem ap_isS (i : Str) : isD (.str i) .non = some false := id rfl
@[simp] theorem ap_isT (i : List D) : isD (.tup i) .non = some false := id rfl
@[simp] theorem ap_isL (i : List D) : isD (.lst i) .non = some false := id rfl
@[simp] theorem ap_isB (i : Bool) : isD (.bl i) .non = some false := id rfl
@[simp] theorem ap_idxT (s : S) (ds : List D) (i : Int) : fIdx s (.tup ds) (.int i) = atI ds i := id rfl
@[simp] theorem ap_idxL (s : S) (ds : List D) (i : Int) : fIdx s (.lst ds) (.int i) = atI ds i := id rfl
@[simp] theorem ap_idxZ (s : S) (ds : List D) (i : Int) : fIdx s (.frz ds) (.int i) = atI ds i := id rfl
@[simp] theorem ap_lenT (s : S) (ds : List D) : fLen s (.tup ds) = some (.int ds.length) := id rfl
@[simp] theorem ap_lenL (s : S) (ds : List D) : fLen s (.lst ds) = some (.int ds.length) := id rfl
@[simp] theorem ap_lenZ (s : S) (ds : List D) : fLen s (.frz ds) = some (.int ds.length) := id rfl
@[simp] theorem ap_f1 (f : S → D → Option D) (s : S) (x : D) : f1 f s [x] = f s x := id rfl
@[simp] theorem ap_int (s : S) (i : Int) : fInt s (.int i) = some (.int i) := id rfl
@[simp] theorem ap_tupT (s : S) (ds : List D) : fTuple s (.tup ds) = some (.tup ds) := id rfl
@[simp] theorem ap_tupL (s : S) (ds : List D) : fTuple s (.lst ds) = some (.tup ds) := id rfl
@[simp] theorem ap_slT (s : S) (ds : List D) (lo hi : Option Int) : fSl s (.tup ds) lo hi = some (.tup (cutD ds lo hi)) := id rfl
@[simp] theorem ap_slL (s : S) (ds : List D) (lo hi : Option Int) : fSl s (.lst ds) lo hi = some (.lst (cutD ds lo hi)) := id rfl
@[simp] theorem ap_itT (ds : List D) : itemsF (.tup ds) = some ds := id rfl
@[simp] theorem ap_itL (ds : List D) : itemsF (.lst ds) = some ds := id rfl
@[simp] theorem atI_zero (d : D) (ds : List D) : atI (d :: ds) 0 = some d := by
  have : ixN (ds.length + 1) 0 = some 0 := by simp [ixN]
  simp [atI, this]
theorem atI_nat (ds : List D) (k : Nat) (h : k < ds.length) : atI ds (k : Int) = some ds[k] := by
  have : ixN ds.length (k : Int) = some k := by simp [ixN, h]
  simp [atI, this, h]

theorem strs_toPys : ∀ xs : List Str, D.toPys (xs.map D.str) = some (xs.map PyData.str)
  | [] => rfl
  | x :: xs => by simp [D.toPys, D.toPy, strs_toPys xs]
theorem canAll_strs : ∀ xs : List Str, (∀ x ∈ xs, PyData.strOk x = true) → PyData.canLayAll0 (xs.map PyData.str) = true
  | [], _ => by simp [PyData.canLayAll0]
  | x :: xs, h => by simp [PyData.canLayAll0, PyData.canLay0, h x List.mem_cons_self, canAll_strs xs fun y hy => h y (List.mem_cons_of_mem _ hy)]
theorem depthAll_strs : ∀ xs : List Str, PyData.depthAll (xs.map PyData.str) ≤ 0
  | [] => by simp [PyData.depthAll]
  | x :: xs => by have := depthAll_strs xs; simp [PyData.depthAll, PyData.depth] at this ⊢; omega
theorem shaped_strs (xs : List Str) (h : ∀ x ∈ xs, PyData.strOk x = true) : SeqAt.shaped (.tuple (xs.map PyData.str)) = true ∧ SeqAt.shaped (.list (xs.map PyData.str)) = true := by
  have a := canAll_strs xs h
  have b := depthAll_strs xs
  refine ⟨?_, ?_⟩ <;>
  · simp only [SeqAt.shaped, PyData.canLay0, PyData.depth, Bool.and_eq_true, decide_eq_true_eq]
    exact ⟨a, decide_eq_true (by show PyData.depthAll _ + 1 ≤ 64; omega)⟩
theorem any_strs (x : Str) (xs : List Str) : ((xs.map PyData.str).any fun z => PyData.eqv z (PyData.str x)) = xs.any (· == x) := by
  simp [List.any_map, Function.comp_def, PyData.eqv]
theorem inD_tup (s : S) (x : Str) (xs : List Str) (hx : PyData.strOk x = true) (h : ∀ x ∈ xs, PyData.strOk x = true) : inD s (.str x) (.tup (xs.map D.str)) = some (xs.any (· == x)) := by
  have h1 : SeqAt.shaped (.str x) = true := by simp [SeqAt.shaped, PyData.canLay0, PyData.depth, hx]
  simp only [inD, D.toPy, strs_toPys, h1, (shaped_strs xs h).1, Bool.and_self, if_true, any_strs]
theorem inD_lst (s : S) (x : Str) (xs : List Str) (hx : PyData.strOk x = true) (h : ∀ x ∈ xs, PyData.strOk x = true) : inD s (.str x) (.lst (xs.map D.str)) = some (xs.any (· == x)) := by
  have h1 : SeqAt.shaped (.str x) = true := by simp [SeqAt.shaped, PyData.canLay0, PyData.depth, hx]
  simp only [inD, itemsL, D.toPy, strs_toPys, h1, (shaped_strs xs h).2, Bool.and_self, if_true, any_strs]
@[simp] theorem kn_NoneType : known "NoneType" = true := by decide +kernel
@[simp] theorem isT_NoneType_NoneType : isT "NoneType" "NoneType" = true := by decide +kernel
@[simp] theorem isT_NoneType_bool : isT "NoneType" "bool" = false := by decide +kernel
@[simp] theorem isT_NoneType_int : isT "NoneType" "int" = false := by decide +kernel
@[simp] theorem isT_NoneType_str : isT "NoneType" "str" = false := by decide +kernel
@[simp] theorem isT_NoneType_tuple : isT "NoneType" "tuple" = false := by decide +kernel
@[simp] theorem isT_NoneType_list : isT "NoneType" "list" = false := by decide +kernel
@[simp] theorem isT_NoneType_dict : isT "NoneType" "dict" = false := by decide +kernel
@[simp] theorem kn_bool : known "bool" = true := by decide +kernel
@[simp] theorem isT_bool_NoneType : isT "bool" "NoneType" = false := by decide +kernel
@[simp] theorem isT_bool_bool : isT "bool" "bool" = true := by decide +kernel
@[simp] theorem isT_bool_int : isT "bool" "int" = true := by decide +kernel
@[simp] theorem isT_bool_str : isT "bool" "str" = false := by decide +kernel
@[simp] theorem isT_bool_tuple : isT "bool" "tuple" = false := by decide +kernel
@[simp] theorem isT_bool_list : isT "bool" "list" = false := by decide +kernel
@[simp] theorem isT_bool_dict : isT "bool" "dict" = false := by decide +kernel
@[simp] theorem kn_int : known "int" = true := by decide +kernel
@[simp] theorem isT_int_NoneType : isT "int" "NoneType" = false := by decide +kernel
@[simp] theorem isT_int_bool : isT "int" "bool" = false := by decide +kernel
@[simp] theorem isT_int_int : isT "int" "int" = true := by decide +kernel
@[simp] theorem isT_int_str : isT "int" "str" = false := by decide +kernel
@[simp] theorem isT_int_tuple : isT "int" "tuple" = false := by decide +kernel
@[simp] theorem isT_int_list : isT "int" "list" = false := by decide +kernel
@[simp] theorem isT_int_dict : isT "int" "dict" = false := by decide +kernel
@[simp] theorem kn_str : known "str" = true := by decide +kernel
@[simp] theorem isT_str_NoneType : isT "str" "NoneType" = false := by decide +kernel
@[simp] theorem isT_str_bool : isT "str" "bool" = false := by decide +kernel
@[simp] theorem isT_str_int : isT "str" "int" = false := by decide +kernel
@[simp] theorem isT_str_str : isT "str" "str" = true := by decide +kernel
@[simp] theorem isT_str_tuple : isT "str" "tuple" = false := by decide +kernel
@[simp] theorem isT_str_list : isT "str" "list" = false := by decide +kernel
@[simp] theorem isT_str_dict : isT "str" "dict" = false := by decide +kernel
@[simp] theorem kn_tuple : known "tuple" = true := by decide +kernel
@[simp] theorem isT_tuple_NoneType : isT "tuple" "NoneType" = false := by decide +kernel
@[simp] theorem isT_tuple_bool : isT "tuple" "bool" = false := by decide +kernel
@[simp] theorem isT_tuple_int : isT "tuple" "int" = false := by decide +kernel
@[simp] theorem isT_tuple_str : isT "tuple" "str" = false := by decide +kernel
@[simp] theorem isT_tuple_tuple : isT "tuple" "tuple" = true := by decide +kernel
@[simp] theorem isT_tuple_list : isT "tuple" "list" = false := by decide +kernel
@[simp] theorem isT_tuple_dict : isT "tuple" "dict" = false := by decide +kernel
@[simp] theorem kn_list : known "list" = true := by decide +kernel
@[simp] theorem isT_list_NoneType : isT "list" "NoneType" = false := by decide +kernel
@[simp] theorem isT_list_bool : isT "list" "bool" = false := by decide +kernel
@[simp] theorem isT_list_int : isT "list" "int" = false := by decide +kernel
@[simp] theorem isT_list_str : isT "list" "str" = false := by decide +kernel
@[simp] theorem isT_list_tuple : isT "list" "tuple" = false := by decide +kernel
@[simp] theorem isT_list_list : isT "list" "list" = true := by decide +kernel
@[simp] theorem isT_list_dict : isT "list" "dict" = false := by decide +kernel
@[simp] theorem kn_dict : known "dict" = true := by decide +kernel
@[simp] theorem isT_dict_NoneType : isT "dict" "NoneType" = false := by decide +kernel
@[simp] theorem isT_dict_bool : isT "dict" "bool" = false := by decide +kernel
@[simp] theorem isT_dict_int : isT "dict" "int" = false := by decide +kernel
@[simp] theorem isT_dict_str : isT "dict" "str" = false := by decide +kernel
@[simp] theorem isT_dict_tuple : isT "dict" "tuple" = false := by decide +kernel
@[simp] theorem isT_dict_list : isT "dict" "list" = false := by decide +kernel
@[simp] theorem isT_dict_dict : isT "dict" "dict" = true := by decide +kernel
@[simp] theorem fIsi1 (s : S) (x : D) (c : String) : fIsi s [x, .ty c] = (tyD s x).bind fun t => if known c then some (.bl (isT t c)) else none := id rfl
@[simp] theorem fIsi2 (s : S) (x : D) (cs : List D) : fIsi s [x, .tup cs] = (tyD s x).bind fun t => (tysD cs).bind fun ns => if ns.all known then some (.bl (ns.any (isT t))) else none := id rfl
@[simp] theorem tysD_nil : tysD [] = some [] := id rfl
@[simp] theorem tysD_cons (n : String) (ds : List D) : tysD (.ty n :: ds) = (tysD ds).map (n :: ·) := id rfl
@[simp] theorem tyD_non (s : S) : tyD s .non = some "NoneType" := id rfl
@[simp] theorem tyD_bl (s : S) (b : Bool) : tyD s (.bl b) = some "bool" := id rfl
@[simp] theorem tyD_int (s : S) (b : Int) : tyD s (.int b) = some "int" := id rfl
@[simp] theorem tyD_str (s : S) (b : Str) : tyD s (.str b) = some "str" := id rfl
@[simp] theorem tyD_tup (s : S) (b : List D) : tyD s (.tup b) = some "tuple" := id rfl
@[simp] theorem tyD_lst (s : S) (b : List D) : tyD s (.lst b) = some "list" := id rfl
@[simp] theorem tyD_frz (s : S) (b : List D) : tyD s (.frz b) = some "list" := id rfl
theorem blsD_true {α : Type} : ∀ xs : List α, blsD (xs.map fun _ => D.bl true) = some (xs.map fun _ => true)
  | [] => rfl
  | x :: xs => by simp [blsD, blsD_true xs]
@[simp] theorem fAll_true {α : Type} (s : S) (xs : List α) : fAll s (.lst (xs.map fun _ => D.bl true)) = some (.bl true) := by
  simp [fAll, itemsL, blsD_true, List.all_map]
/-- a comprehension that says True of each -/
theorem lcLoop_all {t : TD} {ge : GE} {ρ : Env} {s : S} : ∀ xs : List D, (∀ x ∈ xs, ∃ ρ1, t x ρ = some ρ1 ∧ ge ρ1 s = .ok (.bl true) s) → lcLoop t gYes ge ρ xs s = .ok (xs.map fun _ => .bl true) s := fun xs h => by
  rw [lcLoop_pure (fun _ => true) (fun _ => .bl true) xs fun x hx => by
    obtain ⟨ρ1, h1, h2⟩ := h x hx
    exact ⟨ρ1, h1, rfl, fun _ => h2⟩]
  rw [List.filter_eq_self.mpr fun _ _ => rfl]

@[simp] theorem ap_wipe0 (ρ : Env) : wipeD [] ρ = ρ := id rfl
@[simp] theorem ap_wipe1 (v : Nat) (vs : List Nat) (ρ : Env) : wipeD (v :: vs) ρ = (wipeD vs ρ).set v none := id rfl
@[simp] theorem ap_fitL (n : Nat) : fitL n = decide (n ≤ 16777216) := id rfl
end J


set_option Elab.async false
set_option linter.all false
set_option maxRecDepth 100000
set_option maxHeartbeats 4000000
/-! J8: texts; append; three names at once; a text walked; a mutable list walked. -/
namespace J
open PySem PySem.Spec L2
section
variable {K : PySem.W.Frag} {ca : Ct} {ι : Wd} {H : Hp} {s : S}
theorem reps_strs : ∀ ys : List Str, Reps K ι H (ys.map D.str) (ys.map V.str)
  | [] => .nil
  | y :: ys => .cons (.str y) (reps_strs ys)
def strsD : List D → Option (List Str)
  | [] => some []
  | .str x :: ds => (strsD ds).map (x :: ·)
  | _ :: _ => none
theorem strsD_eq : ∀ {ds : List D} {ys : List Str}, strsD ds = some ys → ds = ys.map D.str
  | [], _, h => by cases h; rfl
  | .str b :: ds, _, h => by
    simp only [strsD, Option.map_eq_some_iff] at h
    obtain ⟨ys, e, rfl⟩ := h
    rw [strsD_eq e]; rfl
  | .non :: _, _, h => by cases h
  | .bl _ :: _, _, h => by cases h
  | .int _ :: _, _, h => by cases h
  | .ty _ :: _, _, h => by cases h
  | .tup _ :: _, _, h => by cases h
  | .lst _ :: _, _, h => by cases h
  | .frz _ :: _, _, h => by cases h
  | .obj _ :: _, _, h => by cases h
  | .raw _ :: _, _, h => by cases h
theorem strsD_map : ∀ ys : List Str, strsD (ys.map D.str) = some ys
  | [] => rfl
  | y :: ys => by simp [strsD, strsD_map ys]
theorem reps_strsV : ∀ {ys : List Str} {vs : List V}, Reps K ι H (ys.map D.str) vs → vs = ys.map V.str
  | [], _, h => by cases h; rfl
  | y :: ys, _, h => by
    cases h with
    | cons r t => cases r; rw [reps_strsV t]; rfl
end
section
variable {X : Cx} {ca : Ct} {W : WX} {e o : Expr} {es : List Expr} {pos apos : Pos} {g ge go : GE}
/-- a method of a text with one argument -/
def gM1 (f : S → Str → D → Option D) (go ge : GE) : GE := fun ρ s => (go ρ s).bind fun x s1 => match x with
  | .str a => (ge ρ s1).bind fun y s2 => R.ofO (f s2 a y) s2
  | _ => .no
def fSplit (_ : S) (a : Str) : D → Option D
  | .str b => if !(b.length == 0) && fitL (a.length + 2) then some (.lst ((Txt.split a b).map D.str)) else none
  | _ => none
def itemsLT (s : S) : D → Option (List D)
  | .tup ds => some ds
  | y => itemsL s y
def fJoin (s : S) (a : Str) (y : D) : Option D := ((itemsLT s y).bind strsD).bind fun ys => if fitL ((ys.map (·.length)).sum + ys.length * a.length) then some (.str (Txt.join a ys)) else none
theorem je_split (ho : JE X ca W o go) (he : JE X ca W e ge) (hs : starEach [e] X.env = [(false, eval e X.env)] := by rfl) (hbase : attributeBase o "split" X.env (eval o X.env) = eval o X.env := by rfl) (hline : (apos.endLine == pos.line) = true := by rfl) :
    JE X ca W (.Call (.Attribute o "split" apos) [e] [] pos) (gM1 fSplit go ge) :=
  PE.imp (pe_split ho he hs hbase hline) fun σ H Q ⟨ι, ρ, s, hr, hm, h⟩ => bindE famE hr hm h fun ι1 s1 x v H1 l1 hr1 hm1 rx h1 => by
    cases rx with
    | str a =>
      refine ⟨⟨a, rfl⟩, bindE famE hr1 hm1 h1 fun ι2 s2 y u H2 l2 hr2 hm2 ry h2 => ?_⟩
      cases ry with
      | str b =>
        simp only [fSplit] at h2
        split at h2
        · rename_i hc
          simp only [Bool.and_eq_true, Bool.not_eq_true'] at hc
          refine ⟨a, b, rfl, rfl, hc.1, fitL_le hc.2, fun p hp => ?_⟩
          obtain ⟨l, m'⟩ := hm2.new (o := .lst ((Txt.split a b).map V.str)) hp
          exact h2 _ _ _ l m' (.lst upd_same (hm2.ne hp) (reps_strs _))
        · exact h2.elim
      | _ => exact h2.elim
    | _ => exact h1.elim
theorem je_join (ho : JE X ca W o go) (he : JE X ca W e ge) (hs : starEach [e] X.env = [(false, eval e X.env)] := by rfl) (hbase : attributeBase o "join" X.env (eval o X.env) = eval o X.env := by rfl) (hline : (apos.endLine == pos.line) = true := by rfl) :
    JE X ca W (.Call (.Attribute o "join" apos) [e] [] pos) (gM1 fJoin go ge) :=
  PE.imp (pe_join ho he hs hbase hline) fun σ H Q ⟨ι, ρ, s, hr, hm, h⟩ => bindE famE hr hm h fun ι1 s1 x v H1 l1 hr1 hm1 rx h1 => by
    cases rx with
    | str a =>
      refine ⟨⟨a, rfl⟩, bindE famE hr1 hm1 h1 fun ι2 s2 y u H2 l2 hr2 hm2 ry h2 => ?_⟩
      simp only [fJoin] at h2
      cases e1 : itemsLT s2 y with
      | none => rw [e1] at h2; exact h2.elim
      | some ds =>
        have hit : ∃ p vs, u = .ref p ∧ (SqL X.K H2 p vs ∨ SqT X.K H2 p vs) ∧ Reps X.K ι2 H2 ds vs := by
          cases ry with
          | tup h3 h4 => cases e1; exact ⟨_, _, rfl, .inr h3.sq, h4⟩
          | non => cases e1
          | bl _ => cases e1
          | int _ => cases e1
          | str _ => cases e1
          | ty _ => cases e1
          | raw _ => cases e1
          | lst a1 a2 a3 => obtain ⟨p, vs, e, q1, q2⟩ := hm2.items (.lst a1 a2 a3) e1; exact ⟨p, vs, e, .inl q1, q2⟩
          | frz a1 a2 => obtain ⟨p, vs, e, q1, q2⟩ := hm2.items (.frz a1 a2) e1; exact ⟨p, vs, e, .inl q1, q2⟩
          | frz2 a1 a2 a3 => obtain ⟨p, vs, e, q1, q2⟩ := hm2.items (.frz2 a1 a2 a3) e1; exact ⟨p, vs, e, .inl q1, q2⟩
          | obj a1 => obtain ⟨p, vs, e, q1, q2⟩ := hm2.items (.obj a1) e1; exact ⟨p, vs, e, .inl q1, q2⟩
        rw [e1] at h2
        simp only [Option.bind_some] at h2
        cases e2 : strsD ds with
        | none => rw [e2] at h2; exact h2.elim
        | some ys =>
          rw [e2] at h2
          simp only [Option.bind_some] at h2
          have e3 := strsD_eq e2
          subst e3
          split at h2
          · rename_i hc
            obtain ⟨p, vs, rfl, h3, h4⟩ := hit
            rw [reps_strsV h4] at h3
            refine ⟨a, p, ys, rfl, rfl, h3, by simpa [fitL] using hc, h2 _ _ _ .refl hm2 (.str _)⟩
          · exact h2.elim
    | _ => exact h1.elim
/-- o.append(e) -/
def gApp (go ge : GE) : GE := fun ρ s => (go ρ s).bind fun x s1 => match x with
  | .obj n => (match s1[n]? with
    | some (.lst _) => (ge ρ s1).bind fun y s2 => (match s2[n]? with
      | some (.lst ds) => if fitL (ds.length + 1) then .ok .non (s2.set n (.lst (ds ++ [y]))) else .no
      | _ => .no)
    | _ => .no)
  | _ => .no
theorem je_append (ho : JE X ca W o go) (he : JE X ca W e ge) (hbase : attributeBase o "append" X.env (eval o X.env) = eval o X.env := by rfl)
    (hfew : ((backTo pos (starEach [e] X.env)).all (fun x => !x.1) && (backToKw pos (keywordEach [] X.env)).all (fun x => x.1.isSome)
      && decide ([e].length + ([] : List Keyword).length + (if ([] : List Keyword).isEmpty then 0 else 1) < 30)) = true := by rfl)
    (hline : (apos.endLine == pos.line) = true := by rfl) (hs : starEach [e] X.env = (false, eval e X.env) :: starEach [] X.env := by rfl) (hplain : (backTo pos (starEach [] X.env)).any (·.1) = false := by rfl) :
    JE X ca W (.Call (.Attribute o "append" apos) [e] [] pos) (gApp go ge) :=
  PE.imp (pe_bm F.plainAttrs_list F.slot_list_append F.type_list_append mt_append ho (pa_cons he pa_nil hs) hbase hfew hline hs hplain) fun σ H Q ⟨ι, ρ, s, hr, hm, h⟩ => bindE famE hr hm h fun ι1 s1 x v H1 l1 hr1 hm1 rx h1 => by
    cases rx with
    | @obj a n hn =>
      simp only at h1
      split at h1
      · rename_i ds1 hd1
        obtain ⟨vs1, k1, k2⟩ := hm1.ob n a _ hn hd1
        refine ⟨.inl ⟨rfl, vs1, SqL.of k1⟩, bindE famE hr1 hm1 h1 fun ι2 s2 y u H2 l2 hr2 hm2 ry h2 => ?_⟩
        split at h2
        · rename_i ds hds
          split at h2
          · rename_i hc
            have hn2 : ι2.ι[n]? = some a := by
              obtain ⟨t, ht⟩ := l2.toKe.pre
              rw [← ht, List.getElem?_append_left (List.getElem?_eq_some_iff.mp hn).1]; exact hn
            obtain ⟨vs, k3, k4⟩ := hm2.ob n a _ hn2 hds
            have hl := fitL_le hc
            refine ⟨a, vs, u, rfl, rfl, k3, by rw [← k4.length]; omega, ?_⟩
            obtain ⟨l, m'⟩ := hm2.write (o := .lst (vs ++ [u])) (u := .lst (ds ++ [y])) hn2 trivial fun l => ⟨_, upd_same, (k4.mono l).append (.cons (ry.mono l) .nil)⟩
            exact h2 _ _ _ l m' .non
          · exact h2.elim
        · exact h2.elim
      · exact h1.elim
    | _ => exact h1.elim
def fStr (_ : S) : D → Option D
  | .int i => if decide (i.natAbs.log2 < 1920) then some (.str (toString i)) else none
  | .str x => some (.str x)
  | _ => none
theorem cj_str : CallR X (.type "str") (rCJ X.K ca (f1 fStr)) := by
  refine cj1 (call_str_int.or SkE.call_str_str) fun ι s H d v x Q m r hf q => ?_
  cases r <;> simp only [fStr] at hf <;> first | cases hf | skip
  · split at hf
    · rename_i hc
      cases hf
      exact .inl ⟨_, rfl, of_decide_eq_true hc, q _ _ _ .refl m (.str _)⟩
    · cases hf
  · exact .inr ⟨_, rfl, q _ _ _ .refl m (.str _)⟩
def fIntS (_ : S) : D → Option D
  | .str a => if decide (a.length ≤ 640) then (PySem.intText? a).map .int else none
  | _ => none
theorem cj_intS : CallR X (.type "int") (rCJ X.K ca (f1 fIntS)) := by
  refine cj1 call_int_str fun ι s H d v x Q m r hf q => ?_
  cases r <;> simp only [fIntS] at hf <;> first | cases hf | skip
  split at hf
  · rename_i hc
    simp only [Option.map_eq_some_iff] at hf
    obtain ⟨n, hn, rfl⟩ := hf
    exact ⟨_, n, rfl, hn, of_decide_eq_true hc, q _ _ _ .refl m (.int _)⟩
  · cases hf
/-- a, b, c = x, y, z -/
def sPar3 (i j l : Nat) (gr : GA) : GS := fun ρ s => (gr ρ s).bind fun ds s1 => match ds with | [d, e, f] => .ok (.nx (((ρ.set i (some d)).set j (some e)).set l (some f))) s1 | _ => .no
theorem js_par3 (i j l : Nat) {x y z : Str} {a b c : Expr} {gr : GA} {px py pz pt : Pos} {kt k2 pt2} (hc : X.calm = true) (hN : X.N.Nodup) (ha : JA X ca W [a, b, c] gr) (hi : X.N[i]? = some x := by rfl) (hj : X.N[j]? = some y := by rfl) (hl : X.N[l]? = some z := by rfl) (hij : i ≠ j := by decide) (hil : i ≠ l := by decide) (hjl : j ≠ l := by decide)
    (hx : X.env.scope.names.lookup x = some .local := by rfl) (hy : X.env.scope.names.lookup y = some .local := by rfl) (hz : X.env.scope.names.lookup z = some .local := by rfl)
    (hw : swappedStores [.Tuple [.Name x px, .Name y py, .Name z pz] kt pt] (.Tuple [a, b, c] k2 pt2) X.env = pure (some [x, y, z]) := by rfl)
    (hs : swapsWithSole [.Tuple [.Name x px, .Name y py, .Name z pz] kt pt] (.Tuple [a, b, c] k2 pt2) pos.line X.env = pure false := by rfl) :
    JS X ca W (.Assign [.Tuple [.Name x px, .Name y py, .Name z pz] kt pt] (.Tuple [a, b, c] k2 pt2) pos) (sPar3 i j l gr) := PS.imp (ps_par3 hc hN hi hj hl hij hil hjl hx hy hz ha hw hs) fun D σ H ⟨ι, ρ, s, hr, hm, h⟩ =>
  bindA famS hr hm h fun ι1 s1 ds vs H1 l1 hr1 hm1 rs h1 => by
    cases rs with
    | nil => exact h1.elim
    | cons r1 rs =>
      cases rs with
      | nil => exact h1.elim
      | cons r2 rs =>
        cases rs with
        | nil => exact h1.elim
        | cons r3 rs =>
          cases rs with
          | nil => exact ⟨_, _, _, rfl, h1 ι1 _ H1 .refl hm1 (((hr1.set r1 i).set r2 j).set r3 l)⟩
          | cons _ _ => exact h1.elim
/-! ### a text's signs -/
def signs (x : Str) : List D := x.cps.toList.map fun c => D.str ⟨#[c]⟩
def gSigns (g : GE) : GA := fun ρ s => (g ρ s).bind fun d s1 => match d with | .str x => .ok (signs x) s1 | _ => .no
theorem ji_signs {tg : Expr} (h : JE X ca W e g) : JI X ca W tg e (gSigns g) := by
  refine PI.imp (pi_str h) fun σ H R ⟨ι, ρ, s, hr, hm, h⟩ => ?_
  unfold gSigns at h
  cases e : g ρ s with
  | err x s1 =>
    rw [e] at h
    exact ⟨ι, ρ, s, hr, hm, by rw [e]; exact h⟩
  | no => rw [e] at h; exact h.elim
  | ok d s1 =>
    rw [e] at h
    refine ⟨ι, ρ, s, hr, hm, ?_⟩
    rw [e]
    intro ι' v H' l m r
    cases r with
    | str x =>
      refine ⟨x, rfl, h ι' _ H' l m fun ι2 H2 l2 => ⟨fun i d hd => ?_, fun i hi => ?_⟩⟩
      · simp only [signs, List.getElem?_map, Option.map_eq_some_iff] at hd
        obtain ⟨c, hc, rfl⟩ := hd
        have hc' : x.cps[i]? = some c := by rw [← hc]; simp
        refine ⟨?_, fun y H'' ⟨e1, c', hc2, e2⟩ => ⟨e1, ?_⟩⟩
        · have := (Array.getElem?_eq_some_iff.mp hc').1
          exact this
        · rw [hc'] at hc2; cases hc2
          rw [e2]; exact .str _
      · exact (by simpa [signs] using hi : x.cps.size ≤ i)
    | _ => exact h.elim
/-! ### a comprehension over a mutable list, whose part changes nothing -/
def lcM (ge : GE) (i : Nat) (ρ : Env) (s : S) : List D → R (List D)
  | [] => .ok [] s
  | x :: xs => (noErr (ge (ρ.set i (some x)) s)).bind fun y _ => (lcM ge i ρ s xs).bind fun ys _ => .ok (y :: ys) s
def gLcM (i : Nat) (gi ge : GE) : GE := fun ρ s => (gi ρ s).bind fun d s1 => match itemsL s1 d with
  | some ds => if fitL ds.length then (lcM ge i (wipeD [i] ρ) s1 ds).bind fun ys s2 => .ok (.lst ys) s2 else .no
  | none => .no
theorem lcM_st {ge : GE} {i : Nat} {ρ : Env} {s s2 : S} : ∀ {xs ys : List D}, lcM ge i ρ s xs = .ok ys s2 → s2 = s
  | [], _, h => by cases h; rfl
  | x :: xs, ys, h => by
    unfold lcM at h
    cases e : noErr (ge (ρ.set i (some x)) s) with
    | ok y s3 =>
      rw [e] at h
      cases e2 : lcM ge i ρ s xs with
      | ok zs s4 => simp only [R.bind_ok, e2] at h; cases h; rfl
      | err _ _ => simp only [R.bind_ok, e2] at h; cases h
      | no => simp only [R.bind_ok, e2] at h; cases h
    | err _ _ => rw [e] at h; cases h
    | no => rw [e] at h; cases h
theorem je_lcM {elt iter : Expr} {scope : Scope} {i : Nat} {x : Str} {tpos : Pos} {gi ge : GE} (hc : X.calm = true) (hN : X.N.Nodup) (hi : JE X ca W iter gi) (ok : BlkOk X.N X.env.scope scope [(x, i)])
    (hp : ∀ ρ s y s', ge ρ s = .ok y s' → s' = s)
    (hg : ∀ (s : Shared) (H : Hp) (C : Addr) (cl : List (Str × Addr)) (fp : List Addr), PG (X.blk s H scope (compEnvC scope cl C X.env) fp) (.Name x tpos) (gName i))
    (he : ∀ (s : Shared) (H : Hp) (C : Addr) (cl : List (Str × Addr)) (fp : List Addr), JE (X.blk s H scope (compEnvC scope cl C X.env) fp) ca W0 elt ge) (hs : ∀ x, foldedSetIterable iter X.env x = pure x := by intro _; rfl) :
    JE X ca W (.ListComp elt [⟨.Name x tpos, iter, [], 0⟩] scope pos) (gLcM i gi ge) :=
  PE.imp (pe_lc (own := [(x, i)]) (g := gName i) (wi := iList X.K (tG X.K ca W gi)) (tt := tT X.K ca W0 gYes) (te := tG X.K ca W0 ge) hc hN (pi_list hi) ok hg (fun _ _ _ _ _ => jts_nil) he hs) fun σ H Q ⟨ι, ρ, s, hr, hm, h⟩ => bindE famE hr hm h fun ι1 s1 d v H1 l1 hr1 hm1 rd h1 => by
    split at h1
    · rename_i ds hds
      split at h1
      · rename_i hfit
        obtain ⟨a, vs0, rfl, hsq, hreps⟩ := hm1.items rd hds
        refine ⟨a, rfl, ⟨vs0, hsq⟩, fun Da hDa => ?_⟩
        obtain ⟨lo, mo⟩ := hm1.open (o := .lst []) hDa trivial
        have nι : Da ∉ ι1.ι := fun z => hm1.ne hDa (hm1.sub _ z)
        refine ⟨fun k m H' => m = ds.length - k ∧ ∃ ι' acc vs, Le ι1 H1 ι' H' ∧ Da ∈ ι'.M ∧ Da ∉ ι'.ι ∧ Sim X.K ca ι' s1 H' ∧ H' Da = some (.lst vs) ∧ Reps X.K ι' H' acc vs ∧ acc.length ≤ k ∧
          PostE X.K ca ι1 H1 ((lcM ge i (wipeD [i] ρ) s1 (ds.drop k)).bind fun ys s2 => .ok (.lst (acc ++ ys)) s2) Q (fun cv dd H' => W cv dd σ H'), ⟨_, rfl, ⟨ι1.ι, Da :: ι1.M⟩, [], [], lo, List.mem_cons_self, nι, mo, upd_same, .nil, Nat.le_refl _, h1⟩, ?_⟩
        rintro k m H' ⟨rfl, ι', acc, vs, l', hDM, hDι, hm', hD', hacc, hlen, h'⟩
        obtain ⟨a', ws, ea, hsq', hreps'⟩ := hm'.items (rd.mono l') hds
        cases ea
        by_cases hlt : k < ds.length
        · have hd : ds[k]? = some ds[k] := List.getElem?_eq_getElem hlt
          obtain ⟨x0, hx0, rx0⟩ := hreps'.get hd
          refine .inr ⟨⟨ws, x0, hsq', hx0⟩, fun H2 => ∃ ι' acc vs, Le ι1 H1 ι' H2 ∧ Da ∈ ι'.M ∧ Da ∉ ι'.ι ∧ Sim X.K ca ι' s1 H2 ∧ H2 Da = some (.lst vs) ∧ Reps X.K ι' H2 acc vs ∧ acc.length ≤ k + 1 ∧
            PostE X.K ca ι1 H1 ((lcM ge i (wipeD [i] ρ) s1 (ds.drop (k + 1))).bind fun ys s2 => .ok (.lst (acc ++ ys)) s2) Q (fun cv dd H' => W cv dd σ H'), fun H2 w => ⟨_, by omega, rfl, w⟩, fun x2 H2 y => ?_⟩
          obtain ⟨rfl, hy⟩ := y
          have hy := hy ws hsq'
          rw [hx0] at hy
          cases hy
          rw [List.drop_eq_getElem_cons hlt] at h'
          unfold lcM at h'
          have hrw : RelS X.K ι' H2 (wipeD [i] ρ) (wipe σ [i]) := (hr1.mono l').wipe [i]
          refine ⟨?_, ?_⟩
          · show ((σ.set i none).set i (some x0)).set i none = (σ.set i none)
            rw [List.set_set, List.set_set]
          refine ⟨ι', (wipeD [i] ρ).set i (some ds[k]), s1, hrw.set rx0 i, hm', ?_⟩
          intro ι3 H3 l3 m3
          have d3 := l3.stay _ _ hD' noTab_lst hDι
          rw [if_pos rfl]
          refine ⟨ι3, (wipeD [i] ρ).set i (some ds[k]), s1, (hrw.set rx0 i).mono l3, m3, ?_⟩
          cases e4 : ge ((wipeD [i] ρ).set i (some ds[k])) s1 with
          | err x s5 => rw [e4] at h'; exact h'.elim
          | no => rw [e4] at h'; exact h'.elim
          | ok y s5 =>
            have es := hp _ _ _ _ e4
            subst es
            rw [e4] at h'
            simp only [noErr, R.bind_ok] at h'
            intro ι4 v4 H4 l4 m4 r4
            have d4 := l4.stay _ _ d3.1 noTab_lst d3.2
            obtain ⟨kf, mf⟩ := m4.fill (o := .lst (vs ++ [v4])) (l4.sub _ (l3.sub _ hDM)) d4.2 trivial
            have hv : vs.length = acc.length := (hacc.length).symm
            refine ⟨vs, d4.1, ?_, ι4, acc ++ [y], vs ++ [v4], ((l'.trans l3).trans l4).updNone hDa, l4.sub _ (l3.sub _ hDM), d4.2, mf, upd_same, (Reps.monoK kf ((hacc.mono l3).mono l4)).append (.cons (Rep.monoK kf r4) .nil), by simp; omega, ?_⟩
            · have := fitL_le hfit
              omega
            · cases e5 : lcM ge i (wipeD [i] ρ) s5 (ds.drop (k + 1)) with
              | ok ys s6 =>
                have es6 := lcM_st e5
                subst es6
                rw [e5] at h'; simpa using h'
              | err x s6 => rw [e5] at h'; exact h'
              | no => rw [e5] at h'; exact h'
        · refine .inl ⟨⟨ws, hsq', by rw [← hreps'.length]; omega⟩, ?_⟩
          rw [List.drop_eq_nil_of_le (by omega)] at h'
          simp only [lcM, R.bind_ok, List.append_nil] at h'
          obtain ⟨ls, ms⟩ := hm'.shut (p := Da) hDι
          exact h' _ _ H' (l'.shutNone hDa (hm1.ne hDa)) ms (.lst hD' (fun z => by simpa using (List.mem_filter.mp z).2) (Reps.monoK ls hacc))
      · exact h1.elim
    · exact h1.elim
end
end J
namespace J
theorem pure_lenVar (i : Nat) : ∀ (ρ : Env) (s : S) (y : D) (s' : S), gF (f1 fLen) (gaCons (gVar i) gaNil) ρ s = .ok y s' → s' = s := fun ρ s y s' h => by
  have e : gF (f1 fLen) (gaCons (gVar i) gaNil) ρ s = (gVar i ρ s).bind fun d s1 => R.ofO (fLen s1 d) s1 := by
    show ((gVar i ρ s).bind fun d s1 => (gaNil ρ s1).bind fun ds s2 => .ok (d :: ds) s2).bind _ = _
    cases gVar i ρ s <;> rfl
  rw [e] at h
  unfold gVar at h
  split at h
  · rename_i d hd
    simp only [R.bind_ok] at h
    cases e2 : fLen s d with
    | none => rw [e2] at h; cases h
    | some z => rw [e2] at h; cases h; rfl
  · cases h
end J


set_option Elab.async false
set_option linter.all false
set_option maxRecDepth 100000
set_option maxHeartbeats 4000000
/-! J9: sorted(set(t)) of a tuple of few texts. -/
namespace JSet
open PySem PySem.Spec PyProof.Rows L2
def kS (e : Int × Value) : Str := match e.2 with | .str x _ => x | _ => Str.empty
def TxE (w : World) (e : Int × Value) : Prop := ∃ x tk, e.2 = Value.str x tk ∧ e.1 = hashStr w x
/-- what a set's inside is when the texts of L were put in -/
structure In (w : World) (L : List Str) (es : Array (Int × Value)) (t : SetTable) : Prop where
  tx : ∀ e ∈ es.toList, TxE w e
  nd : (es.toList.map kS).Nodup
  mem : ∀ x, x ∈ L ↔ x ∈ es.toList.map kS
  sz : es.size ≤ L.length
  fi : t.fits es.size = true
  ri : Ris t.place.toList
  le : w.params.followText "set-order" = true ∨ t.led = true
def At (w : World) (h : Heap) (a : Addr) (L : List Str) : Prop := ∃ o es ep t, h.get? a = some o ∧ o.ExactSet ∧ o.data = .set es ep t ∧ In w L es t
variable {P : Program} {w : World}
theorem At.keep {h h' : Heap} {a : Addr} {L : List Str} (R : At w h a L) (k : ∀ o, h.get? a = some o → h'.get? a = some o) : At w h' a L := by
  obtain ⟨o, es, ep, t, ho, r⟩ := R
  exact ⟨o, es, ep, t, k o ho, r⟩
theorem tx_elems {l : List (Int × Value)} (g : ∀ e ∈ l, TxE w e) : ElemsOf (PySem.strKind P w) l := fun e he => by
  obtain ⟨x, tk, h1, h2⟩ := g e he
  exact ⟨⟨x, by rw [h1]; exact strKind_is P w x tk, h2⟩, by rw [h1]; rfl⟩
theorem tx_is {e : Int × Value} (g : TxE w e) (x : Str) : (PySem.strKind P w).is x e.2 = true ↔ kS e = x := by
  obtain ⟨y, tk, h1, _⟩ := g
  unfold kS
  rw [h1]
  constructor
  · intro z
    have z' : Value.isStrOf x (.str y tk) = true := z
    obtain ⟨u, hu⟩ := Value.isStrOf_shape z'
    injection hu
  · intro z; subst z; exact strKind_is P w y tk
variable {A : Around} {E : Value → Shared → Prop} {s : Shared} {a : Addr} {L : List Str}
/-- the tail of an adding: the new inside is stored, and laid anew when too full -/
theorem add_end {g : Bool → Sem Unit} (hg : ∀ (b : Bool) (s₁ : Shared) (Q' : Unit → Shared → Prop), Q' () s₁ → wpAny (model P w) A (g b) Q' E s₁) {o : Obj} {es es1 : Array (Int × Value)} {ep : Nat} {t t2 : SetTable}
    (ho : s.heap.get? a = some o) (hex : o.ExactSet) (hd : o.data = .set es ep t) (N : In w L es1 t2) (h64 : L.length < 64) {wd : Bool} {R : Option Bool → Shared → Prop}
    (hR : ∀ h', Heap.SameBut a s.heap h' → At w h' a L → R (some true) { s with heap := h' }) :
    wpAny (model P w) A (do
        storeSet a es1 t2
        if (!wd && t2.tooFull) = true then do
            g (relayAll t2 es1 (SetTable.grown es1.size)).2.2
            storeSet a (relayAll t2 es1 (SetTable.grown es1.size)).1 (relayAll t2 es1 (SetTable.grown es1.size)).2.1
            pure (some true)
          else pure (some true)) R E s := by
  have b1 : es1.size < scanBound := by have := N.sz; unfold scanBound; omega
  refine wpAny_bind (wpAny_storeSet_of ho hd ?_ (fits_of_scanBound b1))
  have o1 := store_at (es' := es1) (t' := t2) ho hd
  have u1 := Heap.SameBut.update s.heap a (Obj.putSet es1 t2)
  split
  · have q1 := relayAll_perm t2 es1 (SetTable.grown es1.size)
    have q2 := relayAll_fits t2 es1 (SetTable.grown es1.size)
    have q3 := relayAll_ris t2 es1 (SetTable.grown es1.size)
    have q4 := relayAll_led t2 es1 (SetTable.grown es1.size)
    generalize relayAll t2 es1 (SetTable.grown es1.size) = Z at q1 q2 q3 q4 ⊢
    obtain ⟨es2, t3, gv⟩ := Z
    dsimp only at q1 q2 q3 q4 ⊢
    have z2 : es2.size = es1.size := by rw [← Array.length_toList, q1.length_eq, Array.length_toList]
    refine wpAny_bind (hg _ _ _ (wpAny_bind (wpAny_storeSet_of o1 rfl (wpAny_pure ?_) (fits_of_scanBound (by rw [z2]; exact b1)))))
    have o2 := store_at (es' := es2) (t' := t3) o1 rfl
    refine hR _ (u1.trans (Heap.SameBut.update _ a _)) ⟨_, es2, _, t3, o2, hex, rfl, ⟨fun e he => N.tx e (q1.mem_iff.mp he), (q1.map kS).nodup_iff.mpr N.nd, fun x => (N.mem x).trans (q1.map kS).mem_iff.symm, by rw [z2]; exact N.sz, q2, q3, ?_⟩⟩
    rcases N.le with z | z
    · exact .inl z
    · exact .inr (by rw [q4]; exact z)
  · exact wpAny_pure (hR _ u1 ⟨_, es1, _, t2, o1, hex, rfl, N⟩)
theorem add {x : Str} {tk : Tok} {Q : Bool → Shared → Prop} (R : At w s.heap a L) (h64 : L.length + 1 < 64)
    (hQ : ∀ b h', Heap.SameBut a s.heap h' → At w h' a (L ++ [x]) → Q b { s with heap := h' }) :
    wpAny (model P w) A (setAddHashed a (.str x tk) ((PySem.strKind P w).hash x)) Q E s := by
  obtain ⟨o, es, ep, t, ho, hex, hd, N⟩ := R
  have kx : (PySem.strKind P w).is x (.str x tk) = true := strKind_is P w x tk
  have sx : (Value.str x tk).scannable = true := rfl
  have el : ElemsOf (PySem.strKind P w) es.toList := tx_elems N.tx
  have b0 : es.size < scanBound := by have := N.sz; unfold scanBound; omega
  unfold setAddHashed setAddHashedIn
  refine wpAny_holding (wpAny_bind (wpAny_setState_of ho hd N.fi ?_))
  dsimp only
  rw [byScan_of sx b0 el]
  simp only [↓reduceIte]
  unfold setAddByScan
  refine wpAny_bind (wpAny_bind (wpAny_rule (wpAny_bind (wpAny_setScan_of kx ho hd N.fi el ?_))))
  cases hf : List.findIdx? (fun e => (PySem.strKind P w).is x e.2) es.toList with
  | some j =>
    dsimp only
    obtain ⟨hj, pj, _⟩ := List.findIdx?_eq_some_iff_getElem.mp hf
    have hx : x ∈ es.toList.map kS := List.mem_map.mpr ⟨es.toList[j], List.getElem_mem hj, (tx_is (P := P) (N.tx _ (List.getElem_mem hj)) x).1 pj⟩
    refine wpAny_pure (wpAny_pure (hQ _ s.heap (Heap.SameBut.refl a s.heap) ⟨o, es, ep, t, ho, hex, hd, ⟨N.tx, N.nd, fun y => ?_, by have := N.sz; simp; omega, N.fi, N.ri, N.le⟩⟩))
    rw [List.mem_append, List.mem_singleton, N.mem y]
    exact ⟨fun z => z.elim id fun e => e ▸ hx, .inl⟩
  | none =>
    dsimp only
    have hx : x ∉ es.toList.map kS := fun z => by
      obtain ⟨e, he, q⟩ := List.mem_map.mp z
      have c := List.findIdx?_eq_none_iff.mp hf e he
      rw [(tx_is (P := P) (N.tx e he) x).2 q] at c
      cases c
    have gw : ∀ (b : Bool) {s₁ : Shared} {Q' : Unit → Shared → Prop}, Q' () s₁ → wpAny (model P w) A (match b with | true => rule "set.scan.the-table-gave-way" | false => pure ()) Q' E s₁ :=
      fun b s₁ Q' q => by cases b <;> first | exact wpAny_pure q | exact wpAny_rule q
    have q1 := layNew_perm t es ((PySem.strKind P w).hash x) (.str x tk)
    have q2 := layNew_fits t es ((PySem.strKind P w).hash x) (.str x tk)
    have q3 := layNew_ris t es ((PySem.strKind P w).hash x) (.str x tk) N.ri
    have q4 := layNew_led t es ((PySem.strKind P w).hash x) (.str x tk)
    generalize layNew t es ((PySem.strKind P w).hash x) (.str x tk) = Z at q1 q2 q3 q4 ⊢
    obtain ⟨es1, t1, wd, gave⟩ := Z
    dsimp only at q1 q2 q3 q4 ⊢
    rw [Array.toList_push] at q1
    have pc : es1.toList.Perm (((PySem.strKind P w).hash x, Value.str x tk) :: es.toList) := q1.trans (List.perm_append_singleton _ _)
    have pk : (es1.toList.map kS).Perm (x :: es.toList.map kS) := pc.map kS
    have z1 : es1.size = es.size + 1 := by rw [← Array.length_toList, pc.length_eq, List.length_cons, Array.length_toList]
    have N1 : In w (L ++ [x]) es1 t1 := ⟨fun e he => by
      rcases List.mem_cons.mp (pc.mem_iff.mp he) with z | z
      · rw [z]; exact ⟨x, tk, rfl, rfl⟩
      · exact N.tx e z, pk.nodup_iff.mpr (List.nodup_cons.mpr ⟨hx, N.nd⟩), fun y => by
        rw [List.mem_append, List.mem_singleton, N.mem y, pk.mem_iff, List.mem_cons]; exact Or.comm, by have := N.sz; simp; omega, q2, q3, by
        rcases N.le with z | z
        · exact .inl z
        · exact .inr (by rw [q4]; exact z)⟩
    have l64 : (L ++ [x]).length < 64 := by simp; omega
    refine wpAny_bind (gw _ ?_)
    split
    · refine wpAny_bind ?_
      rw [hashByValue_scannable 8 sx]
      refine wpAny_pure ?_
      refine add_end (L := L ++ [x]) (fun b s₁ Q' q => by cases b <;> first | exact wpAny_pure q | exact wpAny_rule q) ho hex hd ?_ l64 fun h' sb r => ?_
      · first
          | exact N1
          | exact ⟨N1.tx, N1.nd, N1.mem, N1.sz, SetTable.fits_plain_off N1.fi, N1.ri, N1.le⟩
          | (split
             · exact ⟨N1.tx, N1.nd, N1.mem, N1.sz, SetTable.fits_plain_off N1.fi, N1.ri, N1.le⟩
             · exact N1)
      · dsimp only; exact wpAny_pure (hQ _ h' sb r)
    · refine wpAny_bind (wpAny_pure ?_)
      simp only [↓reduceIte]
      refine add_end (L := L ++ [x]) (fun b s₁ Q' q => by cases b <;> first | exact wpAny_pure q | exact wpAny_rule q) ho hex hd N1 l64 fun h' sb r => ?_
      dsimp only; exact wpAny_pure (hQ _ h' sb r)
/-- the empty set as it is made -/
def eo (w : World) : Obj := { cls := .type "set", dict := none, data := .set #[] 0 (.fresh 0 0 (!w.params.followText "set-order")) }
theorem at_fresh {h : Heap} (ho : h.get? a = some (eo w)) : At w h a [] := by
  refine ⟨_, #[], 0, _, ho, ⟨rfl, rfl, rfl⟩, rfl, ⟨fun e he => ?_, ?_, fun x => ?_, Nat.le_refl 0, rfl, List.Pairwise.nil, ?_⟩⟩
  · simp at he
  · simp
  · simp
  · show _ ∨ (!w.params.followText "set-order") = true
    cases w.params.followText "set-order"
    · exact .inr rfl
    · exact .inl rfl
theorem loop {I : Addr} {fp wr : List Addr} {G : Array GenState → Array GenState → Prop} {n : Nat} {Pv : Nat → Value → Prop} {St : Nat → Shared → Prop} {R : Result → Shared → Prop} (W : WalksS P w A.in1 I fp wr G n Pv St) (hSf : a ∉ fp) (xs : List Str) (hn : n = xs.length)
    (h64 : xs.length < 63) (hval : ∀ i v, Pv i v → ∃ x t, xs[i]? = some x ∧ v = .str x t) :
    ∀ (k i : Nat) (s : Shared), n - i = k → i ≤ n → St i s → At w s.heap a (xs.take i) → (∀ s', Moved (a :: wr) G s s' → At w s'.heap a xs → R (.ok (.ret .none)) s') →
      codeAny (model P w) A (.builtin "set.update.loop" ⟨[.ref a, .ref I], []⟩) R s := by
  have aw : a ∉ wr := fun z => hSf (W.sub _ z)
  have sb : ∀ b ∈ wr, b ∈ a :: wr := fun b z => List.mem_cons_of_mem _ z
  intro k
  induction k with
  | zero =>
    intro i s hk hi st hS hR
    have : i = n := by omega
    subst this
    refine codeAny_builtin F.entry_set_update_loop ?_
    rw [Around.under_plainId F.plain_set_update_loop _]
    change wpAny _ A.in1 (pyNext (.ref I) >>= _) _ _ s
    refine wpAny_bind (W.done s _ _ st fun s' hm => ?_)
    change wpAny _ A.in1 (ret Value.none) _ _ s'
    rw [List.take_of_length_le (by omega)] at hS
    exact wpAny_pure (hR s' (hm.mono sb) (hS.keep fun o e => hm.heap a o aw e))
  | succ k ih =>
    intro i s hk hi st hS hR
    have lt : i < n := by omega
    refine codeAny_builtin F.entry_set_update_loop ?_
    rw [Around.under_plainId F.plain_set_update_loop _]
    change wpAny _ A.in1 (pyNext (.ref I) >>= _) _ _ s
    refine wpAny_bind (W.item i s _ _ lt st fun v s' hP st' hm => ?_)
    obtain ⟨x, t, hx, rfl⟩ := hval i v hP
    have hS' : At w s'.heap a (xs.take i) := hS.keep fun o e => hm.heap a o aw e
    change wpAny _ A.in1 (holding [Value.str x t] (setAdd a (.str x t)) >>= _) _ _ s'
    refine wpAny_bind (wpAny_holding ?_)
    unfold setAdd
    refine wpAny_holding (wpAny_bind ((PySem.strKind P w).pyHash (k := x) (strKind_is _ _ _ _) ?_))
    refine add (s := { s' with toks := s'.toks + 1 }) hS' (by rw [List.length_take]; omega) fun b h' hsb hS2 => ?_
    have hS3 : At w h' a (xs.take (i + 1)) := by rw [List.take_add_one, hx]; exact hS2
    refine wpAny_pure ⟨plainId_quiet F.plain_set_update_loop _, ih (i + 1) _ (by omega) lt (W.frame _ s' _ _ st' (Nat.le_succ _) fun c hc o e => ?_) hS3 fun s'' hm'' hS'' => ?_⟩
    · rw [hsb.2 c fun z : c = a => hSf (by rw [← z]; exact hc)]; exact e
    · refine hR s'' (Moved.trans W.gtrans ((hm.mono sb).then_heap (Nat.le_succ _) fun c o hc e => ?_) hm'') hS''
      rw [hsb.2 c fun z : c = a => hc (by rw [z]; exact List.mem_cons_self)]; exact e
set_option maxHeartbeats 3200000 in
/-- set(t), t a tuple of texts -/
theorem made {l : Addr} {items : Array Value} {xs : List Str} {Q : Value → Shared → Prop} (hh : A.handled = none) (hl : s.heap.IsTuple l items) (hi : StrsAre items.toList xs) (h64 : xs.length < 63)
    (h : ∀ (h' : Heap) (tk : Nat), At w h' s.heap.objs.size xs → (∀ b o, s.heap.get? b = some o → h'.get? b = some o) → Q (.ref s.heap.objs.size) { s with heap := h', toks := tk }) :
    wpAny (model P w) A (call (.type "set") [.ref l]) Q E s := by
  have isz : items.size = xs.length := by
    have q := hi.length
    rwa [Array.length_toList] at q
  obtain ⟨c, tl, hmro⟩ := F.called_set.mro
  have m1 := F.called_set.made
  have m2 := F.called_set.sub
  refine wpAny_call (codeAny_of_tree ?_)
  change wpAny _ _ (callAny (.type "set") _) _ _ _
  refine wpAny_pure ⟨Code.quiet_builtin _ (by decide +kernel), codeAny_builtin F.entry_type_call ?_⟩
  rw [Around.under_plain (weight_type_call_type "set" [.ref l] []) rfl]
  have m3 := F.called_set.notType
  have m4 := F.called_set.canCreate
  have m5 := F.typeCall_set_1 (.ref l)
  repeat (any_goals (first | assumption | wp_step))
  refine codeAny_mono (code_set_led1 (.ref l) (E := E) (Q₁ := fun ob s₁ => ob = .ref s.heap.objs.size ∧ s₁ = { s with heap := s.heap.push (eo w) }) ⟨rfl, rfl⟩) fun r s₁ hr => ?_
  cases r with
  | error e => exact hr
  | ok fl =>
    cases fl with
    | ret ob =>
      obtain ⟨rfl, rfl⟩ := hr
      have hS : (s.heap.push (eo w)).get? s.heap.objs.size = some (eo w) := Heap.get?_push_size _ rfl
      have hT : Shared.TypeIs { s with heap := s.heap.push (eo w) } (.ref s.heap.objs.size) "set" := ⟨_, hS, rfl⟩
      have m6 := F.called_set.init.lookup
      have m7 := F.called_set.init.bind (.ref s.heap.objs.size)
      repeat (any_goals (first | assumption | wp_step))
      refine codeAny_mono (codeAny_call_builtin (R := wants (fun r s₂ => r = .none ∧ ∃ h' tk, s₂ = { s with heap := h', toks := tk } ∧ At w h' s.heap.objs.size xs ∧ (∀ b o, s.heap.get? b = some o → h'.get? b = some o)) E) F.called_set.init.plain F.entry_set_init (check_set_init_1 hT ?_)) fun r₂ s₂ hr₂ => ?_
      · obtain ⟨ol, hol, hcl, nl, hdl⟩ := hl
        obtain ⟨ocls, odict, odata, oslots⟩ := ol
        simp only at hcl hdl
        subst hcl; subst hdl
        have p1 := F.sub_tuple_set
        have p2 := F.sub_tuple_frozenset
        have p3 : (Value.type "tuple" == Value.type "dict") = false := by decide
        have p4 : (s.heap.push (eo w)).get? l = some { cls := .type "tuple", dict := odict, data := .seq items nl, slots := oslots } := Heap.get?_push_of_some _ hol
        have l1 : (s.heap.push (eo w)).IsTuple l items := ⟨_, p4, rfl, nl, rfl⟩
        unfold Builtin.«set.__init__» noKeywords Builtin.Frozenset.updateFrom
        generalize hPI : pyIter = PI
        wp_walk
        subst hPI
        refine wpAny_pyIter_tuple l1 (wpAny_bind (wpAny_runValue ?_))
        have lS : l < s.heap.objs.size := Heap.lt_size hol
        have z1 : (s.heap.push (eo w)).objs.size = s.heap.objs.size + 1 := Heap.size_push ..
        have nI : l ≠ (s.heap.push (eo w)).objs.size := by rw [z1]; exact Nat.ne_of_lt (Nat.lt_succ_of_lt lS)
        have nS : s.heap.objs.size ∉ [(s.heap.push (eo w)).objs.size, l] := by
          rw [z1]
          intro z
          rcases List.mem_cons.mp z with z | z
          · exact Nat.ne_of_lt (Nat.lt_succ_self _) z
          · exact Nat.ne_of_gt lS (List.mem_singleton.mp z)
        have hv : ∀ (i : Nat) (v : Value), items[i]? = some v → ∃ x t, xs[i]? = some x ∧ v = .str x t := fun i v hv => by
          have hi' : i < xs.length := by rw [← isz]; exact (Array.getElem?_eq_some_iff.mp hv).1
          obtain ⟨t, e⟩ := SS.strs_at hi i v (by rw [Array.getElem?_toList]; exact hv)
          exact ⟨xs[i], t, List.getElem?_eq_getElem hi', by rw [e, List.getD_eq_getElem?_getD, List.getElem?_eq_getElem hi']; rfl⟩
        refine loop ((Walks.tuple (by simp [hh]) _ l nI items).toS) nS xs isz h64 hv (items.size - 0) 0 _ (by omega) (Nat.zero_le _) ⟨⟨_, Heap.get?_push_size _ rfl, rfl, rfl⟩, l1.push _⟩ ?s0 ?r0
        case s0 => exact at_fresh (Heap.get?_push_of_some _ hS)
        case r0 =>
          intro s' hm hS'
          obtain ⟨h', g2, d', tk', os'⟩ := s'
          have eg : g2 = s.gens := hm.gens
          have ed : d' = s.drawn := hm.drawn
          have eo' : os' = s.os := hm.os
          subst eg; subst ed; subst eo'
          refine wpAny_pure (wpAny_pure ⟨rfl, h', tk', rfl, hS', fun b o e => ?_⟩)
          have b0 : b < s.heap.objs.size := Heap.lt_size e
          refine hm.heap b o (fun z => ?_) (Heap.get?_push_of_some _ (Heap.get?_push_of_some _ e))
          rcases List.mem_cons.mp z with z | z
          · exact Nat.ne_of_lt b0 z
          · have z2 : b = (s.heap.push (eo w)).objs.size := List.mem_singleton.mp z
            rw [z1] at z2
            exact Nat.ne_of_lt (Nat.lt_succ_of_lt b0) z2
      · cases r₂ with
        | error e => exact hr₂
        | ok fl₂ =>
          cases fl₂ with
          | ret r =>
            obtain ⟨rfl, h', tk, rfl, hS', hk'⟩ := hr₂
            repeat (any_goals (first | assumption | wp_step))
            exact h _ _ hS' hk'
          | _ => exact hr₂.elim
    | _ => exact hr.elim
theorem txs_of : ∀ (l : List Value), (∀ v ∈ l, ∃ x tk, v = Value.str x tk) → StrsAre l (l.map PyProof.Rows.strOf)
  | [], _ => .nil
  | v :: l, h => by
    obtain ⟨x, tk, rfl⟩ := h v List.mem_cons_self
    exact .cons x tk (txs_of l fun u hu => h u (List.mem_cons_of_mem _ hu))
/-- sorted(s), s the set -/
theorem sorted {Q : Value → Shared → Prop} (R : At w s.heap a L) (hh : A.handled = none) (h64 : L.length < 64)
    (hQ : ∀ s' p (out : Array Value) (c : Nat) (ys : List Str), (∀ b o, s.heap.get? b = some o → s'.heap.get? b = some o) → s'.gens = s.gens → s'.os = s.os → s.heap.objs.size ≤ p → s'.heap.get? p = some (seqObj "list" out c) → StrsAre out.toList ys → sortedS ys = true → ys.Nodup →
      (∀ x, x ∈ ys ↔ x ∈ L) → Q (.ref p) s') :
    wpAny (model P w) A (call (.builtin "sorted") [.ref a]) Q E s := by
  obtain ⟨o, es, ep, t, ho, hex, hd, N⟩ := R
  have b0 : es.size < scanBound := by have := N.sz; unfold scanBound; omega
  refine Calls.call_function_entry kind_sorted plain_sorted entry_sorted (args_sorted1 _) ?_
  unfold Builtin.«sorted»
  refine wpAny_bind (m := checkCount "sorted" 1 1 _) (wpAny_pure (wpAny_bind (collect_set (A := A.in1) hh ⟨o, ho, hex.1, hd⟩ N.fi b0 N.ri N.le fun s1 vs k1 hz g1 o1 pm => ?_)))
  have vl : vs.length = es.size := by rw [pm.length_eq, List.length_map, Array.length_toList]
  have hI : StrsAre vs (vs.map PyProof.Rows.strOf) := txs_of vs fun v hv => by
    obtain ⟨e, he, q⟩ := List.mem_map.mp (pm.mem_iff.mp hv)
    obtain ⟨x, tk, h1, _⟩ := N.tx e he
    exact ⟨x, tk, by rw [← q]; exact h1⟩
  have pk : (vs.map PyProof.Rows.strOf).Perm (es.toList.map kS) := by
    have q := pm.map PyProof.Rows.strOf
    rw [List.map_map] at q
    refine q.trans (List.Perm.of_eq (List.map_congr_left fun e he => ?_))
    obtain ⟨x, tk, h1, _⟩ := N.tx e he
    show PyProof.Rows.strOf e.2 = kS e
    unfold kS
    rw [h1]; rfl
  have vs64 : vs.length < 64 := by have := N.sz; omega
  refine wpAny_bind (wpAny_newList ?_ (by rw [sizeLine_eq]; omega))
  have oL : (s1.heap.push (seqObj "list" vs.toArray 0)).get? s1.heap.objs.size = some (seqObj "list" vs.toArray 0) := Heap.get?_push_size _ rfl
  refine wpAny_bind (wpAny_holding (wpAny_call_entry slot_list_sort ⟨_, oL, rfl⟩ entry_list_sort (list_sort_treeK strKind_oneLt oL hI.keysOf (fun v₁ v₂ rest e => keyKind_strs (by rw [← e]; exact hI)) vs64 fun st' hp hs => ?_) (args_list_sort _)))
  obtain ⟨ys, y1, y2, y3⟩ := sorted_out_str hI hp hs
  obtain ⟨c, hc⟩ := sortedHeap_at (vs := vs) (out := (arrOf st').map (·.2)) oL
  have py : ys.Perm (es.toList.map kS) := y2.trans pk
  refine ⟨_, rfl, wpAny_pure ⟨_, rfl, hQ _ s1.heap.objs.size _ c ys (fun b u e => ?_) g1 o1 hz hc y1 y3 (py.nodup_iff.mpr N.nd) fun x => by rw [py.mem_iff, ← N.mem x]⟩⟩
  have q := k1 b u e
  have lt := Heap.lt_size q
  show (sortedHeap (s1.heap.push (seqObj "list" vs.toArray 0)) s1.heap.objs.size vs _).get? b = some u
  rw [sortedHeap_old (Nat.ne_of_lt lt) (by rw [size_push']; exact Nat.lt_succ_of_lt lt)]
  exact Heap.get?_push_of_some _ q
end JSet


set_option Elab.async false
set_option linter.all false
set_option maxRecDepth 100000
set_option maxHeartbeats 4000000
/-! J10: sorted(set(t)) as data. -/
namespace JSet
open PySem PySem.Spec PyProof.Rows L2
def SetS (w : World) (a : Addr) (L : List Str) : HO := .ext fun h => At w h a L
theorem setS_new {w : World} {P : Program} {H : Hp} {h : Heap} {a : Addr} {L : List Str} (R : At w h a L) : ObjOk P w H h a (SetS w a L) := by
  let ⟨o, _, _, _, q, _⟩ := R
  exact ⟨R, ⟨o, q⟩, fun _ _ z k => At.keep z k⟩
section
variable {X : Cx}
theorem setS_get {pins : List (Addr × Obj)} {σ : L2.St} {H : Hp} {s : Shared} {a : Addr} {L : List Str} (I : Inv X pins σ H s) (ha : H a = some (SetS X.w a L)) : At X.w s.heap a L := (I.hok a _ ha).1
def rMk (K : PySem.W.Frag) (w : World) : List V → Hp → VK → Prop := fun vs H Q => ∃ (l : Addr) (xs : List Str), vs = [V.ref l] ∧ SqT K H l (xs.map V.str) ∧ xs.length < 63 ∧ ∀ p, H p = none → Q (.ref p) (upd H p (SetS w p xs))
theorem cr_mk (hc : X.calm = true) : CallR X (.type "set") (rMk X.K X.w) := by
  intro pins s σ H vs us Q I r h
  obtain ⟨l, xs, rfl, hs, h64, q⟩ := h
  obtain ⟨its, rv, pl, hz⟩ := I.tuple hs
  rw [Vals.ref1 r]
  have fr : H s.heap.objs.size = none := I.hok.fresh (Nat.le_refl _)
  refine made (I.ok.hd hc) pl (by simpa using L2.strsAre_of rv) h64 fun h' tk hA hk => ⟨.ref s.heap.objs.size, upd H s.heap.objs.size (SetS X.w s.heap.objs.size xs), I.laid (t' := tk) hk (Nat.le_refl _) (setS_new hA), rfl, q _ fr⟩
def rSo (w : World) : List V → Hp → VK → Prop := fun vs H Q => ∃ (a : Addr) (L : List Str), vs = [V.ref a] ∧ H a = some (SetS w a L) ∧ L.length < 64 ∧
  ∀ (ys : List Str) (p : Addr), sortedS ys = true → ys.Nodup → (∀ x, x ∈ ys ↔ x ∈ L) → H p = none → Q (.ref p) (upd H p (.lst (ys.map V.str)))
theorem cr_so (hc : X.calm = true) : CallR X (.builtin "sorted") (rSo X.w) := by
  intro pins s σ H vs us Q I r h
  obtain ⟨a, L, rfl, ha, h64, q⟩ := h
  rw [Vals.ref1 r]
  refine sorted (setS_get I ha) (I.ok.hd hc) h64 fun s' p out c ys k g o hp hg hi y1 y2 y3 => ?_
  have yl : ys.length ≤ L.length := by
    refine (List.Nodup.length_le_of_subset ?_ ?_)
    · exact y2
    · exact fun x hx => (y3 x).1 hx
  have hl : (ys.map V.str).length ≤ sizeLine := by rw [List.length_map, sizeLine_eq]; omega
  have fr : H p = none := I.hok.fresh hp
  have J1 : Inv X pins σ (upd H p (.lst (ys.map V.str))) { s with heap := s'.heap, gens := s'.gens, drawn := s'.drawn, toks := s'.toks } :=
    I.call (ch := []) (Un.laid k hp fr) (I.hok.laid k hp ⟨hl, out.toList, c, vals_of_strs hi, hg⟩) (by rw [g]; exact I.bare) (fun _ z => nomatch z)
  have es : s' = { s with heap := s'.heap, gens := s'.gens, drawn := s'.drawn, toks := s'.toks } := by
    obtain ⟨_, _, _, _, _⟩ := s'
    obtain ⟨_, _, _, _, _⟩ := s
    cases o
    rfl
  rw [es]
  exact ⟨.ref p, _, J1, rfl, q ys p y1 y2 y3 fr⟩
end
/-! ### the sorted list of few texts, each once -/
def lt (x y : Str) : Bool := decide (x.cps.toList < y.cps.toList)
def ins (x : Str) : List Str → List Str
  | [] => [x]
  | y :: ys => if lt x y then x :: y :: ys else if x = y then y :: ys else y :: ins x ys
def sortU (xs : List Str) : List Str := xs.foldr ins []
def L (x : Str) : List Nat := x.cps.toList
theorem L_inj {x y : Str} (h : L x = L y) : x = y := by
  have a := SX.S_tl x
  have b := SX.S_tl y
  rw [← a, ← b]
  exact congrArg SX.S h
theorem lt_of {x y : Str} (h : ¬ L x < L y) (hne : x ≠ y) : L y < L x := by
  by_cases z : L y < L x
  · exact z
  · exact absurd (L_inj (List.le_antisymm (List.not_lt.mp z) (List.not_lt.mp h))) hne
def Up (l : List Str) : Prop := l.Pairwise fun a b => L a < L b
theorem mem_ins (x z : Str) : ∀ ys : List Str, z ∈ ins x ys ↔ z = x ∨ z ∈ ys
  | [] => by simp [ins]
  | y :: ys => by
    unfold ins
    split
    · simp
    · split
      · rename_i h; subst h; simp
      · simp only [List.mem_cons, mem_ins x z ys]
        constructor
        · rintro (h | h | h)
          · exact .inr (.inl h)
          · exact .inl h
          · exact .inr (.inr h)
        · rintro (h | h | h)
          · exact .inr (.inl h)
          · exact .inl h
          · exact .inr (.inr h)
theorem up_ins (x : Str) : ∀ {ys : List Str}, Up ys → Up (ins x ys)
  | [], _ => List.pairwise_singleton _ _
  | y :: ys, h => by
    obtain ⟨h1, h2⟩ := List.pairwise_cons.mp h
    unfold ins
    split
    · rename_i q
      have q' : L x < L y := of_decide_eq_true q
      refine List.pairwise_cons.mpr ⟨fun z hz => ?_, h⟩
      rcases List.mem_cons.mp hz with rfl | hz
      · exact q'
      · exact List.lt_trans q' (h1 z hz)
    · rename_i q
      have q' : ¬ L x < L y := fun z => q (decide_eq_true z)
      split
      · exact h
      · rename_i hne
        refine List.pairwise_cons.mpr ⟨fun z hz => ?_, up_ins x h2⟩
        rcases (mem_ins x z ys).1 hz with rfl | hz
        · exact lt_of q' hne
        · exact h1 z hz
theorem up_sortU : ∀ xs : List Str, Up (sortU xs)
  | [] => List.Pairwise.nil
  | x :: xs => up_ins x (up_sortU xs)
theorem mem_sortU (z : Str) : ∀ xs : List Str, z ∈ sortU xs ↔ z ∈ xs
  | [] => Iff.rfl
  | x :: xs => by
    show z ∈ ins x (sortU xs) ↔ _
    rw [mem_ins, mem_sortU z xs, List.mem_cons]
theorem up_eq : ∀ {xs ys : List Str}, Up xs → Up ys → (∀ z, z ∈ xs ↔ z ∈ ys) → xs = ys
  | [], [], _, _, _ => rfl
  | [], y :: ys, _, _, h => by have := (h y).2 List.mem_cons_self; cases this
  | x :: xs, [], _, _, h => by have := (h x).1 List.mem_cons_self; cases this
  | x :: xs, y :: ys, hx, hy, h => by
    obtain ⟨x1, x2⟩ := List.pairwise_cons.mp hx
    obtain ⟨y1, y2⟩ := List.pairwise_cons.mp hy
    have e : x = y := by
      rcases List.mem_cons.mp ((h x).1 List.mem_cons_self) with e | m1
      · exact e
      · rcases List.mem_cons.mp ((h y).2 List.mem_cons_self) with e | m2
        · exact e.symm
        · exact absurd (List.lt_trans (y1 x m1) (x1 y m2)) (List.lt_irrefl _)
    subst e
    have t : ∀ z, z ∈ xs ↔ z ∈ ys := fun z => by
      have hz := h z
      constructor
      · intro m
        rcases List.mem_cons.mp (hz.1 (List.mem_cons_of_mem _ m)) with e | m'
        · subst e; exact absurd (x1 z m) (List.lt_irrefl _)
        · exact m'
      · intro m
        rcases List.mem_cons.mp (hz.2 (List.mem_cons_of_mem _ m)) with e | m'
        · subst e; exact absurd (y1 z m) (List.lt_irrefl _)
        · exact m'
    rw [up_eq x2 y2 t]
theorem ris_le : ∀ (l : List Str) (p : Str), risingS p l = true → (p :: l).Pairwise fun a b => L a ≤ L b
  | [], p, _ => List.pairwise_singleton _ _
  | x :: r, p, h => by
    have h' : (!_ && risingS x r) = true := h
    rw [Bool.and_eq_true, Bool.not_eq_true', ltCps_eq, decide_eq_false_iff_not] at h'
    have ih := ris_le r x h'.2
    have px : L p ≤ L x := List.not_lt.mp h'.1
    refine List.pairwise_cons.mpr ⟨fun z hz => ?_, ih⟩
    rcases List.mem_cons.mp hz with rfl | hz
    · exact px
    · exact List.le_trans px ((List.pairwise_cons.mp ih).1 z hz)
theorem up_of {ys : List Str} (h : sortedS ys = true) (nd : ys.Nodup) : Up ys := by
  have le : ys.Pairwise fun a b => L a ≤ L b := by
    cases ys with
    | nil => exact List.Pairwise.nil
    | cons y ys => exact ris_le ys y h
  refine (le.and nd).imp fun {a b} q => ?_
  by_cases z : L a < L b
  · exact z
  · exact absurd (L_inj (List.le_antisymm q.1 (List.not_lt.mp z))) q.2
end JSet
namespace J
open PySem PySem.Spec L2
section
variable {X : Cx} {ca : Ct} {W : WX} {e : Expr} {pos : Pos} {g : GE}
/-- sorted(set(e)), e a tuple of few texts -/
def fSortSet (_ : S) : D → Option D
  | .tup ds => (strsD ds).bind fun xs => if decide (xs.length < 63) then some (.lst ((JSet.sortU xs).map D.str)) else none
  | _ => none
def gSortSet (g : GE) : GE := fun ρ s => (g ρ s).bind fun d s1 => R.ofO (fSortSet s1 d) s1
theorem je_sortSet {p p2 q : Pos} (hc : X.calm = true) (h1 : X.mg "sorted" = none) (h2 : X.mg "set" = none) (he : JE X ca W e g) (g1 : Gl X "sorted" := by rfl) (g2 : Gl X "set" := by rfl)
    (he1 : starEach [.Call (.Name "set" p2) [e] [] q] X.env = (false, eval (.Call (.Name "set" p2) [e] [] q) X.env) :: starEach [] X.env := by rfl) (he2 : starEach [e] X.env = (false, eval e X.env) :: starEach [] X.env := by rfl)
    (hp1 : (backTo pos (starEach [] X.env)).any (·.1) = false := by rfl) (hp2 : (backTo q (starEach [] X.env)).any (·.1) = false := by rfl) :
    JE X ca W (.Call (.Name "sorted" p) [.Call (.Name "set" p2) [e] [] q] [] pos) (gSortSet g) :=
  PE.imp (pe_callB (JSet.cr_so hc) g1 h1 bt_sorted (pa_cons (pe_callTy (JSet.cr_mk hc) g2 h2 bt_set (pa_cons he pa_nil he2) (he := he2) (hpl := hp2)) pa_nil he1) (he := he1) (hpl := hp1)) fun σ H Q ⟨ι, ρ, s, hr, hm, h⟩ => bindE famE hr hm h fun ι1 s1 d v H1 l1 hr1 hm1 rd h1 => by
    cases rd with
    | tup h3 h4 =>
      simp only [fSortSet] at h1
      cases e2 : strsD _ with
      | none => rw [e2] at h1; exact h1.elim
      | some xs =>
        rw [e2] at h1
        simp only [Option.bind_some] at h1
        have e3 := strsD_eq e2
        subst e3
        split at h1
        · rename_i hl
          have hl := of_decide_eq_true hl
          have e4 := reps_strsV h4
          subst e4
          refine ⟨_, xs, rfl, h3.sq, hl, fun p1 hp1 => ?_⟩
          obtain ⟨l2, m2⟩ := hm1.new (o := JSet.SetS X.w p1 xs) hp1
          refine ⟨p1, xs, rfl, upd_same, by omega, fun ys p3 y1 y2 y3 hp3 => ?_⟩
          obtain ⟨l3, m3⟩ := m2.new (o := .lst (ys.map V.str)) hp3
          have ey : ys = JSet.sortU xs := JSet.up_eq (JSet.up_of y1 y2) (JSet.up_sortU xs) fun z => (y3 z).trans (JSet.mem_sortU z xs).symm
          subst ey
          exact h1 _ _ _ (l2.trans l3) m3 (.lst upd_same (m2.ne hp3) (reps_strs _))
        · exact h1.elim
    | _ => exact h1.elim
def gDic0 : GE := fun _ s => .ok (.obj s.length) (s ++ [.dic []])
theorem je_dict0 : JE X ca W (.Dict [] [] pos) gDic0 := PE.imp pe_dnewK fun σ H Q ⟨ι, ρ, s, hr, hm, h⟩ p hp => by
  obtain ⟨l, m⟩ := hm.alloc (o := .dK []) (u := .dic []) hp trivial fun l => ⟨[], upd_same, .nil⟩
  exact h _ _ _ l m (.obj (by simp [← hm.len]))
end
end J


set_option Elab.async false
set_option linter.all false
set_option maxRecDepth 100000
set_option maxHeartbeats 4000000
/-! J11: instances: fields read and stored, methods called, made by the class. -/
namespace J
open PySem PySem.Spec L2
section
variable {K : PySem.W.Frag} {ca : Ct} {ι : Wd} {H : Hp} {s : S}
theorem RepF.look {f : Str} : ∀ {fs : List (Str × D)} {ws : List (Str × V)}, RepF K ι H fs ws → (∀ d, fs.lookup f = some d → ∃ v, ws.lookup f = some v ∧ Rep K ι H d v) ∧ (fs.lookup f = none → ws.lookup f = none)
  | _, _, .nil => ⟨fun _ h => (by cases h), fun _ => rfl⟩
  | (g, d) :: fs, (g', v) :: ws, .cons ⟨e, r⟩ t => by
    have e : g = g' := e
    subst e
    have ih := RepF.look (f := f) t
    by_cases z : f == g
    · simp only [List.lookup_cons, z]
      exact ⟨fun x hx => by cases hx; exact ⟨v, rfl, r⟩, fun h => by cases h⟩
    · have z : (f == g) = false := by simpa using z
      simp only [List.lookup_cons, z]
      exact ih
def putD (f : Str) (d : D) : List (Str × D) → List (Str × D)
  | [] => [(f, d)]
  | (g, x) :: r => if g = f then (g, d) :: r else (g, x) :: putD f d r
theorem RepF.put {f : Str} {d : D} {v : V} (r : Rep K ι H d v) : ∀ {fs : List (Str × D)} {ws : List (Str × V)}, RepF K ι H fs ws → RepF K ι H (putD f d fs) (putF f v ws)
  | _, _, .nil => .cons ⟨rfl, r⟩ .nil
  | (g, x) :: fs, (g', y) :: ws, .cons ⟨e, q⟩ t => by
    have e : g = g' := e
    subst e
    unfold putD putF
    split
    · exact .cons ⟨rfl, r⟩ t
    · exact .cons ⟨rfl, q⟩ (RepF.put r t)
theorem RepF.len : ∀ {fs : List (Str × D)} {ws : List (Str × V)}, RepF K ι H fs ws → fs.length = ws.length
  | _, _, .nil => rfl
  | _ :: _, _ :: _, .cons _ t => by simp [RepF.len t]
end
section
variable {X : Cx} {ca : Ct} {W : WX} {e o value : Expr} {es : List Expr} {f : Str} {pos pos' apos : Pos} {g go gv : GE}
/-- the instance's fields -/
def insOf (c : Nat) (s : S) : D → Option (List (Str × D))
  | .obj n => match s[n]? with
    | some (.ins c' fs) => if c' = c then some fs else none
    | _ => none
  | _ => none
theorem insOf_at {K : PySem.W.Frag} {ι : Wd} {H : Hp} {s : S} (m : Sim K ca ι s H) {c : Nat} {d : D} {v : V} {fs : List (Str × D)} (r : Rep K ι H d v) (h : insOf c s d = some fs) : ∃ n a dx ws, d = .obj n ∧ v = .ref a ∧ ι.ι[n]? = some a ∧ H a = some (.ins (ca.c c) dx ws) ∧ RepF K ι H fs ws := by
  cases r with
  | @obj a n hn =>
    simp only [insOf] at h
    split at h
    · rename_i c' fs' hs
      split at h
      · rename_i hc
        cases h
        subst hc
        obtain ⟨dx, ws, h1, h2⟩ := m.ob n a _ hn hs
        exact ⟨n, a, dx, ws, rfl, rfl, hn, h1, h2⟩
      · cases h
    · cases h
  | _ => cases h
def gFld (c : Nat) (f : Str) (g : GE) : GE := fun ρ s => (g ρ s).bind fun d s1 => R.ofO ((insOf c s1 d).bind fun fs => fs.lookup f) s1
theorem je_fld {c : Nat} (hC : Cls X.K (ca.c c)) (hN : NoAttr X.K (ca.c c) f) (he : JE X ca W e g) (hb : attributeBase e f X.env (eval e X.env) = eval e X.env := by rfl) : JE X ca W (.Attribute e f pos) (gFld c f g) :=
  PE.imp (pe_fld he hb) fun σ H Q ⟨ι, ρ, s, hr, hm, h⟩ => bindE famE hr hm h fun ι1 s1 d v H1 l1 hr1 hm1 rd h1 => by
    cases e1 : insOf c s1 d with
    | none => rw [e1] at h1; exact h1.elim
    | some fs =>
      rw [e1] at h1
      simp only [Option.bind_some] at h1
      cases e2 : fs.lookup f with
      | none => rw [e2] at h1; exact h1.elim
      | some x =>
        rw [e2] at h1
        obtain ⟨n, a, dx, ws, rfl, rfl, _, h2, h3⟩ := insOf_at hm1 rd e1
        obtain ⟨y, h4, h5⟩ := (h3.look (f := f)).1 x e2
        exact ⟨a, _, dx, ws, y, rfl, h2, hC, hN, h4, h1 _ _ _ .refl hm1 h5⟩
/-- o.f = value -/
def sFldJ (c : Nat) (f : Str) (go gv : GE) : GS := fun ρ s => (gv ρ s).bind fun x s1 => (go ρ s1).bind fun d s2 => match d with
  | .obj n => (match insOf c s2 (.obj n) with
    | some fs => if fs.length < 1000 then .ok (.nx ρ) (s2.set n (.ins c (putD f x fs))) else .no
    | none => .no)
  | _ => .no
theorem js_fld {c : Nat} (hC : Cls X.K (ca.c c)) (hN : NoAttr X.K (ca.c c) f) (ho : JE X ca W o go) (hv : JE X ca W value gv) (hs : swapsWith value (some (.Attribute o f pos')) pos.line X.env = pure false := by rfl) :
    JS X ca W (.Assign [.Attribute o f pos'] value pos) (sFldJ c f go gv) :=
  PS.imp (ps_fld ho hv hs) fun D σ H ⟨ι, ρ, s, hr, hm, h⟩ => bindE famS hr hm h fun ι1 s1 x v H1 l1 hr1 hm1 rx h1 => bindE famS hr1 hm1 h1 fun ι2 s2 d u H2 l2 hr2 hm2 rd h2 => by
    split at h2
    · rename_i n
      split at h2
      · rename_i fs e1
        split at h2
        · rename_i hl
          obtain ⟨n', a, dx, ws, e, rfl, hn, h3, h4⟩ := insOf_at hm2 rd e1
          cases e
          refine ⟨a, _, dx, ws, rfl, h3, hC, hN, by rw [← h4.len]; exact hl, ?_⟩
          obtain ⟨l, m'⟩ := hm2.write (o := .ins (ca.c c) dx (putF f v ws)) (u := .ins c (putD f x fs)) hn trivial fun l => ⟨dx, _, upd_same, (h4.mono l).put ((rx.mono l2).mono l)⟩
          exact h2 _ _ _ l m' (hr2.mono l)
        · exact h2.elim
      · exact h2.elim
    · exact h2.elim
/-- a method by its mirror: o.m(..) -/
structure JMeth (P : Program) (w : World) (K : PySem.W.Frag) (mg : Str → Option Value) (base : Heap) (ca : Ct) (k c : Nat) (m : Str) (n : Nat) (F : List D → S → R D) : Prop where
  ex : ∃ g fd ps, Meth K (ca.c c) m g ∧ Binds K fd ps [] ∧ ps.length = n + 1 ∧ FnOk P w K mg base (L2.CX P w) k g fd ps (spJ K ca (n + 1) F)
theorem pe_methJ {CX : CXT} {k : Nat} {C g : Addr} {m : Str} {fd : FuncData} {ps : List Str} {sp : Sp} {E : L2.St → XK} {ta : TE} {t : TA} {pl : Sem Bool} (he : PE X o ta) (c : Cls X.K C) (hm : Meth X.K C m g) (F : FnOk X.prog X.w X.K X.mg X.base CX k g fd ps sp) (hr : Room k X.A) (hb : Binds X.K fd ps []) (hx : ∀ σ, PassesAt CX X σ (E σ)) (ha : PA X (e :: es) t) (hst : starEach (e :: es) X.env = (false, eval e X.env) :: starEach es X.env := by rfl) (hpl : (backTo pos (starEach es X.env)).any (·.1) = false := by rfl)
    (ht : eval (.Call (.Attribute o m apos) (e :: es) [] pos) X.env = (do
      let ov ← eval o X.env; standAt apos.atName
      let (f, first) ← holding [ov] (getMethod ov m pl); callWith pos f first (backTo pos (starEach (e :: es) X.env)) (backToKw pos (keywordEach [] X.env))) := by rfl) :
    PE X (.Call (.Attribute o m apos) (e :: es) [] pos) (fun σ H Q => ta σ H fun x H1 => ∃ a dx fs, x = .ref a ∧ H1 a = some (.ins C dx fs) ∧ fs.lookup m = none ∧ t σ H1 fun vs H2 => sp (x :: vs) H2 Q (E σ)) := by
  refine ⟨fun pins s σ H Q I h => PySem.W.methodCall_KW (pl := pl) (thn (he.run pins s σ H _ I h) fun u s1 ⟨x, H1, I1, rx, q⟩ => ?_) ht⟩
  obtain ⟨a, dx, fs, rfl, ea, l, q⟩ := q
  obtain rfl : u = Value.ref a := rx
  refine getmeth_ok I1 ea c hm l (PySem.W.callWith_K (first := [.ref a]) (h₀ := X.base) I.ok.mod.kin hm.kp (thn (ha.run pos pins s1 σ H1 _ I1 q) fun us s2 q2 => ?_) hst hpl)
  obtain ⟨vs, H2, I2, r, q2⟩ := q2
  exact ⟨I2.kIn, run_fnS (us := .ref a :: us) (vs := .ref a :: vs) F hr hb (hx σ) I2 (.cons rfl r) q2⟩
theorem pe_methJ0 {CX : CXT} {k : Nat} {C g : Addr} {m : Str} {fd : FuncData} {ps : List Str} {sp : Sp} {E : L2.St → XK} {ta : TE} {pl : Sem Bool} (he : PE X o ta) (c : Cls X.K C) (hm : Meth X.K C m g) (F : FnOk X.prog X.w X.K X.mg X.base CX k g fd ps sp) (hr : Room k X.A) (hb : Binds X.K fd ps []) (hx : ∀ σ, PassesAt CX X σ (E σ))
    (ht : eval (.Call (.Attribute o m apos) [] [] pos) X.env = (do
      let ov ← eval o X.env; standAt apos.atName
      let (f, first) ← holding [ov] (getMethod ov m pl); callWith pos f first (backTo pos (starEach [] X.env)) (backToKw pos (keywordEach [] X.env))) := by rfl) :
    PE X (.Call (.Attribute o m apos) [] [] pos) (fun σ H Q => ta σ H fun x H1 => ∃ a dx fs, x = .ref a ∧ H1 a = some (.ins C dx fs) ∧ fs.lookup m = none ∧ sp [x] H1 Q (E σ)) := by
  refine ⟨fun pins s σ H Q I h => PySem.W.methodCall_KW (pl := pl) (thn (he.run pins s σ H _ I h) fun u s1 ⟨x, H1, I1, rx, q⟩ => ?_) ht⟩
  obtain ⟨a, dx, fs, rfl, ea, l, q⟩ := q
  obtain rfl : u = Value.ref a := rx
  exact getmeth_ok I1 ea c hm l (PySem.W.callWith_K0 (first := [.ref a]) I1.kIn hm.kp (run_fnS (us := [.ref a]) (vs := [.ref a]) F hr hb (hx σ) I1 (.cons rfl .nil) q))
/-- o.m(..): o's class is the c-th, its fields do not hide m -/
def gMeth (c n : Nat) (m : Str) (F : List D → S → R D) (go : GE) (gr : GA) : GE := fun ρ s => (go ρ s).bind fun d s1 => match insOf c s1 d with
  | some fs => if (fs.lookup m).isNone then (gr ρ s1).bind fun ds s2 => if ds.length = n then F (d :: ds) s2 else .no else .no
  | none => .no
theorem je_meth {c k n : Nat} {m : Str} {F : List D → S → R D} {gr : GA} (hC : Cls X.K (ca.c c)) (h : JMeth X.prog X.w X.K X.mg X.base ca k c m n F) (hr : Room k X.A) (tk : Takes X W) (ho : JE X ca W o go) (ha : JA X ca W (e :: es) gr) {pl : Sem Bool}
    (hst : starEach (e :: es) X.env = (false, eval e X.env) :: starEach es X.env := by rfl) (hpl : (backTo pos (starEach es X.env)).any (·.1) = false := by rfl)
    (ht : eval (.Call (.Attribute o m apos) (e :: es) [] pos) X.env = (do
      let ov ← eval o X.env; standAt apos.atName
      let (f, first) ← holding [ov] (getMethod ov m pl); callWith pos f first (backTo pos (starEach (e :: es) X.env)) (backToKw pos (keywordEach [] X.env))) := by rfl) :
    JE X ca W (.Call (.Attribute o m apos) (e :: es) [] pos) (gMeth c n m F go gr) := by
  obtain ⟨g', fd, ps, hm, hb, hn, F'⟩ := h.ex
  refine PE.imp (pe_methJ (pl := pl) ho hC hm F' hr hb (fun σ => passAt tk σ) ha hst hpl ht) fun σ H Q ⟨ι, ρ, s, hrs, hms, h⟩ => bindE famE hrs hms h fun ι1 s1 d v H1 l1 hr1 hm1 rd h1 => ?_
  cases e1 : insOf c s1 d with
  | none => rw [e1] at h1; exact h1.elim
  | some fs =>
    rw [e1] at h1
    simp only at h1
    split at h1
    · rename_i hno
      obtain ⟨n', a, dx, ws, rfl, rfl, hn', h2, h3⟩ := insOf_at hm1 rd e1
      refine ⟨a, dx, ws, rfl, h2, (h3.look (f := m)).2 (Option.isNone_iff_eq_none.mp hno), bindA famE hr1 hm1 h1 fun ι2 s2 ds vs H2 l2 hr2 hm2 rs h4 => ?_⟩
      split at h4
      · rename_i hl
        exact ⟨ι2, _, s2, .cons (rd.mono l2) rs, hm2, by simp [hl], h4⟩
      · exact h4.elim
    · exact h1.elim
theorem je_meth0 {c k : Nat} {m : Str} {F : List D → S → R D} (hC : Cls X.K (ca.c c)) (h : JMeth X.prog X.w X.K X.mg X.base ca k c m 0 F) (hr : Room k X.A) (tk : Takes X W) (ho : JE X ca W o go) {pl : Sem Bool}
    (ht : eval (.Call (.Attribute o m apos) [] [] pos) X.env = (do
      let ov ← eval o X.env; standAt apos.atName
      let (f, first) ← holding [ov] (getMethod ov m pl); callWith pos f first (backTo pos (starEach [] X.env)) (backToKw pos (keywordEach [] X.env))) := by rfl) :
    JE X ca W (.Call (.Attribute o m apos) [] [] pos) (gMeth c 0 m F go gaNil) := by
  obtain ⟨g', fd, ps, hm, hb, hn, F'⟩ := h.ex
  refine PE.imp (pe_methJ0 (pl := pl) ho hC hm F' hr hb (fun σ => passAt tk σ) ht) fun σ H Q ⟨ι, ρ, s, hrs, hms, h⟩ => bindE famE hrs hms h fun ι1 s1 d v H1 l1 hr1 hm1 rd h1 => ?_
  cases e1 : insOf c s1 d with
  | none => rw [e1] at h1; exact h1.elim
  | some fs =>
    rw [e1] at h1
    simp only at h1
    split at h1
    · rename_i hno
      obtain ⟨n', a, dx, ws, rfl, rfl, hn', h2, h3⟩ := insOf_at hm1 rd e1
      exact ⟨a, dx, ws, rfl, h2, (h3.look (f := m)).2 (Option.isNone_iff_eq_none.mp hno), ι1, _, s1, .cons rd .nil, hm1, rfl, h1⟩
    · exact h1.elim
/-- C(..): a new instance of the c-th class, then its __init__, which errs never -/
def gMake (c n : Nat) (F : List D → S → R D) (gr : GA) : GE := fun ρ s => (gr ρ s).bind fun ds s1 => if ds.length = n then (noErr (F (.obj s1.length :: ds) (s1 ++ [.ins c []]))).bind fun r s2 => match r with
  | .non => .ok (.obj s1.length) s2
  | _ => .no else .no
structure JMake (P : Program) (w : World) (K : PySem.W.Frag) (mg : Str → Option Value) (base : Heap) (ca : Ct) (k c : Nat) (x : Str) (n : Nat) (F : List D → S → R D) : Prop where
  ex : ∃ g fd ps, mg x = some (.ref (ca.c c)) ∧ Mk K (ca.c c) g ∧ Binds K fd ps [] ∧ ps.length = n + 1 ∧ FnOk P w K mg base (L2.CX P w) k g fd ps (spJ K ca (n + 1) F)
theorem je_make {c k n : Nat} {x : Str} {p : Pos} {F : List D → S → R D} {gr : GA} (h : JMake X.prog X.w X.K X.mg X.base ca k c x n F) (hr : Room (k + 1) X.A) (hx : Passes (L2.CX X.prog X.w) X (fun _ _ _ => False)) (ha : JA X ca W (e :: es) gr) (hg : Gl X x := by rfl) (hdb : (x == ("__debug__" : Str)) = false := by decide)
    (he : starEach (e :: es) X.env = (false, eval e X.env) :: starEach es X.env := by rfl) (hpl : (backTo pos (starEach es X.env)).any (·.1) = false := by rfl) : JE X ca W (.Call (.Name x p) (e :: es) [] pos) (gMake c n F gr) := by
  obtain ⟨g', fd, ps, hm, M, hb, hn, F'⟩ := h.ex
  refine PE.imp (pe_make M F' hr hg hm hb .nil hx ha hdb he hpl) fun σ H Q ⟨ι, ρ, s, hrs, hms, h⟩ => bindA famE hrs hms h fun ι1 s1 ds vs H1 l1 hr1 hm1 rs h1 x' dx hx' hd' hne => ?_
  split at h1
  · rename_i hl
    obtain ⟨l2, m2⟩ := hm1.new (o := .own x') hd'
    have f2 : upd H1 dx (.own x') x' = none := by rw [upd_ne (fun z => hne z.symm)]; exact hx'
    obtain ⟨l3, m3⟩ := m2.alloc (o := .ins (ca.c c) dx []) (u := .ins c []) f2 trivial fun l => ⟨dx, [], upd_same, .nil⟩
    have ho : (ι1.ι ++ [x'])[s1.length]? = some x' := by rw [← hm1.len]; simp
    refine ⟨_, .obj s1.length :: ds, s1 ++ [.ins c []], ?_, m3, by simp [hl], ?_⟩
    · rw [List.append_nil]
      exact .cons (.obj ho) ((rs.mono l2).mono l3)
    · cases e1 : F (.obj s1.length :: ds) (s1 ++ [.ins c []]) with
      | err _ _ => rw [e1] at h1; exact h1.elim
      | no => rw [e1] at h1; exact h1.elim
      | ok r s2 =>
        rw [e1] at h1
        simp only [noErr, R.bind_ok] at h1
        intro ι4 v4 H4 l4 m4 r4
        cases r4 with
        | non =>
          refine ⟨rfl, h1 ι4 _ H4 ((l2.trans l3).trans l4) m4 ?_⟩
          exact (Rep.obj (K := X.K) (H := upd (upd H1 dx (.own x')) x' (.ins (ca.c c) dx [])) (ι := ⟨ι1.ι ++ [x'], x' :: ι1.M⟩) ho).mono l4
        | _ => exact h1.elim
  · exact h1.elim
end
end J


set_option Elab.async false
set_option linter.all false
set_option maxRecDepth 100000
set_option maxHeartbeats 4000000
/-! J12: dicts keyed by ints and texts: asked, stored; a new mutable list by repeating; a comprehension whose list is mutable. -/
namespace J
open PySem PySem.Spec L2
def keyD : D → Option Key
  | .int i => some (.inl i)
  | .str x => some (.inr x)
  | _ => none
def valD (kvs : List (Key × D)) (k : Key) : Option D := (kvs.find? fun kv => decide (kv.1 = k)).map (·.2)
def putKD (kvs : List (Key × D)) (k : Key) (d : D) : List (Key × D) := if (kvs.any fun kv => decide (kv.1 = k)) = true then kvs.map (fun kv => if kv.1 = k then (kv.1, d) else kv) else kvs ++ [(k, d)]
section
variable {K : PySem.W.Frag} {ca : Ct} {ι : Wd} {H : Hp} {s : S}
theorem keyD_rep {d : D} {v : V} {k : Key} (r : Rep K ι H d v) (h : keyD d = some k) : v = kV k := by
  cases r <;> cases h <;> rfl
theorem RepF.val {k : Key} : ∀ {fs : List (Key × D)} {ws : List (Key × V)}, RepF K ι H fs ws → (∀ d, valD fs k = some d → ∃ v, valV ws k = some v ∧ Rep K ι H d v) ∧ (valD fs k = none → valV ws k = none)
  | _, _, .nil => ⟨fun _ h => (by cases h), fun _ => rfl⟩
  | (g, d) :: fs, (g', v) :: ws, .cons ⟨e, r⟩ t => by
    have e : g = g' := e
    subst e
    have ih := RepF.val (k := k) t
    by_cases z : g = k
    · subst z
      refine ⟨fun x hx => ?_, fun h => ?_⟩
      · have : d = x := by simpa [valD, List.find?_cons] using hx
        subst this
        exact ⟨v, valV_pos rfl, r⟩
      · simp [valD, List.find?_cons] at h
    · rw [valV_neg (p := (g, v)) z]
      have e2 : valD ((g, d) :: fs) k = valD fs k := by simp [valD, List.find?_cons, z]
      rw [e2]
      exact ih
theorem RepF.anyK {k : Key} : ∀ {fs : List (Key × D)} {ws : List (Key × V)}, RepF K ι H fs ws → (fs.any fun kv => decide (kv.1 = k)) = (ws.any fun kv => decide (kv.1 = k))
  | _, _, .nil => rfl
  | (g, d) :: fs, (g', v) :: ws, .cons ⟨e, r⟩ t => by
    have e : g = g' := e
    subst e
    simp only [List.any_cons, RepF.anyK (k := k) t]
theorem RepF.mapK {k : Key} {d : D} {v : V} (r : Rep K ι H d v) : ∀ {fs : List (Key × D)} {ws : List (Key × V)}, RepF K ι H fs ws → RepF K ι H (fs.map fun kv => if kv.1 = k then (kv.1, d) else kv) (ws.map fun kv => if kv.1 = k then (kv.1, v) else kv)
  | _, _, .nil => .nil
  | (g, x) :: fs, (g', y) :: ws, .cons ⟨e, q⟩ t => by
    have e : g = g' := e
    subst e
    simp only [List.map_cons]
    by_cases z : g = k
    · rw [if_pos z, if_pos z]; exact .cons ⟨rfl, r⟩ (RepF.mapK r t)
    · rw [if_neg z, if_neg z]; exact .cons ⟨rfl, q⟩ (RepF.mapK r t)
theorem RepF.snoc {k : Key} {d : D} {v : V} (r : Rep K ι H d v) : ∀ {fs : List (Key × D)} {ws : List (Key × V)}, RepF K ι H fs ws → RepF K ι H (fs ++ [(k, d)]) (ws ++ [(k, v)])
  | _, _, .nil => .cons ⟨rfl, r⟩ .nil
  | _ :: _, _ :: _, .cons q t => .cons q (RepF.snoc r t)
theorem RepF.putK {k : Key} {d : D} {v : V} (r : Rep K ι H d v) {fs : List (Key × D)} {ws : List (Key × V)} (h : RepF K ι H fs ws) : RepF K ι H (putKD fs k d) (L2.putK ws k v) := by
  unfold putKD L2.putK
  rw [h.anyK]
  split
  · exact h.mapK r
  · exact h.snoc r
theorem RepF.lenK : ∀ {fs : List (Key × D)} {ws : List (Key × V)}, RepF K ι H fs ws → fs.length = ws.length
  | _, _, .nil => rfl
  | _ :: _, _ :: _, .cons _ t => by simp [RepF.lenK t]
def dicOf (s : S) : D → Option (List (Key × D))
  | .obj n => match s[n]? with
    | some (.dic kvs) => some kvs
    | _ => none
  | _ => none
theorem dicOf_at (m : Sim K ca ι s H) {d : D} {v : V} {fs : List (Key × D)} (r : Rep K ι H d v) (h : dicOf s d = some fs) : ∃ n a ws, d = .obj n ∧ v = .ref a ∧ ι.ι[n]? = some a ∧ H a = some (.dK ws) ∧ RepF K ι H fs ws := by
  cases r with
  | @obj a n hn =>
    simp only [dicOf] at h
    split at h
    · rename_i kvs hs
      cases h
      obtain ⟨ws, h1, h2⟩ := m.ob n a _ hn hs
      exact ⟨n, a, ws, rfl, rfl, hn, h1, h2⟩
    · cases h
  | _ => cases h
end
section
variable {X : Cx} {ca : Ct} {W : WX} {e o i value : Expr} {es : List Expr} {pos pos' apos : Pos} {g go gi gv gx : GE}
def fDGet (s : S) (x y : D) : Option D := (dicOf s x).bind fun kvs => (keyD y).bind fun k => valD kvs k
theorem je_dget {j : Nat} (hr : Room j X.A) (ho : JE X ca W o go) (hi : JE X ca W i gi) (hs : NoSl i := by exact fun _ _ => rfl) : JE X ca W (.Subscript o i pos) (gOp2 fDGet go gi) :=
  PE.imp (pe_dget (hu_of hr) ho hi hs) fun σ H Q ⟨ι, ρ, s, hrs, hm, h⟩ => bindE famE hrs hm h fun ι1 s1 x v H1 l1 hr1 hm1 rx h1 => bindE famE hr1 hm1 h1 fun ι2 s2 y u H2 l2 hr2 hm2 ry h2 => by
    cases e1 : dicOf s2 x with
    | none => simp [fDGet, e1] at h2; exact h2.elim
    | some kvs =>
      cases e2 : keyD y with
      | none => simp [fDGet, e1, e2] at h2; exact h2.elim
      | some k =>
        cases e3 : valD kvs k with
        | none => simp [fDGet, e1, e2, e3] at h2; exact h2.elim
        | some d =>
          simp only [fDGet, e1, e2, e3, Option.bind_some, R.ofO_some] at h2
          obtain ⟨n, a, ws, rfl, rfl, hn, h3, h4⟩ := dicOf_at hm2 (rx.mono l2) e1
          obtain ⟨z, h5, h6⟩ := (h4.val (k := k)).1 d e3
          have hk := keyD_rep ry e2
          subst hk
          refine ⟨a, z, rfl, ?_, h2 _ _ _ .refl hm2 h6⟩
          rw [← h5]; exact DGet.k h3
/-- o[i] = value, o a dict -/
def sDPutJ (gv go gi : GE) : GS := fun ρ s => (gv ρ s).bind fun x s1 => (go ρ s1).bind fun d s2 => (gi ρ s2).bind fun y s3 => match d with
  | .obj n => (match dicOf s3 (.obj n), keyD y with
    | some kvs, some k => if fitL (kvs.length + 1) then .ok (.nx ρ) (s3.set n (.dic (putKD kvs k x))) else .no
    | _, _ => .no)
  | _ => .no
theorem js_dput {j : Nat} (hr : Room j X.A) (hv : JE X ca W value gv) (ho : JE X ca W o go) (hi : JE X ca W i gi) (hs : swapsWith value (some (.Subscript o i pos')) pos.line X.env = pure false := by rfl) : JS X ca W (.Assign [.Subscript o i pos'] value pos) (sDPutJ gv go gi) :=
  PS.imp (ps_dput (hu_of hr) ho hi hv hs) fun D σ H ⟨ι, ρ, s, hrs, hm, h⟩ => bindE famS hrs hm h fun ι1 s1 x v H1 l1 hr1 hm1 rx h1 => bindE famS hr1 hm1 h1 fun ι2 s2 d u H2 l2 hr2 hm2 rd h2 => bindE famS hr2 hm2 h2 fun ι3 s3 y w H3 l3 hr3 hm3 ry h3 => by
    split at h3
    · rename_i n
      split at h3
      · rename_i kvs k e1 e2
        split at h3
        · rename_i hl
          obtain ⟨n', a, ws, e, rfl, hn, h4, h5⟩ := dicOf_at hm3 (rd.mono l3) e1
          cases e
          have hk := keyD_rep ry e2
          subst hk
          have hl := fitL_le hl
          refine ⟨a, _, rfl, DPut.k h4 (by rw [← h5.lenK]; omega), ?_⟩
          obtain ⟨l, m'⟩ := hm3.write (o := .dK (L2.putK ws k v)) (u := .dic (putKD kvs k x)) hn trivial fun l => ⟨_, upd_same, (h5.mono l).putK (((rx.mono l2).mono l3).mono l)⟩
          exact h3 _ _ _ l m' (hr3.mono l)
        · exact h3.elim
      · exact h3.elim
    · exact h3.elim
/-- xs * n as a new mutable list -/
def gRepM (ga gb : GE) : GE := fun ρ s => (ga ρ s).bind fun x s1 => (gb ρ s1).bind fun y s2 => match x, y with
  | .lst ds, .int j => if decide (-(2 ^ 63) ≤ j) && decide (j < 2 ^ 63) && fitL (ds.length * j.toNat) then .ok (.obj s2.length) (s2 ++ [.lst (List.replicate j.toNat ds).flatten]) else .no
  | _, _ => .no
theorem je_repM {a b : Expr} {ga gb : GE} (ha : JE X ca W a ga) (hb : JE X ca W b gb) : JE X ca W (.BinOp a .Mult b pos) (gRepM ga gb) :=
  PE.imp (pe_op op_rep ha hb) fun σ H Q ⟨ι, ρ, s, hrs, hm, h⟩ => bindE famE hrs hm h fun ι1 s1 x v H1 l1 hr1 hm1 rx h1 => bindE famE hr1 hm1 h1 fun ι2 s2 y u H2 l2 hr2 hm2 ry h2 => by
    have rx := rx.mono l2
    cases rx with
    | lst q1 q2 q3 =>
      cases ry with
      | int j =>
        simp only at h2
        split at h2
        · rename_i hl
          simp only [Bool.and_eq_true, decide_eq_true_eq] at hl
          obtain ⟨⟨k1, k2⟩, k3⟩ := hl
          refine ⟨_, _, _, rfl, rfl, q1, k1, k2, by rw [← q3.length]; exact fitL_le k3, fun p hp => ?_⟩
          obtain ⟨l, m⟩ := hm2.alloc (o := .lst (List.replicate j.toNat _).flatten) (u := .lst (List.replicate j.toNat _).flatten) hp trivial fun l => ⟨_, upd_same, (q3.flat _).mono l⟩
          exact h2 _ _ _ l m (.obj (by simp [← hm2.len]))
        · exact h2.elim
      | _ => exact h2.elim
    | _ => exact h2.elim
end
end J


set_option Elab.async false
set_option linter.all false
set_option maxRecDepth 100000
set_option maxHeartbeats 4000000
/-! J13: a comprehension whose list is a mutable object; d.get(k, x). -/
namespace J
open PySem PySem.Spec L2
theorem Sim.adopt {K : PySem.W.Frag} {ca : Ct} {ι : Wd} {s : S} {H : Hp} (m : Sim K ca ι s H) {p : Addr} {u : IO} (hM : p ∈ ι.M) (hn : p ∉ ι.ι) (r : Ke ι H ⟨ι.ι ++ [p], ι.M⟩ H → RepO K ca ⟨ι.ι ++ [p], ι.M⟩ H p u) : Ke ι H ⟨ι.ι ++ [p], ι.M⟩ H ∧ Sim K ca ⟨ι.ι ++ [p], ι.M⟩ (s ++ [u]) H := by
  have l : Ke ι H ⟨ι.ι ++ [p], ι.M⟩ H := ⟨List.prefix_append _ _, fun a o h _ n => ⟨h, n⟩, fun _ _ h => h, fun _ _ _ h => h⟩
  refine ⟨l, by simp [m.len], List.nodup_append.mpr ⟨m.nd, by simp, fun a ha b hb => ?_⟩, fun a ha => ?_, m.tr, m.tab.keep fun a o h n => ⟨h, n⟩, fun n a x hi hs => ?_⟩
  · have : b = p := by simpa using hb
    subst this
    exact fun z => hn (z ▸ ha)
  · rcases List.mem_append.mp ha with z | z
    · exact m.sub a z
    · rw [show a = p by simpa using z]; exact hM
  · by_cases hlt : n < ι.ι.length
    · have hi' : ι.ι[n]? = some a := by rw [← hi]; exact (List.getElem?_append_left hlt).symm
      have hs' : s[n]? = some x := by rw [← hs]; exact (List.getElem?_append_left (by rw [← m.len]; exact hlt)).symm
      exact (m.ob n a x hi' hs').monoK l rfl
    · have e1 : n = ι.ι.length := by
        have := (List.getElem?_eq_some_iff.mp hi).1
        simp at this; omega
      subst e1
      have ea : a = p := by simpa using hi.symm
      have ex : x = u := by
        rw [m.len] at hs
        simpa using hs.symm
      subst ea ex
      exact r l
theorem Le.adopt {ι ι' : Wd} {H H' : Hp} {p : Addr} (l : Le ι H ι' H') (h : H p = none) : Le ι H ⟨ι'.ι ++ [p], ι'.M⟩ H' :=
  ⟨⟨l.pre.trans (List.prefix_append _ _), l.keep, l.tup, l.frz⟩, fun a u q t n => ⟨(l.stay a u q t n).1, fun z => by
    rcases List.mem_append.mp z with z | z
    · exact (l.stay a u q t n).2 z
    · exact ne_of_none q h (by simpa using z)⟩, l.sub⟩
def gLcO (own : List Nat) (gi : GA) (t : TD) (gt : GT) (ge : GE) : GE := fun ρ s => (gi ρ s).bind fun ds s1 => if fitL ds.length then (lcLoop t gt ge (wipeD own ρ) ds s1).bind fun ys s2 => .ok (.obj s2.length) (s2 ++ [.lst ys]) else .no
theorem tG_lcO {ca : Ct} {K : PySem.W.Frag} {W : WX} {own : List Nat} {gi : GA} {t : TD} {gt : GT} {ge : GE} {tgt : TG} {σ : L2.St} {H : Hp} {Q : VK}
    (to : ∀ {ι : Wd} {H : Hp} {ρ ρ' : Env} {σ : L2.St} {d : D} {v : V} {Q : L2.St → Hp → Prop}, RelS K ι H (wipeD own ρ) (wipe σ own) → Rep K ι H d v → t d (wipeD own ρ) = some ρ' → (∀ σ', RelS K ι H ρ' σ' → wipe σ' own = wipe σ own → Q σ' H) → tgt v (wipe σ own) H Q)
    (h : tG K ca W (gLcO own gi t gt ge) σ H Q) : tLc (tI K ca W gi) tgt (tT K ca W0 gt) (tG K ca W0 ge) own σ H Q := by
  obtain ⟨ι, ρ, s, hr, hm, h⟩ := h
  refine ⟨ι, ρ, s, hr, hm, ?_⟩
  unfold gLcO at h
  cases e : gi ρ s with
  | err x s1 => rw [e] at h; exact h
  | no => rw [e] at h; exact h
  | ok ds s1 =>
    rw [e] at h
    intro ι1 J H1 l1 hm1 it Da hDa
    simp only [R.bind_ok] at h
    split at h
    · rename_i hfit
      obtain ⟨lo, mo⟩ := hm1.open (o := .lst []) hDa trivial
      have nι : Da ∉ ι1.ι := fun z => hm1.ne hDa (hm1.sub _ z)
      -- the invariant
      refine ⟨fun i m H' => m = ds.length - i ∧ ∃ ι' s' acc vs, Le ι1 H1 ι' H' ∧ Da ∈ ι'.M ∧ Da ∉ ι'.ι ∧ Sim K ca ι' s' H' ∧ H' Da = some (.lst vs) ∧ Reps K ι' H' acc vs ∧ acc.length ≤ i ∧
        PostE K ca ι H ((lcLoop t gt ge (wipeD own ρ) (ds.drop i) s').bind fun ys s2 => .ok (.obj s2.length) (s2 ++ [(_root_.J.IO.lst (acc ++ ys))])) Q (fun cv dd H' => W cv dd σ H'), ⟨_, rfl, ⟨ι1.ι, Da :: ι1.M⟩, s1, [], [], lo, List.mem_cons_self, nι, mo, upd_same, .nil, Nat.le_refl _, h⟩, ?_⟩
      rintro i m H' ⟨rfl, ι', s', acc, vs, l', hDM, hDι, hm', hD', hacc, hlen, h'⟩
      obtain ⟨i1, i2⟩ := it ι' H' l'
      have l0 := l1.trans l'
      by_cases hlt : i < ds.length
      · have hd : ds[i]? = some ds[i] := List.getElem?_eq_getElem hlt
        obtain ⟨g1, g2⟩ := i1 i _ hd
        refine .inr ⟨g1, fun H2 => ∃ ι' s' acc vs, Le ι1 H1 ι' H2 ∧ Da ∈ ι'.M ∧ Da ∉ ι'.ι ∧ Sim K ca ι' s' H2 ∧ H2 Da = some (.lst vs) ∧ Reps K ι' H2 acc vs ∧ acc.length ≤ i + 1 ∧
          PostE K ca ι H ((lcLoop t gt ge (wipeD own ρ) (ds.drop (i + 1)) s').bind fun ys s2 => .ok (.obj s2.length) (s2 ++ [(_root_.J.IO.lst (acc ++ ys))])) Q (fun cv dd H' => W cv dd σ H'), fun H2 w => ⟨_, by omega, rfl, w⟩, fun x H2 y => ?_⟩
        obtain ⟨rfl, rx⟩ := g2 x H2 y
        rw [List.drop_eq_getElem_cons hlt] at h'
        unfold lcLoop at h'
        cases e2 : t ds[i] (wipeD own ρ) with
        | none => rw [e2] at h'; exact h'.elim
        | some ρ2 =>
          rw [e2] at h'
          simp only at h'
          refine to ((hr.mono l0).wipe own) rx e2 fun σ2 hr2 hw2 => ⟨hw2, ι', ρ2, s', hr2, hm', ?_⟩
          cases e3 : gt ρ2 s' with
          | err x s4 => rw [e3] at h'; exact h'.elim
          | no => rw [e3] at h'; exact h'.elim
          | ok k s4 =>
            rw [e3] at h'
            simp only [noErr, R.bind_ok] at h'
            intro ι3 H3 l3 m3
            have d3 := l3.stay _ _ hD' noTab_lst hDι
            cases k with
            | false =>
              rw [if_neg Bool.false_ne_true]
              simp only [Bool.false_eq_true, if_false] at h'
              exact ⟨ι3, s4, acc, vs, l'.trans l3, l3.sub _ hDM, d3.2, m3, d3.1, hacc.mono l3, by omega, h'⟩
            | true =>
              rw [if_pos rfl]
              simp only [if_true] at h'
              refine ⟨ι3, ρ2, s4, hr2.mono l3, m3, ?_⟩
              cases e4 : ge ρ2 s4 with
              | err x s5 => rw [e4] at h'; exact h'.elim
              | no => rw [e4] at h'; exact h'.elim
              | ok y s5 =>
                rw [e4] at h'
                simp only [R.bind_ok] at h'
                intro ι4 v4 H4 l4 m4 r4
                have d4 := l4.stay _ _ d3.1 noTab_lst d3.2
                obtain ⟨kf, mf⟩ := m4.fill (o := .lst (vs ++ [v4])) (l4.sub _ (l3.sub _ hDM)) d4.2 trivial
                have hv : vs.length = acc.length := (hacc.length).symm
                refine ⟨vs, d4.1, ?_, ι4, s5, acc ++ [y], vs ++ [v4], ((l'.trans l3).trans l4).updNone hDa, l4.sub _ (l3.sub _ hDM), d4.2, mf, upd_same, (Reps.monoK kf ((hacc.mono l3).mono l4)).append (.cons (Rep.monoK kf r4) .nil), by simp; omega, ?_⟩
                · have := fitL_le hfit
                  omega
                · cases e5 : lcLoop t gt ge (wipeD own ρ) (ds.drop (i + 1)) s5 with
                  | ok ys s6 => rw [e5] at h'; simpa using h'
                  | err x s6 => rw [e5] at h'; exact h'
                  | no => rw [e5] at h'; exact h'
      · refine .inl ⟨i2 i (by omega), ?_⟩
        rw [List.drop_eq_nil_of_le (by omega)] at h'
        simp only [lcLoop, R.bind_ok, List.append_nil] at h'
        obtain ⟨la, ms⟩ := hm'.adopt hDM hDι (u := .lst acc) fun l => ⟨vs, hD', Reps.monoK l hacc⟩
        exact h' _ _ H' (l1.trans (l'.adopt hDa)) ms (.obj (by simp [← hm'.len]))
    · exact h.elim

section
variable {X : Cx} {ca : Ct} {W : WX} {e o i f : Expr} {pos apos cpos : Pos} {go gi gx : GE}
theorem je_lcO {elt iter : Expr} {ifs : List Expr} {scope : Scope} {i : Nat} {x : Str} {tpos : Pos} {gi : GA} {gt : GT} {ge : GE} (hc : X.calm = true) (hN : X.N.Nodup) (hi : JI X ca W (.Name x tpos) iter gi) (ok : BlkOk X.N X.env.scope scope [(x, i)])
    (hg : ∀ (s : Shared) (H : Hp) (C : Addr) (cl : List (Str × Addr)) (fp : List Addr), PG (X.blk s H scope (compEnvC scope cl C X.env) fp) (.Name x tpos) (gName i))
    (ht : ∀ (s : Shared) (H : Hp) (C : Addr) (cl : List (Str × Addr)) (fp : List Addr), JTs (X.blk s H scope (compEnvC scope cl C X.env) fp) ca W0 ifs gt)
    (he : ∀ (s : Shared) (H : Hp) (C : Addr) (cl : List (Str × Addr)) (fp : List Addr), JE (X.blk s H scope (compEnvC scope cl C X.env) fp) ca W0 elt ge) (hs : ∀ x, foldedSetIterable iter X.env x = pure x := by intro _; rfl) :
    JE X ca W (.ListComp elt [⟨.Name x tpos, iter, ifs, 0⟩] scope pos) (gLcO [i] gi (dName i) gt ge) :=
  PE.imp (pe_lc (own := [(x, i)]) (g := gName i) (wi := tI X.K ca W gi) (tt := tT X.K ca W0 gt) (te := tG X.K ca W0 ge) hc hN hi ok hg ht he hs) fun σ H Q h => tG_lcO (own := [i]) (fun {ι H ρ ρ' σ d v Q} r rd e k => by
    cases e
    refine k _ (r.set rd i) ?_
    show ((wipe σ [i]).set i (some v)).set i none = (σ.set i none)
    show ((σ.set i none).set i (some v)).set i none = (σ.set i none)
    rw [List.set_set, List.set_set]) h

/-- d.get(k, x) -/
def gDGet2 (go gi gx : GE) : GE := fun ρ s => (go ρ s).bind fun d s1 => match dicOf s1 d with
  | some _ => (gi ρ s1).bind fun y s2 => (gx ρ s2).bind fun x s3 => (match dicOf s3 d, keyD y with
    | some kvs, some k => .ok ((valD kvs k).getD x) s3
    | _, _ => .no)
  | none => .no
theorem je_dget2 {j : Nat} (hr : Room j X.A) (ho : JE X ca W o go) (he : JE X ca W e gi) (hf : JE X ca W f gx) (m : M2 X o "get" apos e f cpos := by exact ⟨rfl, rfl, rfl, rfl⟩) : JE X ca W (.Call (.Attribute o "get" apos) [e, f] [] cpos) (gDGet2 go gi gx) :=
  PE.imp (pe_dget2 (hu_of hr) ho he hf m) fun σ H Q ⟨ι, ρ, s, hrs, hm, h⟩ => bindE famE hrs hm h fun ι1 s1 d v H1 l1 hr1 hm1 rd h1 => by
    split at h1
    · rename_i kvs0 e0
      obtain ⟨n0, a, ws0, rfl, rfl, hn0, h2, _⟩ := dicOf_at hm1 rd e0
      refine ⟨a, rfl, .inl ⟨ws0, .inl h2⟩, bindE famE hr1 hm1 h1 fun ι2 s2 y u H2 l2 hr2 hm2 ry h3 => bindE famE hr2 hm2 h3 fun ι3 s3 x w H3 l3 hr3 hm3 rx h4 => ?_⟩
      split at h4
      · rename_i kvs k e1 e2
        obtain ⟨n, a', ws, e, e', hn, h5, h6⟩ := dicOf_at hm3 ((rd.mono l2).mono l3) e1
        cases e'
        have hk := keyD_rep ry e2
        subst hk
        refine ⟨valV ws k, DGet.k h5, ?_⟩
        cases e3 : valD kvs k with
        | none =>
          rw [(h6.val (k := k)).2 e3]
          rw [e3] at h4
          exact h4 _ _ _ .refl hm3 rx
        | some d' =>
          obtain ⟨z, h7, h8⟩ := (h6.val (k := k)).1 d' e3
          rw [h7]
          rw [e3] at h4
          exact h4 _ _ _ .refl hm3 h8
      · exact h4.elim
    · exact h1.elim
end
end J


set_option Elab.async false
set_option linter.all false
set_option maxRecDepth 100000
set_option maxHeartbeats 4000000
/-! J14: a dict written with text keys, as a mutable object. -/
namespace J
open PySem PySem.Spec L2
theorem R.bind_assoc {α β γ : Type} (r : R α) (k : α → S → R β) (l : β → S → R γ) : (r.bind k).bind l = r.bind fun a s => (k a s).bind l := by cases r <;> rfl
def gKV : List (Str × GE) → Env → S → R (List (Key × D))
  | [], _, s => .ok [] s
  | (k, g) :: r, ρ, s => (g ρ s).bind fun d s1 => (gKV r ρ s1).bind fun ps s2 => .ok ((.inr k, d) :: ps) s2
def mergeD (ps : List (Key × D)) : List (Key × D) := ps.foldl (fun acc kv => putKD acc kv.1 kv.2) []
def gDisp (kgs : List (Str × GE)) : GE := fun ρ s => if decide (kgs.length ≤ 15) then (gKV kgs ρ s).bind fun ps s1 => .ok (.obj s1.length) (s1 ++ [.dic (mergeD ps)]) else .no
section
variable {K : PySem.W.Frag} {ca : Ct} {W : WX} {σ : L2.St} {ρ : Env}
theorem famB {ι0 : Wd} {H0 : Hp} {Q : VK} {E : XK} : Fam K ca E (fun ι H (r : R D) => Le ι0 H0 ι H ∧ PostE K ca ι0 H0 r Q E) :=
  ⟨fun h l => ⟨h.1.trans l, h.2⟩, fun h ι' cv dd H' l m x => h.2 ι' cv dd H' (h.1.trans l) m x, fun h => h.2⟩
theorem tPairs_g {ι0 : Wd} {H0 : Hp} {Q : VK} : ∀ (kgs : List (Str × GE)) {ι : Wd} {s : S} {H : Hp} {k : List (Key × D) → S → R D} {P : List (V × V) → Hp → Prop}, RelS K ι H ρ σ → Sim K ca ι s H → (Le ι0 H0 ι H ∧ PostE K ca ι0 H0 ((gKV kgs ρ s).bind k) Q (fun cv dd H' => W cv dd σ H')) →
    (∀ ι' s' ps (vs : List (Key × V)) H', Le ι H ι' H' → Sim K ca ι' s' H' → RepF K ι' H' ps vs → vs.length = kgs.length → (Le ι0 H0 ι' H' ∧ PostE K ca ι0 H0 (k ps s') Q (fun cv dd H' => W cv dd σ H')) → P (vs.map fun kv => (kV kv.1, kv.2)) H') →
    tPairs (kgs.map fun q => (tC (.str q.1), tG K ca W q.2)) σ H P
  | [], ι, s, H, k, P, hr, hm, h, st => st ι s [] [] H .refl hm .nil rfl h
  | (x, g) :: kgs, ι, s, H, k, P, hr, hm, h, st => by
    have e : (gKV ((x, g) :: kgs) ρ s).bind k = (g ρ s).bind fun d s1 => ((gKV kgs ρ s1).bind fun ps s2 => k ((.inr x, d) :: ps) s2) := by
      show ((g ρ s).bind fun d s1 => (gKV kgs ρ s1).bind fun ps s2 => .ok ((.inr x, d) :: ps) s2).bind k = _
      rw [R.bind_assoc]
      congr 1
      funext d s1
      rw [R.bind_assoc]; rfl
    rw [e] at h
    refine bindE (famB (ι0 := ι0) (H0 := H0)) hr hm h fun ι1 s1 d v H1 l1 hr1 hm1 rd h1 => ?_
    refine tPairs_g kgs hr1 hm1 h1 fun ι2 s2 ps vs H2 l2 hm2 rs hl h2 => ?_
    exact st ι2 s2 ((.inr x, d) :: ps) ((.inr x, v) :: vs) H2 (l1.trans l2) hm2 (.cons ⟨rfl, rd.mono l2⟩ rs) (by simp [hl]) h2
theorem RepF.merge {ι : Wd} {H : Hp} : ∀ {ps : List (Key × D)} {vs : List (Key × V)} {as : List (Key × D)} {bs : List (Key × V)}, RepF K ι H ps vs → RepF K ι H as bs → RepF K ι H (ps.foldl (fun acc kv => putKD acc kv.1 kv.2) as) (mergeK bs vs)
  | _, _, _, _, .nil, h => h
  | (g, d) :: ps, (g', v) :: vs, as, bs, .cons ⟨e, r⟩ t, h => by
    have e : g = g' := e
    subst e
    have z := RepF.merge t (RepF.putK (k := g) r h)
    exact z
end
section
variable {X : Cx} {ca : Ct} {W : WX} {pos : Pos}
theorem je_disp {keys : List (Option Expr)} {values : List Expr} {kgs : List (Str × GE)} (h : PPs X pos keys values (kgs.map fun q => (tC (.str q.1), tG X.K ca W q.2))) (hall : keys.all (·.isSome) = true := by rfl) (hl : keys.length = values.length := by rfl) (h0 : keys ≠ [] := by exact fun z => by cases z) (h15 : keys.length ≤ 15 := by decide) :
    JE X ca W (.Dict keys values pos) (gDisp kgs) :=
  PE.imp (pe_disp h hall hl h0 h15) fun σ H Q ⟨ι, ρ, s, hrs, hm, h⟩ p hp => by
    unfold gDisp at h
    split at h
    · rename_i hk
      have hk := of_decide_eq_true hk
      obtain ⟨lo, mo⟩ := hm.open (o := .dK []) hp trivial
      have nι : p ∉ ι.ι := fun z => hm.ne hp (hm.sub _ z)
      refine tPairs_g (ι0 := ι) (H0 := H) kgs (hrs.mono lo) mo ⟨lo, h⟩ fun ι2 s2 ps vs H2 l2 hm2 rs hlen h2 => ?_
      have hst := l2.stay _ _ upd_same (fun _ z => by cases z) nι
      refine ⟨hst.1, vs, rfl, by omega, ?_⟩
      have hM := l2.sub p List.mem_cons_self
      obtain ⟨kf, mf⟩ := hm2.fill (o := .dK (mergeK [] vs)) hM hst.2 trivial
      obtain ⟨la, ma⟩ := mf.adopt hM hst.2 (u := .dic (mergeD ps)) fun l => ⟨_, upd_same, RepF.monoK l (RepF.monoK kf (RepF.merge rs .nil))⟩
      exact h2.2 _ _ _ ((h2.1.updNone hp).adopt hp) ma (.obj (by simp [← hm2.len]))
    · exact h.elim
end
end J


set_option Elab.async false
set_option linter.all false
set_option maxRecDepth 100000
set_option maxHeartbeats 4000000
/-! J15: targets that store into objects: fields, dicts, tuples of such. -/
namespace J
open PySem PySem.Spec L2
abbrev TD2 := D → Env → S → R Env
abbrev TDs2 := List D → Env → S → R Env
def PostG (K : PySem.W.Frag) (ca : Ct) (ι : Wd) (H : Hp) (r : R Env) (Q : L2.St → Hp → Prop) : Prop := match r with
  | .ok ρ' s' => ∀ ι' σ' H', Le ι H ι' H' → Sim K ca ι' s' H' → RelS K ι' H' ρ' σ' → Q σ' H'
  | _ => False
theorem famG {K : PySem.W.Frag} {ca : Ct} {E : XK} {Q : L2.St → Hp → Prop} : Fam K ca E (fun ι H r => PostG K ca ι H r Q) := ⟨fun {ι H ι' H' r} h l => by
  cases r with
  | ok d s => exact fun ι2 σ2 H2 l2 m q => h ι2 σ2 H2 (l.trans l2) m q
  | err e s => exact h
  | no => exact h, fun h => h.elim, fun h => h⟩
def tg2 (K : PySem.W.Frag) (ca : Ct) (t : TD2) : TG := fun v σ H Q => ∃ ι ρ s d, RelS K ι H ρ σ ∧ Sim K ca ι s H ∧ Rep K ι H d v ∧ PostG K ca ι H (t d ρ s) Q
def tgs2 (K : PySem.W.Frag) (ca : Ct) (t : TDs2) : TGs := fun vs σ H Q => ∃ ι ρ s ds, RelS K ι H ρ σ ∧ Sim K ca ι s H ∧ Reps K ι H ds vs ∧ PostG K ca ι H (t ds ρ s) Q
def JG2 (X : Cx) (ca : Ct) (tg : Expr) (t : TD2) : Prop := PG X tg (tg2 X.K ca t)
def JGs2 (X : Cx) (ca : Ct) (tgs : List Expr) (t : TDs2) : Prop := PGs X tgs (tgs2 X.K ca t)
section
variable {X : Cx} {ca : Ct} {W : WX} {e o i tg : Expr} {es : List Expr} {f : Str} {pos : Pos} {g go gi : GE}
def d2Name (i : Nat) : TD2 := fun d ρ s => .ok (ρ.set i (some d)) s
theorem jg2_name (i : Nat) {x : Str} (hN : X.N.Nodup) (hi : X.N[i]? = some x := by rfl) (hx : Loc X.env.scope x := by first | exact Or.inl rfl | exact Or.inr rfl) (hf : X.fn x = true ∨ X.env.scope.names.lookup x = some .local := by first | exact .inl rfl | exact .inr rfl) : JG2 X ca (.Name x pos) (d2Name i) :=
  PG.imp (pg_name (i := i) hN hi hx hf) fun v σ H Q ⟨ι, ρ, s, d, hr, hm, rd, q⟩ => q ι _ H .refl hm (hr.set rd i)
theorem pg_fldJ {to : TE} (ho : PE X o to) (ha : ∀ v, assign (.Attribute o f pos) X.env v = (do
      let ov ← holding [v] (eval o X.env)
      standAt pos.atName; holding [v, ov] (setAttr ov f v); release [v, ov] []) := by intro _; rfl) :
    PG X (.Attribute o f pos) (fun v σ H Q => to σ H fun x H1 => ∃ a C dx fs, x = .ref a ∧ H1 a = some (.ins C dx fs) ∧ Cls X.K C ∧ NoAttr X.K C f ∧ fs.length < 1000 ∧ Q σ (upd H1 a (.ins C dx (putF f v fs)))) := by
  refine ⟨fun pins s σ H v u Q I r h => ?_⟩
  rw [ha]
  refine wpAny_bind (wpAny_holding (thn (ho.run pins s σ H _ I h) fun ov s1 ⟨x, H1, I1, r1, a, C, dx, fs, ex, ea, c, n, l, q⟩ => ?_))
  subst ex
  obtain rfl : ov = Value.ref a := r1
  exact wpAny_bind (wpAny_standAt (wpAny_bind (wpAny_holding (setattr_ok I1 ea c n l r fun s2 I2 => wpAny_release ⟨σ, _, I2, q⟩))))
def d2Fld (c : Nat) (f : Str) (go : GE) : TD2 := fun x ρ s => (go ρ s).bind fun d s1 => match d with
  | .obj n => (match insOf c s1 (.obj n) with
    | some fs => if fs.length < 1000 then .ok ρ (s1.set n (.ins c (putD f x fs))) else .no
    | none => .no)
  | _ => .no
theorem jg2_fld {c : Nat} (hC : Cls X.K (ca.c c)) (hN : NoAttr X.K (ca.c c) f) (ho : JE X ca W o go) : JG2 X ca (.Attribute o f pos) (d2Fld c f go) :=
  PG.imp (pg_fldJ ho) fun v σ H Q ⟨ι, ρ, s, x, hr, hm, rx, h⟩ => bindE famG hr hm h fun ι1 s1 d u H1 l1 hr1 hm1 rd h1 => by
    split at h1
    · rename_i n
      split at h1
      · rename_i fs e1
        split at h1
        · rename_i hl
          obtain ⟨n', a, dx, ws, e, rfl, hn, h3, h4⟩ := insOf_at hm1 rd e1
          cases e
          refine ⟨a, _, dx, ws, rfl, h3, hC, hN, by rw [← h4.len]; exact hl, ?_⟩
          obtain ⟨l, m'⟩ := hm1.write (o := .ins (ca.c c) dx (putF f v ws)) (u := .ins c (putD f x fs)) hn trivial fun l => ⟨dx, _, upd_same, (h4.mono l).put ((rx.mono l1).mono l)⟩
          exact h1 _ _ _ l m' (hr1.mono l)
        · exact h1.elim
      · exact h1.elim
    · exact h1.elim
def rSetD : V → V → V → Hp → (Hp → Prop) → Prop := fun o i v H Q => ∃ a H', o = .ref a ∧ DPut H a i v H' ∧ Q H'
theorem set_dict (hu : X.A.units + 1 < cLine) : PSet X rSetD := by
  intro pins s σ H o i v ov iv u Q I ro ri rv h
  obtain ⟨a, H', rfl, g, q⟩ := h
  obtain rfl : ov = Value.ref a := ro
  exact d_setItem hu I g ri rv fun s' I' => ⟨H', I', q⟩
def d2Put (go gi : GE) : TD2 := fun x ρ s => (go ρ s).bind fun d s1 => (gi ρ s1).bind fun y s2 => match d with
  | .obj n => (match dicOf s2 (.obj n), keyD y with
    | some kvs, some k => if fitL (kvs.length + 1) then .ok ρ (s2.set n (.dic (putKD kvs k x))) else .no
    | _, _ => .no)
  | _ => .no
theorem jg2_put {j : Nat} (hr : Room j X.A) (ho : JE X ca W o go) (hi : JE X ca W i gi) (ha : ∀ v, assign (.Subscript o i pos) X.env v = (do
      let ov ← holding [v] (eval o X.env)
      let iv ← holding [v, ov] (eval i X.env)
      standAt pos; holding [v, ov, iv] (setItem ov iv v); release [v, ov, iv] []) := by intro _; rfl) : JG2 X ca (.Subscript o i pos) (d2Put go gi) :=
  PG.imp (pg_sub ho hi (set_dict (hu_of hr)) ha) fun v σ H Q ⟨ι, ρ, s, x, hrs, hm, rx, h⟩ => bindE famG hrs hm h fun ι1 s1 d u H1 l1 hr1 hm1 rd h1 => bindE famG hr1 hm1 h1 fun ι2 s2 y w H2 l2 hr2 hm2 ry h2 => by
    split at h2
    · rename_i n
      split at h2
      · rename_i kvs k e1 e2
        split at h2
        · rename_i hl
          obtain ⟨n', a, ws, e, rfl, hn, h4, h5⟩ := dicOf_at hm2 (rd.mono l2) e1
          cases e
          have hk := keyD_rep ry e2
          subst hk
          have hl := fitL_le hl
          refine ⟨a, _, rfl, DPut.k h4 (by rw [← h5.lenK]; omega), ?_⟩
          obtain ⟨l, m'⟩ := hm2.write (o := .dK (L2.putK ws k v)) (u := .dic (putKD kvs k x)) hn trivial fun l => ⟨_, upd_same, (h5.mono l).putK (((rx.mono l1).mono l2).mono l)⟩
          exact h2 _ _ _ l m' (hr2.mono l)
        · exact h2.elim
      · exact h2.elim
    · exact h2.elim
def ds2Nil : TDs2 := fun ds ρ s => match ds with | [] => .ok ρ s | _ => .no
def ds2Cons (t : TD2) (r : TDs2) : TDs2 := fun ds ρ s => match ds with | d :: ds => (t d ρ s).bind (r ds) | _ => .no
theorem jgs2_nil : JGs2 X ca [] ds2Nil := PGs.imp pgs_nil fun v σ H Q ⟨ι, ρ, s, ds, hr, hm, rs, q⟩ => by
  cases rs with
  | nil => exact ⟨rfl, q ι _ H .refl hm hr⟩
  | cons _ _ => exact q.elim
theorem jgs2_cons {t : TD2} {r : TDs2} (h1 : JG2 X ca e t) (h2 : JGs2 X ca es r) (hs : (assignEach (e :: es) X.env).map (·.2) = assign e X.env :: (assignEach es X.env).map (·.2) := by rfl) : JGs2 X ca (e :: es) (ds2Cons t r) :=
  PGs.imp (pgs_cons h1 h2 hs) fun v σ H Q ⟨ι, ρ, s, ds, hr, hm, rs, q⟩ => by
    cases rs with
    | nil => exact q.elim
    | cons rd rs =>
      refine ⟨_, _, rfl, ι, ρ, s, _, hr, hm, rd, ?_⟩
      simp only [ds2Cons] at q
      cases e1 : t _ ρ s with
      | ok ρ1 s1 =>
        rw [e1] at q
        exact fun ι1 σ1 H1 l1 m1 r1 => ⟨ι1, ρ1, s1, _, r1, m1, rs.mono l1, famG.mono (E := fun _ _ _ => True) q l1⟩
      | err _ _ => rw [e1] at q; exact q.elim
      | no => rw [e1] at q; exact q.elim
def d2Tup (n : Nat) (t : TDs2) : TD2 := fun d ρ s => match d with | .tup ds => if ds.length = n then t ds ρ s else .no | _ => .no
theorem jg2_tup {t : TDs2} {k n : Nat} (hc : X.calm = true) (h : JGs2 X ca es t) (hn : (assignEach es X.env).length = n := by rfl) (hst : (assignEach es X.env).findIdx? (·.1) = none := by rfl) : JG2 X ca (.Tuple es k pos) (d2Tup n t) :=
  PG.imp (pg_tup hc h hn hst) fun v σ H Q ⟨ι, ρ, s, d, hr, hm, rd, q⟩ => by
    cases rd with
    | tup h1 h2 =>
      simp only [d2Tup] at q
      split at q
      · rename_i hl
        exact ⟨_, _, rfl, h1.sq, by rw [← h2.length]; exact hl, ι, ρ, s, _, hr, hm, h2, q⟩
      · exact q.elim
    | _ => exact q.elim
def sAsg2 (g : GE) (t : TD2) : GS := fun ρ s => (g ρ s).bind fun d s1 => match t d ρ s1 with
  | .ok ρ1 s2 => .ok (.nx ρ1) s2
  | _ => .no
theorem js_asg2 {t : TD2} (he : JE X ca W e g) (hg : JG2 X ca tg t) (hs : swapsWithSole [tg] e pos.line X.env = pure false := by rfl) (hw : swappedStores [tg] e X.env = pure none := by rfl) (h1 : (assignEach [tg] X.env).map (·.2) = [assign tg X.env] := by rfl) : JS X ca W (.Assign [tg] e pos) (sAsg2 g t) :=
  PS.imp (ps_asg he hg hs hw h1) fun D σ H ⟨ι, ρ, s, hr, hm, h⟩ => bindE famS hr hm h fun ι1 s1 d v H1 l1 hr1 hm1 rd h1 => by
    refine ⟨ι1, ρ, s1, d, hr1, hm1, rd, ?_⟩
    split at h1
    · rename_i ρ1 s2 e2
      rw [e2]
      exact fun ι' σ' H' l m r => h1 ι' σ' H' l m r
    · exact h1.elim
end
end J


set_option Elab.async false
set_option linter.all false
set_option maxRecDepth 100000
set_option maxHeartbeats 4000000
/-! J16: list(d), sorted of ints, extend. -/
namespace J
open PySem PySem.Spec L2
def keyDD : Key → D
  | .inl i => .int i
  | .inr x => .str x
def fKeys (s : S) (d : D) : Option D := (dicOf s d).map fun kvs => .lst (kvs.map fun kv => keyDD kv.1)
def insI (x : Int) : List Int → List Int
  | [] => [x]
  | y :: ys => if x ≤ y then x :: y :: ys else y :: insI x ys
def sortI (ns : List Int) : List Int := ns.foldr insI []
theorem insI_perm (x : Int) : ∀ ys, (insI x ys).Perm (x :: ys)
  | [] => List.Perm.refl _
  | y :: ys => by
    unfold insI
    split
    · exact List.Perm.refl _
    · exact ((insI_perm x ys).cons y).trans (List.Perm.swap x y ys)
theorem sortI_perm : ∀ ns, (sortI ns).Perm ns
  | [] => List.Perm.refl _
  | n :: ns => (insI_perm n (sortI ns)).trans ((sortI_perm ns).cons n)
theorem insI_up (x : Int) : ∀ {ys : List Int}, ys.Pairwise (· ≤ ·) → (insI x ys).Pairwise (· ≤ ·)
  | [], _ => List.pairwise_singleton _ _
  | y :: ys, h => by
    obtain ⟨h1, h2⟩ := List.pairwise_cons.mp h
    unfold insI
    split
    · rename_i q
      refine List.pairwise_cons.mpr ⟨fun z hz => ?_, h⟩
      rcases List.mem_cons.mp hz with rfl | hz
      · exact q
      · have := h1 z hz; omega
    · rename_i q
      refine List.pairwise_cons.mpr ⟨fun z hz => ?_, insI_up x h2⟩
      rcases List.mem_cons.mp ((insI_perm x ys).mem_iff.mp hz) with rfl | hz
      · omega
      · exact h1 z hz
theorem sortI_up : ∀ ns, (sortI ns).Pairwise (· ≤ ·)
  | [] => List.Pairwise.nil
  | n :: ns => insI_up n (sortI_up ns)
theorem sort_uniq : ∀ {xs ys : List Int}, xs.Perm ys → xs.Pairwise (· ≤ ·) → ys.Pairwise (· ≤ ·) → xs = ys
  | [], ys, p, _, _ => by rw [List.nil_perm.mp p]
  | x :: xs, [], p, _, _ => by have := p.length_eq; simp at this
  | x :: xs, y :: ys, p, hx, hy => by
    obtain ⟨x1, x2⟩ := List.pairwise_cons.mp hx
    obtain ⟨y1, y2⟩ := List.pairwise_cons.mp hy
    have e : x = y := by
      rcases List.mem_cons.mp (p.mem_iff.mp List.mem_cons_self) with e | m1
      · exact e
      · rcases List.mem_cons.mp (p.mem_iff.mpr List.mem_cons_self) with e | m2
        · exact e.symm
        · have a := y1 x m1
          have b := x1 y m2
          omega
    subst e
    rw [sort_uniq ((List.perm_cons x).mp p) x2 y2]
def fSortI (s : S) (x : D) : Option D := ((itemsL s x).bind intsD).bind fun ns => if decide (ns.length < 64) then some (.lst ((sortI ns).map D.int)) else none
section
variable {K : PySem.W.Frag} {ca : Ct} {ι : Wd} {H : Hp}
theorem reps_intsV : ∀ {ns : List Int} {vs : List V}, Reps K ι H (ns.map D.int) vs → vs = ns.map V.int
  | [], _, h => by cases h; rfl
  | n :: ns, _, h => by
    cases h with
    | cons r t => cases r; rw [reps_intsV t]; rfl
theorem reps_ints : ∀ ns : List Int, Reps K ι H (ns.map D.int) (ns.map V.int)
  | [] => .nil
  | n :: ns => .cons (.int n) (reps_ints ns)
theorem reps_keys : ∀ {fs : List (Key × D)} {ws : List (Key × V)}, RepF K ι H fs ws → Reps K ι H (fs.map fun kv => keyDD kv.1) (ws.map fun kv => kV kv.1)
  | _, _, .nil => .nil
  | (g, d) :: fs, (g', v) :: ws, .cons ⟨e, r⟩ t => by
    have e : g = g' := e
    subst e
    cases g with
    | inl i => exact .cons (.int i) (reps_keys t)
    | inr x => exact .cons (.str x) (reps_keys t)
end
section
variable {X : Cx} {ca : Ct} {W : WX} {e o : Expr} {es : List Expr} {pos apos : Pos} {g ge go : GE}
theorem cj_keys (hc : X.calm = true) : CallR X (.type "list") (rCJ X.K ca (f1 fKeys)) := by
  refine cj1 (call_listD hc) fun ι s H d v x Q m r hf q => ?_
  simp only [fKeys, Option.map_eq_some_iff] at hf
  obtain ⟨kvs, e1, rfl⟩ := hf
  obtain ⟨n, a, ws, rfl, rfl, hn, h1, h2⟩ := dicOf_at m r e1
  refine ⟨a, ws, rfl, .inl h1, fun p hp => ?_⟩
  obtain ⟨l, m'⟩ := m.new (o := .lst (ws.map fun kv => kV kv.1)) hp
  exact q _ _ _ l m' (.lst upd_same (m.ne hp) (reps_keys (h2.mono l)))
theorem cj_sortI : CallR X (.builtin "sorted") (rCJ X.K ca (f1 fSortI)) := by
  refine cj1 cr_sorted fun ι s H d v x Q m r hf q => ?_
  simp only [fSortI] at hf
  cases e1 : itemsL s d with
  | none => rw [e1] at hf; cases hf
  | some ds =>
    rw [e1] at hf
    simp only [Option.bind_some] at hf
    cases e2 : intsD ds with
    | none => rw [e2] at hf; cases hf
    | some ns =>
      rw [e2] at hf
      simp only [Option.bind_some] at hf
      split at hf
      · rename_i hl
        cases hf
        obtain ⟨a, vs, rfl, h1, h2⟩ := m.items r e1
        have e3 := intsD_eq e2
        subst e3
        have e4 := reps_intsV h2
        subst e4
        refine ⟨a, ns, rfl, h1, of_decide_eq_true hl, fun ns' p p1 p2 hp => ?_⟩
        have e5 : ns' = sortI ns := sort_uniq (p1.trans (sortI_perm ns).symm) p2 (sortI_up ns)
        subst e5
        obtain ⟨l, m'⟩ := m.new (o := .lst ((sortI ns).map V.int)) hp
        exact q _ _ _ l m' (.lst upd_same (m.ne hp) (reps_ints _))
      · cases hf
/-- o.extend(e), e a list that does not change -/
def gExt (go ge : GE) : GE := fun ρ s => (go ρ s).bind fun x s1 => match x with
  | .obj n => (match s1[n]? with
    | some (.lst _) => (ge ρ s1).bind fun y s2 => (match s2[n]?, y with
      | some (.lst ds), .lst zs => if fitL (ds.length + zs.length) then .ok .non (s2.set n (.lst (ds ++ zs))) else .no
      | _, _ => .no)
    | _ => .no)
  | _ => .no
theorem je_extend (ho : JE X ca W o go) (he : JE X ca W e ge) (hbase : attributeBase o "extend" X.env (eval o X.env) = eval o X.env := by rfl)
    (hfew : ((backTo pos (starEach [e] X.env)).all (fun x => !x.1) && (backToKw pos (keywordEach [] X.env)).all (fun x => x.1.isSome)
      && decide ([e].length + ([] : List Keyword).length + (if ([] : List Keyword).isEmpty then 0 else 1) < 30)) = true := by rfl)
    (hline : (apos.endLine == pos.line) = true := by rfl) (hs : starEach [e] X.env = (false, eval e X.env) :: starEach [] X.env := by rfl) (hplain : (backTo pos (starEach [] X.env)).any (·.1) = false := by rfl) :
    JE X ca W (.Call (.Attribute o "extend" apos) [e] [] pos) (gExt go ge) :=
  PE.imp (pe_bm F.plainAttrs_list F.slot_list_extend F.type_list_extend mt_extend ho (pa_cons he pa_nil hs) hbase hfew hline hs hplain) fun σ H Q ⟨ι, ρ, s, hr, hm, h⟩ => bindE famE hr hm h fun ι1 s1 x v H1 l1 hr1 hm1 rx h1 => by
    cases rx with
    | @obj a n hn =>
      simp only at h1
      split at h1
      · rename_i ds1 hd1
        obtain ⟨vs1, k1, k2⟩ := hm1.ob n a _ hn hd1
        refine ⟨.inl ⟨rfl, vs1, SqL.of k1⟩, bindE famE hr1 hm1 h1 fun ι2 s2 y u H2 l2 hr2 hm2 ry h2 => ?_⟩
        split at h2
        · rename_i ds zs hds
          split at h2
          · rename_i hc
            have hn2 : ι2.ι[n]? = some a := by
              obtain ⟨t, ht⟩ := l2.toKe.pre
              rw [← ht, List.getElem?_append_left (List.getElem?_eq_some_iff.mp hn).1]; exact hn
            obtain ⟨vs, k3, k4⟩ := hm2.ob n a _ hn2 hds
            cases ry with
            | lst q1 q2 q3 =>
              refine ⟨a, _, vs, _, rfl, rfl, k3, q1, by rw [← k4.length, ← q3.length]; exact fitL_le hc, ?_⟩
              obtain ⟨l, m'⟩ := hm2.write (o := .lst (vs ++ _)) (u := .lst (ds ++ zs)) hn2 trivial fun l => ⟨_, upd_same, (k4.mono l).append (q3.mono l)⟩
              exact h2 _ _ _ l m' .non
          · exact h2.elim
        · exact h2.elim
      · exact h1.elim
    | _ => exact h1.elim
end
end J


set_option Elab.async false
set_option linter.all false
set_option maxRecDepth 100000
set_option maxHeartbeats 4000000
/-! J17: the later words, applied; plain lemmas about the store. -/
namespace J
open PySem L2
@[simp] theorem ap_fld (c : Nat) (f : Str) (g : GE) (ρ : Env) (s : S) : gFld c f g ρ s = (g ρ s).bd (fun d s1 => R.ofO ((insOf c s1 d).bind fun fs => fs.lookup f) s1) .mk := id rfl
@[simp] theorem ap_sfld (c : Nat) (f : Str) (go gv : GE) (ρ : Env) (s : S) : sFldJ c f go gv ρ s = (gv ρ s).bd (fun x s1 => (go ρ s1).bd (fun d s2 => match d with
  | .obj n => (match insOf c s2 (.obj n) with
    | some fs => if fs.length < 1000 then .ok (.nx ρ) (s2.set n (.ins c (putD f x fs))) else .no
    | none => .no)
  | _ => .no) .mk) .mk := id rfl
@[simp] theorem ap_meth (c n : Nat) (m : Str) (F : List D → S → R D) (go : GE) (gr : GA) (ρ : Env) (s : S) : gMeth c n m F go gr ρ s = (go ρ s).bd (fun d s1 => match insOf c s1 d with
  | some fs => if (fs.lookup m).isNone then (gr ρ s1).bd (fun ds s2 => if ds.length = n then F (d :: ds) s2 else .no) .mk else .no
  | none => .no) .mk := id rfl
@[simp] theorem ap_make (c n : Nat) (F : List D → S → R D) (gr : GA) (ρ : Env) (s : S) : gMake c n F gr ρ s = (gr ρ s).bd (fun ds s1 => if ds.length = n then (noErr (F (.obj s1.length :: ds) (s1 ++ [.ins c []]))).bd (fun r s2 => match r with
  | .non => .ok (.obj s1.length) s2
  | _ => .no) .mk else .no) .mk := id rfl
@[simp] theorem noErr_k {α : Type} (a : α) (s : S) : noErr (R.ok a s) = .ok a s := id rfl
@[simp] theorem ap_lcO (own : List Nat) (gi : GA) (t : TD) (gt : GT) (ge : GE) (ρ : Env) (s : S) : gLcO own gi t gt ge ρ s = (gi ρ s).bd (fun ds s1 => if fitL ds.length then (lcLoop t gt ge (wipeD own ρ) ds s1).bd (fun ys s2 => .ok (.obj s2.length) (s2 ++ [.lst ys])) .mk else .no) .mk := id rfl
@[simp] theorem ap_dget2 (go gi gx : GE) (ρ : Env) (s : S) : gDGet2 go gi gx ρ s = (go ρ s).bd (fun d s1 => match dicOf s1 d with
  | some _ => (gi ρ s1).bd (fun y s2 => (gx ρ s2).bd (fun x s3 => (match dicOf s3 d, keyD y with
    | some kvs, some k => .ok ((valD kvs k).getD x) s3
    | _, _ => .no)) .mk) .mk
  | none => .no) .mk := id rfl
@[simp] theorem ap_kv0 (ρ : Env) (s : S) : gKV [] ρ s = .ok [] s := id rfl
@[simp] theorem ap_kv1 (k : Str) (g : GE) (r : List (Str × GE)) (ρ : Env) (s : S) : gKV ((k, g) :: r) ρ s = (g ρ s).bd (fun d s1 => (gKV r ρ s1).bd (fun ps s2 => .ok ((.inr k, d) :: ps) s2) .mk) .mk := id rfl
@[simp] theorem ap_disp (kgs : List (Str × GE)) (ρ : Env) (s : S) : gDisp kgs ρ s = if decide (kgs.length ≤ 15) then (gKV kgs ρ s).bd (fun ps s1 => .ok (.obj s1.length) (s1 ++ [.dic (mergeD ps)])) .mk else .no := id rfl
@[simp] theorem ap_ext (go ge : GE) (ρ : Env) (s : S) : gExt go ge ρ s = (go ρ s).bd (fun x s1 => match x with
  | .obj n => (match s1[n]? with
    | some (.lst _) => (ge ρ s1).bd (fun y s2 => (match s2[n]?, y with
      | some (.lst ds), .lst zs => if fitL (ds.length + zs.length) then .ok .non (s2.set n (.lst (ds ++ zs))) else .no
      | _, _ => .no)) .mk
    | _ => .no)
  | _ => .no) .mk := id rfl
@[simp] theorem ap_app (go ge : GE) (ρ : Env) (s : S) : gApp go ge ρ s = (go ρ s).bd (fun x s1 => match x with
  | .obj n => (match s1[n]? with
    | some (.lst _) => (ge ρ s1).bd (fun y s2 => (match s2[n]? with
      | some (.lst ds) => if fitL (ds.length + 1) then .ok .non (s2.set n (.lst (ds ++ [y]))) else .no
      | _ => .no)) .mk
    | _ => .no)
  | _ => .no) .mk := id rfl
@[simp] theorem ap_dput (gv go gi : GE) (ρ : Env) (s : S) : sDPutJ gv go gi ρ s = (gv ρ s).bd (fun x s1 => (go ρ s1).bd (fun d s2 => (gi ρ s2).bd (fun y s3 => match d with
  | .obj n => (match dicOf s3 (.obj n), keyD y with
    | some kvs, some k => if fitL (kvs.length + 1) then .ok (.nx ρ) (s3.set n (.dic (putKD kvs k x))) else .no
    | _, _ => .no)
  | _ => .no) .mk) .mk) .mk := id rfl
@[simp] theorem ap_d2Name (i : Nat) (d : D) (ρ : Env) (s : S) : d2Name i d ρ s = .ok (ρ.set i (some d)) s := id rfl
@[simp] theorem ap_d2Fld (c : Nat) (f : Str) (go : GE) (x : D) (ρ : Env) (s : S) : d2Fld c f go x ρ s = (go ρ s).bd (fun d s1 => match d with
  | .obj n => (match insOf c s1 (.obj n) with
    | some fs => if fs.length < 1000 then .ok ρ (s1.set n (.ins c (putD f x fs))) else .no
    | none => .no)
  | _ => .no) .mk := id rfl
@[simp] theorem ap_d2Put (go gi : GE) (x : D) (ρ : Env) (s : S) : d2Put go gi x ρ s = (go ρ s).bd (fun d s1 => (gi ρ s1).bd (fun y s2 => match d with
  | .obj n => (match dicOf s2 (.obj n), keyD y with
    | some kvs, some k => if fitL (kvs.length + 1) then .ok ρ (s2.set n (.dic (putKD kvs k x))) else .no
    | _, _ => .no)
  | _ => .no) .mk) .mk := id rfl
@[simp] theorem ap_ds2Nil (ρ : Env) (s : S) : ds2Nil [] ρ s = .ok ρ s := id rfl
@[simp] theorem ap_ds2Cons (t : TD2) (r : TDs2) (d : D) (ds : List D) (ρ : Env) (s : S) : ds2Cons t r (d :: ds) ρ s = (t d ρ s).bd (r ds) .mk := id rfl
@[simp] theorem ap_d2Tup (n : Nat) (t : TDs2) (ds : List D) (ρ : Env) (s : S) : d2Tup n t (.tup ds) ρ s = if ds.length = n then t ds ρ s else .no := id rfl
@[simp] theorem ap_asg2 (g : GE) (t : TD2) (ρ : Env) (s : S) : sAsg2 g t ρ s = (g ρ s).bd (fun d s1 => match t d ρ s1 with
  | .ok ρ1 s2 => .ok (.nx ρ1) s2
  | _ => .no) .mk := id rfl
@[simp] theorem ap_dict0 (ρ : Env) (s : S) : gDic0 ρ s = .ok (.obj s.length) (s ++ [.dic []]) := id rfl
@[simp] theorem ap_par3' (i j l : Nat) (gr : GA) (ρ : Env) (s : S) : sPar3 i j l gr ρ s = (gr ρ s).bd (fun ds s1 => match ds with | [d, e, f] => .ok (.nx (((ρ.set i (some d)).set j (some e)).set l (some f))) s1 | _ => .no) .mk := id rfl
@[simp] theorem ap_fDGet (s : S) (x y : D) : fDGet s x y = (dicOf s x).bind fun kvs => (keyD y).bind fun k => valD kvs k := id rfl
@[simp] theorem ap_keyI (i : Int) : keyD (.int i) = some (.inl i) := id rfl
@[simp] theorem ap_keyS (x : Str) : keyD (.str x) = some (.inr x) := id rfl
@[simp] theorem ap_idxO (s : S) (n : Nat) (i : Int) : fIdx s (.obj n) (.int i) = (itemsL s (.obj n)).bind fun ds => atI ds i := id rfl
@[simp] theorem ap_lenO (s : S) (n : Nat) : fLen s (.obj n) = (itemsL s (.obj n)).map fun ds => .int ds.length := id rfl
@[simp] theorem ap_slO (s : S) (n : Nat) (lo hi : Option Int) : fSl s (.obj n) lo hi = (itemsL s (.obj n)).map fun ds => .lst (cutD ds lo hi) := id rfl
@[simp] theorem ap_tupO (s : S) (n : Nat) : fTuple s (.obj n) = (itemsL s (.obj n)).map .tup := id rfl
theorem itemsO {s : S} {n : Nat} {ds : List D} (h : s[n]? = some (.lst ds)) : itemsL s (.obj n) = some ds := by simp [itemsL, h]
theorem insO {s : S} {n c : Nat} {fs : List (Str × D)} (h : s[n]? = some (.ins c fs)) : insOf c s (.obj n) = some fs := by simp [insOf, h]
theorem dicO {s : S} {n : Nat} {kvs : List (Key × D)} (h : s[n]? = some (.dic kvs)) : dicOf s (.obj n) = some kvs := by simp [dicOf, h]
theorem putO {s : S} {n k : Nat} {ds : List D} {x : D} (h : s[n]? = some (.lst ds)) (hk : k < ds.length) : putL s (.obj n) (.int k) x = some (s.set n (.lst (ds.set k x))) := by
  have : ixN ds.length (k : Int) = some k := by simp [ixN, hk]
  simp [putL, h, this]
theorem repM_at {ga gb : GE} {ρ : Env} {s s1 s2 : S} {ds : List D} {j : Int} (ha : ga ρ s = .ok (.lst ds) s1) (hb : gb ρ s1 = .ok (.int j) s2) (h1 : -(2 ^ 63) ≤ j) (h2 : j < 2 ^ 63) (h3 : ds.length * j.toNat ≤ 16777216) :
    gRepM ga gb ρ s = .ok (.obj s2.length) (s2 ++ [.lst (List.replicate j.toNat ds).flatten]) := by
  unfold gRepM
  rw [ha]
  simp only [R.bind_ok, hb]
  rw [if_pos (by rw [decide_eq_true h1, decide_eq_true h2]; exact decide_eq_true h3)]
theorem atI_map {α : Type} (f : α → D) (xs : List α) (k : Nat) (h : k < xs.length) : atI (xs.map f) (k : Int) = some (f xs[k]) := by
  rw [atI_nat _ _ (by simpa using h)]; simp
theorem atI_range (f : Nat → D) (n k : Nat) (h : k < n) : atI ((List.range n).map f) (k : Int) = some (f k) := by
  rw [atI_map _ _ _ (by simpa using h)]; simp
end J


set_option Elab.async false
set_option linter.all false
set_option maxRecDepth 100000
set_option maxHeartbeats 4000000
/-! J18: dicts whose keys are data (tuples of ints, None, bools, texts, tuples). -/
namespace J
open PySem PySem.Spec L2
def findN (kvs : List (D × D)) (k : NestedKey) : Option D := (kvs.find? fun p => decide (keyN p.1 = some k)).map (·.2)
def putN (kvs : List (D × D)) (kd : D) (k : NestedKey) (x : D) : List (D × D) := if (findN kvs k).isSome = true then kvs.map (fun p => if keyN p.1 = some k then (p.1, x) else p) else kvs ++ [(kd, x)]
/-- a key: a tuple -/
def keyT : D → Option NestedKey
  | .tup ds => (keyN (.tup ds)).bind fun k => if okKey k = true then some k else none
  | _ => none
def dcdOf (s : S) : D → Option (List (D × D))
  | .obj n => match s[n]? with
    | some (.dcd kvs) => some kvs
    | _ => none
  | _ => none
section
variable {K : PySem.W.Frag} {ca : Ct} {ι : Wd} {H : Hp} {s : S}
theorem keyT_tup {d : D} {k : NestedKey} (h : keyT d = some k) : (∃ ds, d = .tup ds) ∧ keyN d = some k ∧ okKey k = true := by
  cases d <;> simp only [keyT] at h <;> first | cases h | skip
  rename_i ds
  simp only [Option.bind_eq_some_iff] at h
  obtain ⟨k', h1, h2⟩ := h
  split at h2
  · rename_i ho
    cases h2
    exact ⟨⟨ds, rfl⟩, h1, ho⟩
  · cases h2
theorem dcdOf_at (m : Sim K ca ι s H) {d : D} {v : V} {kvs : List (D × D)} (r : Rep K ι H d v) (h : dcdOf s d = some kvs) : ∃ n a xs, d = .obj n ∧ v = .ref a ∧ ι.ι[n]? = some a ∧ H a = some (DN ca.P ca.w a xs) ∧ RepN K ι H kvs xs := by
  cases r with
  | @obj a n hn =>
    simp only [dcdOf] at h
    split at h
    · rename_i kvs' hs
      cases h
      obtain ⟨xs, h1, h2⟩ := m.ob n a _ hn hs
      exact ⟨n, a, xs, rfl, rfl, hn, h1, h2⟩
    · cases h
  | _ => cases h
theorem RepN.find {k : NestedKey} : ∀ {kvs : List (D × D)} {xs : List (NestedKey × Addr × Value)}, RepN K ι H kvs xs → (∀ d, findN kvs k = some d → ∃ b u v, atKey xs k = some (b, u) ∧ RelV v u ∧ Rep K ι H d v) ∧ (findN kvs k = none → atKey xs k = none)
  | _, _, .nil => ⟨fun _ h => (by cases h), fun _ => rfl⟩
  | (kd, d) :: kvs, (k', b, u) :: xs, .cons ⟨e, ho, r, v, rv, rd⟩ t => by
    obtain ⟨i1, i2⟩ := RepN.find (k := k) t
    have e : keyN kd = some k' := e
    unfold findN atKey at *
    rw [List.find?_cons, List.find?_cons]
    by_cases hk : k' = k
    · subst hk
      simp only [e, decide_true]
      exact ⟨fun d' hd => by cases hd; exact ⟨b, u, v, rfl, rv, rd⟩, fun z => by cases z⟩
    · have h2 : ¬ (keyN kd = some k) := fun z => by rw [e] at z; exact hk (Option.some.inj z)
      simp only [h2, hk, decide_false]
      exact ⟨i1, i2⟩
theorem RepN.isSome {k : NestedKey} {kvs : List (D × D)} {xs : List (NestedKey × Addr × Value)} (r : RepN K ι H kvs xs) : (atKey xs k).isSome = (findN kvs k).isSome := by
  obtain ⟨h1, h2⟩ := RepN.find (k := k) r
  cases e : findN kvs k with
  | none => rw [h2 e]; rfl
  | some d => obtain ⟨b, u, v, z, _⟩ := h1 d e; rw [z]; rfl
theorem RepN.len : ∀ {kvs : List (D × D)} {xs : List (NestedKey × Addr × Value)}, RepN K ι H kvs xs → kvs.length = xs.length
  | _, _, .nil => rfl
  | _ :: _, _ :: _, .cons _ t => congrArg (· + 1) (RepN.len t)
theorem RepN.mapPut {k : NestedKey} {x : D} {v : V} {u : Value} (rv : RelV v u) (rx : Rep K ι H x v) : ∀ {kvs : List (D × D)} {xs : List (NestedKey × Addr × Value)}, RepN K ι H kvs xs → RepN K ι H (kvs.map (fun p => if keyN p.1 = some k then (p.1, x) else p)) (xs.map (putAt k u))
  | _, _, .nil => .nil
  | (kd, d) :: kvs, (k', b, u') :: xs, .cons ⟨e, ho, r, v', rv', rd⟩ t => by
    have e : keyN kd = some k' := e
    refine .cons ?_ (RepN.mapPut rv rx t)
    simp only [putAt]
    by_cases hk : k' = k
    · subst hk
      rw [if_pos e, if_pos rfl]
      exact ⟨e, ho, r, v, rv, rx⟩
    · rw [if_neg (fun z => by rw [e] at z; exact hk (Option.some.inj z)), if_neg hk]
      exact ⟨e, ho, r, v', rv', rd⟩
theorem RepN.snoc {k : NestedKey} {kd x : D} {b : Addr} {v : V} {u : Value} (hk : keyN kd = some k) (ho : okKey k = true) (rk : Rep K ι H kd (.ref b)) (rv : RelV v u) (rx : Rep K ι H x v) : ∀ {kvs : List (D × D)} {xs : List (NestedKey × Addr × Value)}, RepN K ι H kvs xs → RepN K ι H (kvs ++ [(kd, x)]) (xs ++ [(k, b, u)])
  | _, _, .nil => .cons ⟨hk, ho, rk, v, rv, rx⟩ .nil
  | _ :: _, _ :: _, .cons q t => .cons q (RepN.snoc hk ho rk rv rx t)
theorem RepN.put {k : NestedKey} {kd x : D} {b : Addr} {v : V} {u : Value} (hk : keyN kd = some k) (ho : okKey k = true) (rk : Rep K ι H kd (.ref b)) (rv : RelV v u) (rx : Rep K ι H x v) {kvs : List (D × D)} {xs : List (NestedKey × Addr × Value)} (r : RepN K ι H kvs xs) : RepN K ι H (putN kvs kd k x) (storedH xs k b u) := by
  unfold putN storedH
  rw [r.isSome]
  split
  · exact RepN.mapPut rv rx r
  · exact RepN.snoc hk ho rk rv rx r
/-- all of one into another -/
def updN (as bs : List (D × D)) : List (D × D) := bs.foldl (fun acc p => match keyN p.1 with | some k => putN acc p.1 k p.2 | none => acc) as
theorem RepN.upd : ∀ {bs as : List (D × D)} {ys xs : List (NestedKey × Addr × Value)}, RepN K ι H as xs → RepN K ι H bs ys → RepN K ι H (updN as bs) (storedAllH xs ys)
  | _, _, _, _, r, .nil => r
  | (kd, d) :: bs, as, (k, b, u) :: ys, xs, r, .cons ⟨e, ho, rk, v, rv, rd⟩ t => by
    have e : keyN kd = some k := e
    have := RepN.upd (RepN.put e ho rk rv rd r) t
    unfold updN storedAllH at *
    rw [List.foldl_cons, List.foldl_cons]
    simp only [e]
    exact this
theorem RepN.mem {kvs : List (D × D)} {xs : List (NestedKey × Addr × Value)} (r : RepN K ι H kvs xs) : ∀ x ∈ xs, ∃ p, keyN p = some x.1 ∧ okKey x.1 = true ∧ Rep K ι H p (.ref x.2.1) := by
  induction r with
  | nil => intro x hx; cases hx
  | cons q t ih =>
    intro x hx
    rcases List.mem_cons.mp hx with rfl | hx
    · exact ⟨_, q.1, q.2.1, q.2.2.1⟩
    · exact ih x hx
end
section
variable {X : Cx} {pins : List (Addr × Obj)} {σ : L2.St} {H : Hp} {st : Shared} {ι : Wd}
mutual
theorem Rep.nis (I : Inv X pins σ H st) : ∀ {d : D} {v : V} {k : NestedKey} {u : Value}, Rep X.K ι H d v → keyN d = some k → RelV v u → NestedIs st.heap k u
  | _, _, _, _, .non, h, r => by cases h; cases (show _ = _ from r); exact .none
  | _, _, _, _, .bl b, h, r => by cases h; cases (show _ = _ from r); exact .bool rfl
  | _, _, _, _, .int i, h, r => by cases h; obtain ⟨t, rfl⟩ := r; exact .int i t
  | _, _, _, _, .str x, h, r => by cases h; obtain ⟨t, rfl⟩ := r; exact .text x t
  | _, _, _, _, .ty n, h, r => by simp [keyN] at h
  | _, _, _, _, .tup h1 h2, h, r => by
    simp only [keyN, Option.map_eq_some_iff] at h
    obtain ⟨ks, hk, rfl⟩ := h
    cases (show _ = _ from r)
    obtain ⟨its, rv, ⟨o, g1, g2, n, g3⟩, _⟩ := I.tuple h1.sq
    exact .tup g1 g2 g3 (by simpa using Reps.nis I h2 hk rv)
  | _, _, _, _, .lst _ _ _, h, r => by simp [keyN] at h
  | _, _, _, _, .frz _ _, h, r => by simp [keyN] at h
  | _, _, _, _, .frz2 _ _ _, h, r => by simp [keyN] at h
  | _, _, _, _, .obj _, h, r => by simp [keyN] at h
  | _, _, _, _, .raw _, h, r => by simp [keyN] at h
theorem Reps.nis (I : Inv X pins σ H st) : ∀ {ds : List D} {vs : List V} {ks : List NestedKey} {us : List Value}, Reps X.K ι H ds vs → keysN ds = some ks → Vals vs us → NestedAll st.heap ks us
  | _, _, _, _, .nil, h, .nil => by cases h; exact .nil
  | _, _, _, _, .cons r t, h, .cons q qs => by
    simp only [keysN] at h
    split at h
    · rename_i e1 e2
      cases h
      exact .cons (Rep.nis I r e1 q) (Reps.nis I t e2 qs)
    · cases h
end
theorem kis (I : Inv X pins σ H st) {d : D} {b : Addr} {k : NestedKey} (r : Rep X.K ι H d (.ref b)) (hk : keyN d = some k) (ho : okKey k = true) : (nestedKind X.prog X.w).is st.heap k b := ⟨Rep.nis I r hk rfl, of_decide_eq_true ho⟩
theorem dn_of (I : Inv X pins σ H st) {a : Addr} {xs : List (NestedKey × Addr × Value)} {kvs : List (D × D)} (hH : H a = some (DN X.prog X.w a xs)) (r : RepN X.K ι H kvs xs) : Heap.DictOfH (nestedKind X.prog X.w) st.heap a xs ∧ (a == sysModules) = false := by
  obtain ⟨o, es, ep, h1, h2, h3, h4, h5, h6⟩ := (I.hok a _ hH).1
  refine ⟨⟨o, es, ep, h1, h2, h3, h4, fun x hx => ?_, h5⟩, h6⟩
  obtain ⟨p, q1, q2, q3⟩ := r.mem x hx
  exact kis I q3 q1 q2
theorem dn_ok {P : Program} {w : World} {H' : Hp} {h' : Heap} {a : Addr} {xs : List (NestedKey × Addr × Value)} (d : Heap.DictOfH (nestedKind P w) h' a xs) (ns : (a == sysModules) = false) : ObjOk P w H' h' a (DN P w a xs) := by
  obtain ⟨o, es, ep, h1, h2, h3, h4, _, h5⟩ := d
  exact ⟨⟨o, es, ep, h1, h2, h3, h4, h5, ns⟩, ⟨o, h1⟩, fun g1 g2 ⟨o, es, ep, k1, k⟩ hk => ⟨o, es, ep, hk o k1, k⟩⟩
theorem dn_mut {P : Program} {w : World} {h' : Heap} {a : Addr} {xs : List (NestedKey × Addr × Value)} (d : Heap.DictOfH (nestedKind P w) h' a xs) (ns : (a == sysModules) = false) : MutJ (DN P w a xs) := DN_ne d.nodup ns
/-- it is changed -/
theorem dn_write (I : Inv X pins σ H st) {a : Addr} {xs ys : List (NestedKey × Addr × Value)} {h' : Heap} {tk : Nat} (hH : H a = some (DN X.prog X.w a xs)) (d : Heap.DictOfH (nestedKind X.prog X.w) h' a ys) (sb : Heap.SameBut a st.heap h') (ns : (a == sysModules) = false) : Inv X pins σ (upd H a (DN X.prog X.w a ys)) { st with heap := h', toks := tk } := by
  refine I.write (by rw [hH]; trivial) (.inl rfl) (fun b u hb hu => by rw [sb.2 b hb]; exact hu) ?_ (dn_ok d ns)
  obtain ⟨o, _, _, h1, _⟩ := d
  exact ⟨o, h1⟩
theorem nroom {A : Around} {j : Nat} (hr : Room j A) : (nestedKind X.prog X.w).room A.in1 := by
  show A.units + 1 + 8 < cLine
  have := hr.un
  omega
theorem nroom0 {A : Around} {j : Nat} (hr : Room j A) : (nestedKind X.prog X.w).room A := by
  show A.units + 8 < cLine
  have := hr.un
  omega
end
section
variable {X : Cx} {ca : Ct} {W : WX} {e o i value : Expr} {es : List Expr} {pos pos' apos cpos : Pos} {g go gi gv : GE}
/-- the same program, the same world -/
structure PwJ (X : Cx) (ca : Ct) : Prop where
  p : ca.P = X.prog
  w : ca.w = X.w
def fInN (s : S) (x y : D) : Option D := (dcdOf s y).bind fun kvs => (keyT x).map fun k => .bl (findN kvs k).isSome
def fNotInN (s : S) (x y : D) : Option D := (dcdOf s y).bind fun kvs => (keyT x).map fun k => .bl !(findN kvs k).isSome
def fGetN (s : S) (x y : D) : Option D := (dcdOf s x).bind fun kvs => (keyT y).bind fun k => findN kvs k
theorem Rep.tupRef {K : PySem.W.Frag} {ι : Wd} {H : Hp} {ds : List D} {v : V} (r : Rep K ι H (.tup ds) v) : ∃ b, v = .ref b := by
  cases r with
  | tup _ _ => exact ⟨_, rfl⟩
theorem oj_inN {j : Nat} (pw : PwJ X ca) (hr : Room j X.A) : OpR X (compareOp .In) (rJ X.K ca fInN) := by
  intro pins st σ H x y v u Q I rx ry ⟨ι, s, d, e, z, m, rd, re, hf, q⟩
  simp only [fInN, Option.bind_eq_some_iff, Option.map_eq_some_iff] at hf
  obtain ⟨kvs, hd, k, hk, rfl⟩ := hf
  obtain ⟨n, a, xs, rfl, rfl, hn, h1, h2⟩ := dcdOf_at m re hd
  obtain ⟨⟨ds, rfl⟩, k1, k2⟩ := keyT_tup hk
  obtain ⟨b, rfl⟩ := rd.tupRef
  cases (show _ = _ from rx)
  cases (show _ = _ from ry)
  rw [pw.p, pw.w] at h1
  obtain ⟨dd, ns⟩ := dn_of I h1 h2
  refine wpAny_in_heap (nroom hr) (kis I rd k1 k2) ns dd ⟨.bl (findN kvs k).isSome, H, I.kept fun _ _ h => h, by rw [h2.isSome]; rfl, q _ _ _ .refl m (.bl _)⟩
theorem oj_notinN {j : Nat} (pw : PwJ X ca) (hr : Room j X.A) : OpR X (compareOp .NotIn) (rJ X.K ca fNotInN) := by
  intro pins st σ H x y v u Q I rx ry ⟨ι, s, d, e, z, m, rd, re, hf, q⟩
  simp only [fNotInN, Option.bind_eq_some_iff, Option.map_eq_some_iff] at hf
  obtain ⟨kvs, hd, k, hk, rfl⟩ := hf
  obtain ⟨n, a, xs, rfl, rfl, hn, h1, h2⟩ := dcdOf_at m re hd
  obtain ⟨⟨ds, rfl⟩, k1, k2⟩ := keyT_tup hk
  obtain ⟨b, rfl⟩ := rd.tupRef
  cases (show _ = _ from rx)
  cases (show _ = _ from ry)
  rw [pw.p, pw.w] at h1
  obtain ⟨dd, ns⟩ := dn_of I h1 h2
  refine PyProof.Rows.wpAny_notIn_heap (nroom hr) (kis I rd k1 k2) ns dd ⟨.bl (!(findN kvs k).isSome), H, I.kept fun _ _ h => h, by rw [h2.isSome]; rfl, q _ _ _ .refl m (.bl _)⟩
theorem ij_getN {j : Nat} (pw : PwJ X ca) (hr : Room j X.A) : IxR X (rJ X.K ca fGetN) := by
  intro value slice pins st σ H x y v u Q I rx ry ⟨ι, s, d, e, z, m, rd, re, hf, q⟩ hs
  simp only [fGetN, Option.bind_eq_some_iff] at hf
  obtain ⟨kvs, hd, k, hk, hz⟩ := hf
  obtain ⟨n, a, xs, rfl, rfl, hn, h1, h2⟩ := dcdOf_at m rd hd
  obtain ⟨⟨ds, rfl⟩, k1, k2⟩ := keyT_tup hk
  obtain ⟨b, rfl⟩ := re.tupRef
  cases (show _ = _ from rx)
  cases (show _ = _ from ry)
  rw [pw.p, pw.w] at h1
  obtain ⟨dd, ns⟩ := dn_of I h1 h2
  obtain ⟨b', u', v', z1, z2, z3⟩ := (h2.find (k := k)).1 z hz
  refine W.kba_turn (value' := .Name "x" ⟨0, 0, 0, 0⟩) (fun _ => rfl) ?_
  refine PyProof.Rows.subscriptTail_builtin (T := "dict") (id := "dict.__getitem__") dd.typeIs F.slot_dict_getitem.lookup ?_ hs
  exact wpAny_getItem_heap (nroom hr) (kis I re k1 k2) dd z1 ⟨v', H, I.kept fun _ _ h => h, z2, q _ _ _ .refl m z3⟩
theorem je_getN {j : Nat} (pw : PwJ X ca) (hr : Room j X.A) (ho : JE X ca W o go) (hi : JE X ca W i gi) (hs : PlainIx i := by exact fun _ _ => rfl) : JE X ca W (.Subscript o i pos) (gOp2 fGetN go gi) := PE.imp (pe_ix (ij_getN pw hr) ho hi hs) fun _ _ _ h => tG_op2 h
/-! ### stores -/
def rPutN (X : Cx) : V → V → V → Hp → (Hp → Prop) → Prop := fun o i v H Q => ∃ (ι : Wd) (a b : Addr) (xs : List (NestedKey × Addr × Value)) (kvs : List (D × D)) (kd : D) (k : NestedKey), o = .ref a ∧ i = .ref b ∧ H a = some (DN X.prog X.w a xs) ∧ RepN X.K ι H kvs xs ∧ Rep X.K ι H kd (.ref b) ∧ keyN kd = some k ∧ okKey k = true ∧ xs.length ≤ sizeLine ∧
  ∀ u, RelV v u → MutJ (DN X.prog X.w a (storedH xs k b u)) → Q (upd H a (DN X.prog X.w a (storedH xs k b u)))
theorem set_dN {j : Nat} (hr : Room j X.A) : PSet X (rPutN X) := by
  intro pins s σ H o i v ov iv u Q I ro ri rv ⟨ι, a, b, xs, kvs, kd, k, e1, e2, h1, h2, h3, h4, h5, h6, q⟩
  subst e1 e2
  cases (show _ = _ from ro)
  cases (show _ = _ from ri)
  obtain ⟨dd, ns⟩ := dn_of I h1 h2
  refine wpAny_setItem_heap (nroom hr) (kis I h3 h4 h5) dd (fun h' d' sb => ?_) h6
  exact ⟨_, dn_write I h1 d' sb ns, q u rv (dn_mut d' ns)⟩
def sDPutN (gv go gi : GE) : GS := fun ρ s => (gv ρ s).bind fun x s1 => (go ρ s1).bind fun d s2 => (gi ρ s2).bind fun y s3 => match d with
  | .obj n => (match dcdOf s3 (.obj n), keyT y with
    | some kvs, some k => if fitL (kvs.length + 1) then .ok (.nx ρ) (s3.set n (.dcd (putN kvs y k x))) else .no
    | _, _ => .no)
  | _ => .no
theorem js_dputN {j : Nat} (pw : PwJ X ca) (hr : Room j X.A) (hv : JE X ca W value gv) (ho : JE X ca W o go) (hi : JE X ca W i gi)
    (ha : ∀ v, assign (.Subscript o i pos') X.env v = (do
      let ov ← holding [v] (eval o X.env)
      let iv ← holding [v, ov] (eval i X.env)
      standAt pos'
      holding [v, ov, iv] (setItem ov iv v)
      release [v, ov, iv] []) := by intro _; rfl) (hs : swapsWithSole [.Subscript o i pos'] value pos.line X.env = pure false := by rfl) (hw : swappedStores [.Subscript o i pos'] value X.env = pure none := by rfl)
    (h1 : (assignEach [.Subscript o i pos'] X.env).map (·.2) = [assign (.Subscript o i pos') X.env] := by rfl) : JS X ca W (.Assign [.Subscript o i pos'] value pos) (sDPutN gv go gi) := by
  refine PS.imp (ps_asg hv (pg_sub ho hi (set_dN hr) ha) hs hw h1) fun D σ H ⟨ι, ρ, s, hrs, hm, h⟩ => bindE famS hrs hm h fun ι1 s1 x v H1 l1 hr1 hm1 rx h1 => bindE famS hr1 hm1 h1 fun ι2 s2 d ov H2 l2 hr2 hm2 ro h2 => bindE famS hr2 hm2 h2 fun ι3 s3 y iv H3 l3 hr3 hm3 ri h3 => ?_
  split at h3
  · rename_i n
    split at h3
    · rename_i kvs k e1 e2
      split at h3
      · rename_i hl
        obtain ⟨n', a, xs, e, rfl, hn, h4, h5⟩ := dcdOf_at hm3 (ro.mono l3) e1
        cases e
        rw [pw.p, pw.w] at h4
        obtain ⟨⟨ds, rfl⟩, k1, k2⟩ := keyT_tup e2
        obtain ⟨b, rfl⟩ := ri.tupRef
        have hl := fitL_le hl
        refine ⟨ι3, a, b, xs, kvs, _, k, rfl, rfl, h4, h5, ri, k1, k2, by rw [← h5.len]; omega, fun u rv mu => ?_⟩
        obtain ⟨l, m'⟩ := hm3.write (o := DN X.prog X.w a (storedH xs k b u)) (u := .dcd (putN kvs _ k x)) hn mu fun l => ⟨_, by rw [pw.p, pw.w]; exact upd_same, (RepN.monoK l.toKe h5).put k1 k2 (ri.mono l) rv (((rx.mono l2).mono l3).mono l)⟩
        exact h3 _ _ _ l m' (hr3.mono l)
      · exact h3.elim
    · exact h3.elim
  · exact h3.elim
/-! ### new ones -/
def gDicN : GE := fun _ s => .ok (.obj s.length) (s ++ [.dcd []])
theorem dK_dn (I : Inv X pins σ H st) {p : Addr} (h : H p = some (.dK [])) : Inv X pins σ (upd H p (DN X.prog X.w p [])) st ∧ MutJ (DN X.prog X.w p []) := by
  obtain ⟨_, ns, vs, kv, dd⟩ := I.hok p _ h
  cases kv
  obtain ⟨es, ep, ⟨o, h1, h2, h3⟩, hz, _⟩ := dd.raw
  have d0 : Heap.DictOfH (nestedKind X.prog X.w) st.heap p [] := ⟨o, es, ep, h1, h2, h3, by simpa using hz, fun x hx => (by cases hx), List.nodup_nil⟩
  refine ⟨?_, dn_mut d0 ns⟩
  exact I.write (h' := st.heap) (by rw [h]; trivial) (.inl rfl) (fun b u _ hu => hu) ⟨o, h1⟩ (dn_ok d0 ns)
theorem je_dicN (pw : PwJ X ca) : JE X ca W (.Dict [] [] pos) gDicN := by
  refine ⟨fun pins s σ H Q I h => ?_⟩
  refine wpAny_mono (pe_dnewK.run pins s σ H (fun v H' => ∃ p, H p = none ∧ v = .ref p ∧ H' = upd H p (.dK [])) I fun p hp => ⟨p, hp, rfl, rfl⟩) (fun u s' ⟨v, H', I', rv, p, hp, ev, eH⟩ => ?_) (fun _ _ z => z)
  subst ev eH
  obtain ⟨I2, mu⟩ := dK_dn I' (p := p) upd_same
  rw [upd_upd] at I2
  obtain ⟨ι, ρ, st, hr, hm, h⟩ := h
  obtain ⟨l, m⟩ := hm.alloc (o := DN X.prog X.w p []) (u := .dcd []) hp mu fun l => ⟨[], by rw [pw.p, pw.w]; exact upd_same, .nil⟩
  exact ⟨.ref p, _, I2, rv, h _ _ _ l m (.obj (by simp [← hm.len]))⟩
end
end J


set_option Elab.async false
set_option linter.all false
set_option maxRecDepth 100000
set_option maxHeartbeats 4000000
/-! J19: dicts keyed by data: update, get, list(d), {k: v}. -/
namespace J
open PySem PySem.Spec L2
/-! ### hashes of keys without texts -/
mutual
def hashK : NestedKey → Option Int
  | .num n => some (hashInt n)
  | .tup ks => (hashesK ks).map fun hs => reduceHash (Builtin.Tuple.tupleHashOf hs)
  | .none => none
  | .text _ => none
def hashesK : List NestedKey → Option (List Int)
  | [] => some []
  | k :: ks => match hashK k, hashesK ks with
    | some h, some hs => some (h :: hs)
    | _, _ => none
end
mutual
theorem hashK_ok (w : World) : ∀ {k : NestedKey} {h : Int}, hashK k = some h → NestedKey.hash w k = h
  | .num n, h, e => by cases e; rw [NestedKey.hash]
  | .tup ks, h, e => by
    simp only [hashK, Option.map_eq_some_iff] at e
    obtain ⟨hs, e1, rfl⟩ := e
    rw [NestedKey.hash, hashesK_ok w e1]
  | .none, h, e => by cases e
  | .text _, h, e => by cases e
theorem hashesK_ok (w : World) : ∀ {ks : List NestedKey} {hs : List Int}, hashesK ks = some hs → NestedKey.hashes w ks = hs
  | [], hs, e => by cases e; rw [NestedKey.hashes]
  | k :: ks, hs, e => by
    simp only [hashesK] at e
    split at e
    · rename_i h hs' e1 e2
      cases e
      rw [NestedKey.hashes, hashK_ok w e1, hashesK_ok w e2]
    · cases e
end
/-- the hashes of a dict's keys -/
def hashesD : List (D × D) → Option (List Int)
  | [] => some []
  | p :: ps => match (keyN p.1).bind hashK, hashesD ps with
    | some h, some hs => some (h :: hs)
    | _, _ => none
def hashOkB (kvs : List (D × D)) : Bool := match hashesD kvs with | some hs => decide hs.Nodup | none => false
theorem hashesD_ok {K : PySem.W.Frag} {ι : Wd} {H : Hp} (P : Program) (w : World) : ∀ {kvs : List (D × D)} {xs : List (NestedKey × Addr × Value)} {hs : List Int}, RepN K ι H kvs xs → hashesD kvs = some hs → (xs.map fun x => (nestedKind P w).hash x.1) = hs
  | _, _, _, .nil, e => by cases e; rfl
  | (kd, d) :: kvs, (k, b, u) :: xs, hs, .cons ⟨e1, _⟩ t, e => by
    have e1 : keyN kd = some k := e1
    simp only [hashesD, e1, Option.bind_some] at e
    split at e
    · rename_i h hs' q1 q2
      cases e
      rw [List.map_cons, hashesD_ok P w t q2]
      show NestedKey.hash w k :: hs' = _
      rw [hashK_ok w q1]
    · cases e
theorem valueAt_pairsH (xs : List (NestedKey × Addr × Value)) (k : NestedKey) : valueAt (pairsH xs) k = (atKey xs k).map (·.2) := by
  unfold valueAt pairsH atKey
  induction xs with
  | nil => rfl
  | cons x xs ih =>
    rw [List.map_cons, List.find?_cons, List.find?_cons]
    by_cases hk : x.1 = k
    · simp [hk]
    · simpa [hk] using ih
section
variable {X : Cx} {ca : Ct} {W : WX} {e o i f value : Expr} {es : List Expr} {pos pos' apos cpos : Pos} {g go gi gx ge gv : GE}
/-! ### methods -/
theorem pe_dnm {name : Str} {id : String} {to : TE} {t : TA} {r : Addr → List (NestedKey × Addr × Value) → List V → Hp → VK → Prop} (sl : Slot "dict" name id) (ty : typeOf (Value.builtin id) = pure (.type "method_descriptor"))
    (hc : ∀ (pins : List (Addr × Obj)) (s : Shared) (σ : L2.St) (H : Hp) (a : Addr) (xs : List (NestedKey × Addr × Value)) (vs : List V) (us : List Value) (Q : VK), Inv X pins σ H s → Vals vs us → r a xs vs H Q → wpAny (model X.prog X.w) X.A (call (.builtin id) (.ref a :: us)) (EP X pins σ Q) X.xe s)
    (ho : PE X o to) (ha : PA X (e :: es) t) (hbase : attributeBase o name X.env (eval o X.env) = eval o X.env := by rfl)
    (hfew : ((backTo cpos (starEach (e :: es) X.env)).all (fun x => !x.1) && (backToKw cpos (keywordEach [] X.env)).all (fun x => x.1.isSome) && decide ((e :: es).length + ([] : List Keyword).length + (if ([] : List Keyword).isEmpty then 0 else 1) < 30)) = true := by rfl)
    (hline : (apos.endLine == cpos.line) = true := by rfl) (hs : starEach (e :: es) X.env = (false, eval e X.env) :: starEach es X.env := by rfl) (hpl : (backTo cpos (starEach es X.env)).any (·.1) = false := by rfl) :
    PE X (.Call (.Attribute o name apos) (e :: es) [] cpos) (fun σ H Q => to σ H fun x H1 => ∃ a xs, x = .ref a ∧ H1 a = some (DN X.prog X.w a xs) ∧ t σ H1 fun vs H2 => r a xs vs H2 Q) := by
  refine ⟨fun pins s σ H Q I h => ?_⟩
  refine wpAny_Call_method_late hbase hfew hline rfl (thn (ho.run pins s σ H _ I h) fun u s1 ⟨x, H1, I1, rx, a, xs, ex, hH, q⟩ => ?_)
  subst ex
  cases (show _ = _ from rx)
  obtain ⟨ob, _, _, h1, h2, _⟩ := (I1.hok a _ hH).1
  refine ⟨"dict", id, F.plainAttrs_dict, sl, ty, ⟨ob, h1, h2.1⟩, fun b eb => ?_, ?_⟩
  · cases eb; exact ⟨ob, h1, h2.2.1⟩
  · have hA := ha.run cpos pins s1 σ H1 _ I1 q
    rw [hs] at hA ⊢
    refine Calls.callWith_builtin (by show (false || (backTo cpos (starEach es X.env)).any (·.1)) = false; rw [hpl] <;> rfl) (Calls.evalArgs_plain ?_)
    exact thn hA fun us s2 ⟨vs, H2, I2, rv, q2⟩ => hc pins s2 σ H2 a xs vs us Q I2 rv q2
/-- d.get(k, x) -/
def gGet2N (go gi gx : GE) : GE := fun ρ s => (go ρ s).bind fun d s1 => match dcdOf s1 d with
  | some _ => (gi ρ s1).bind fun y s2 => (gx ρ s2).bind fun x s3 => (match dcdOf s3 d, keyT y with
    | some kvs, some k => .ok ((findN kvs k).getD x) s3
    | _, _ => .no)
  | none => .no
def rGet2N (X : Cx) : Addr → List (NestedKey × Addr × Value) → List V → Hp → VK → Prop := fun a _ vs H Q => ∃ (ι : Wd) (b : Addr) (v : V) (xs : List (NestedKey × Addr × Value)) (kvs : List (D × D)) (kd : D) (k : NestedKey), vs = [.ref b, v] ∧ H a = some (DN X.prog X.w a xs) ∧ RepN X.K ι H kvs xs ∧ Rep X.K ι H kd (.ref b) ∧ keyN kd = some k ∧ okKey k = true ∧
  (∀ d, findN kvs k = some d → ∀ v', Rep X.K ι H d v' → Q v' H) ∧ (findN kvs k = none → Q v H)
theorem je_get2N {j : Nat} (pw : PwJ X ca) (hr : Room j X.A) (ho : JE X ca W o go) (hi : JE X ca W i gi) (hx : JE X ca W f gx) (hbase : attributeBase o "get" X.env (eval o X.env) = eval o X.env := by rfl)
    (hfew : ((backTo cpos (starEach [i, f] X.env)).all (fun x => !x.1) && (backToKw cpos (keywordEach [] X.env)).all (fun x => x.1.isSome) && decide ([i, f].length + ([] : List Keyword).length + (if ([] : List Keyword).isEmpty then 0 else 1) < 30)) = true := by rfl)
    (hline : (apos.endLine == cpos.line) = true := by rfl) (hs : starEach [i, f] X.env = (false, eval i X.env) :: starEach [f] X.env := by rfl) (hs2 : starEach [f] X.env = (false, eval f X.env) :: starEach [] X.env := by rfl) (hpl : (backTo cpos (starEach [f] X.env)).any (·.1) = false := by rfl) :
    JE X ca W (.Call (.Attribute o "get" apos) [i, f] [] cpos) (gGet2N go gi gx) := by
  refine PE.imp (pe_dnm F.slot_dict_get F.type_dict_get (r := rGet2N X) (fun pins st σ H a xs0 vs us Q I rv ⟨ι, b, v, xs, kvs, kd, k, ev, h1, h2, h3, h4, h5, q1, q2⟩ => ?_) ho (pa_cons hi (pa_cons hx pa_nil hs2) hs) hbase hfew hline hs hpl) fun σ H Q ⟨ι, ρ, s, hrs, hm, h⟩ => bindE famE hrs hm h fun ι1 s1 d v H1 l1 hr1 hm1 rd h1 => ?_
  · subst ev
    cases rv with
    | cons r1 rv =>
      cases rv with
      | cons r2 rv =>
        cases rv
        cases (show _ = _ from r1)
        obtain ⟨dd, ns⟩ := dn_of I h1 h2
        refine getOr_keyed (nroom hr) (kis I h3 h4 h5) ns ⟨xs, dd, rfl⟩ ?_
        have ev := valueAt_pairsH xs k
        rw [ev]
        obtain ⟨f1, f2⟩ := h2.find (k := k)
        cases e : findN kvs k with
        | none =>
          rw [f2 e]
          exact ⟨v, H, I.kept fun _ _ h => h, r2, q2 e⟩
        | some d =>
          obtain ⟨b', u', v', z1, z2, z3⟩ := f1 d e
          rw [z1]
          exact ⟨v', H, I.kept fun _ _ h => h, z2, q1 d e v' z3⟩
  · split at h1
    · rename_i kvs0 e0
      obtain ⟨n0, a, xs0, rfl, rfl, hn0, h2, _⟩ := dcdOf_at hm1 rd e0
      rw [pw.p, pw.w] at h2
      refine ⟨a, xs0, rfl, h2, bindE famE hr1 hm1 h1 fun ι2 s2 y u H2 l2 hr2 hm2 ry h3 => bindE famE hr2 hm2 h3 fun ι3 s3 x v H3 l3 hr3 hm3 rx h4 => ?_⟩
      split at h4
      · rename_i kvs k e1 e2
        obtain ⟨n', a', xs, ee, ea, hn', h5, h6⟩ := dcdOf_at hm3 ((rd.mono l2).mono l3) e1
        cases ee
        cases ea
        rw [pw.p, pw.w] at h5
        obtain ⟨⟨ds, rfl⟩, k1, k2⟩ := keyT_tup e2
        obtain ⟨b, rfl⟩ := (ry.mono l3).tupRef
        refine ⟨ι3, b, v, xs, kvs, _, k, rfl, h5, h6, ry.mono l3, k1, k2, fun d hd v' rv' => ?_, fun hn => ?_⟩
        · rw [hd] at h4; exact h4 _ _ _ .refl hm3 rv'
        · rw [hn] at h4; exact h4 _ _ _ .refl hm3 rx
      · exact h4.elim
    · exact h1.elim
/-- d.update(d2) -/
def gUpdN (go ge : GE) : GE := fun ρ s => (go ρ s).bind fun d s1 => match dcdOf s1 d with
  | some _ => (ge ρ s1).bind fun y s2 => (match d, y, dcdOf s2 d, dcdOf s2 y with
    | .obj n, .obj m, some as, some bs => if decide (n ≠ m) && (!as.isEmpty || hashOkB bs) && fitL (as.length + bs.length) then .ok .non (s2.set n (.dcd (updN as bs))) else .no
    | _, _, _, _ => .no)
  | none => .no
def rUpdN (X : Cx) : Addr → List (NestedKey × Addr × Value) → List V → Hp → VK → Prop := fun a _ vs H Q => ∃ (ι : Wd) (b : Addr) (xs ys : List (NestedKey × Addr × Value)) (as bs : List (D × D)), vs = [.ref b] ∧ a ≠ b ∧ H a = some (DN X.prog X.w a xs) ∧ H b = some (DN X.prog X.w b ys) ∧ RepN X.K ι H as xs ∧ RepN X.K ι H bs ys ∧
  (as ≠ [] ∨ hashOkB bs = true) ∧ as.length + bs.length ≤ sizeLine ∧ (MutJ (DN X.prog X.w a (storedAllH xs ys)) → Q .non (upd H a (DN X.prog X.w a (storedAllH xs ys))))
theorem je_updN {j : Nat} (pw : PwJ X ca) (hr : Room j X.A) (ho : JE X ca W o go) (he : JE X ca W e ge) (hbase : attributeBase o "update" X.env (eval o X.env) = eval o X.env := by rfl)
    (hfew : ((backTo cpos (starEach [e] X.env)).all (fun x => !x.1) && (backToKw cpos (keywordEach [] X.env)).all (fun x => x.1.isSome) && decide ([e].length + ([] : List Keyword).length + (if ([] : List Keyword).isEmpty then 0 else 1) < 30)) = true := by rfl)
    (hline : (apos.endLine == cpos.line) = true := by rfl) (hs : starEach [e] X.env = (false, eval e X.env) :: starEach [] X.env := by rfl) (hpl : (backTo cpos (starEach [] X.env)).any (·.1) = false := by rfl) :
    JE X ca W (.Call (.Attribute o "update" apos) [e] [] cpos) (gUpdN go ge) := by
  refine PE.imp (pe_dnm F.slot_dict_update F.type_dict_update (r := rUpdN X) (fun pins st σ H a xs0 vs us Q I rv ⟨ι, b, xs, ys, as, bs, ev, hab, h1, h2, h3, h4, hc, hl, q⟩ => ?_) ho (pa_cons he pa_nil hs) hbase hfew hline hs hpl) fun σ H Q ⟨ι, ρ, s, hrs, hm, h⟩ => bindE famE hrs hm h fun ι1 s1 d v H1 l1 hr1 hm1 rd h1 => ?_
  · subst ev
    rw [Vals.ref1 rv]
    obtain ⟨d1, n1⟩ := dn_of I h1 h3
    obtain ⟨d2, n2⟩ := dn_of I h2 h4
    have lx := h3.len
    have ly := h4.len
    refine call_update_dictH (nroom hr) hab n2 d1 d2 (hc.imp (fun z e => z (by rw [e] at lx; exact List.length_eq_zero_iff.mp (by simpa using lx))) fun z => ⟨keyed_apart nestedKind_stays d2, ?_⟩) (by omega) fun h' k1 k2 sb => ?_
    · unfold hashOkB at z
      split at z
      · rename_i hs' e'
        rw [hashesD_ok X.prog X.w h4 e']
        exact of_decide_eq_true z
      · cases z
    · exact ⟨.non, _, dn_write I h1 k1 sb n1, rfl, q (dn_mut k1 n1)⟩
  · split at h1
    · rename_i as0 e0
      obtain ⟨n0, a, xs0, rfl, rfl, hn0, h2, _⟩ := dcdOf_at hm1 rd e0
      rw [pw.p, pw.w] at h2
      refine ⟨a, xs0, rfl, h2, bindE famE hr1 hm1 h1 fun ι2 s2 y u H2 l2 hr2 hm2 ry h3 => ?_⟩
      split at h3
      · rename_i n m as bs ed e1 e2
        cases ed
        split at h3
        · rename_i hc
          simp only [Bool.and_eq_true, Bool.or_eq_true, decide_eq_true_eq, Bool.not_eq_true'] at hc
          obtain ⟨⟨c1, c2⟩, c3⟩ := hc
          obtain ⟨n', a', xs, ee, ea, hn', h5, h6⟩ := dcdOf_at hm2 (rd.mono l2) e1
          cases ee
          cases ea
          obtain ⟨m', b, ys, ee, rfl, hm', h7, h8⟩ := dcdOf_at hm2 ry e2
          cases ee
          rw [pw.p, pw.w] at h5 h7
          have hab : a ≠ b := fun z => c1 (hm2.idx hn' (z ▸ hm'))
          refine ⟨ι2, b, xs, ys, as, bs, rfl, hab, h5, h7, h6, h8, c2.imp (fun z e => by rw [e] at z; cases z) id, fitL_le c3, fun mu => ?_⟩
          obtain ⟨l, mm⟩ := hm2.write (o := DN X.prog X.w a (storedAllH xs ys)) (u := .dcd (updN as bs)) hn' mu fun l => ⟨_, by rw [pw.p, pw.w]; exact upd_same, (RepN.monoK l.toKe h6).upd (RepN.monoK l.toKe h8)⟩
          exact h3 _ _ _ l mm .non
        · exact h3.elim
      · exact h3.elim
    · exact h1.elim
/-! ### list(d) -/
def fKeysN (s : S) (d : D) : Option D := (dcdOf s d).bind fun kvs => if fitL kvs.length then some (.lst (kvs.map (·.1))) else none
theorem RepN.keys {K : PySem.W.Frag} {ι : Wd} {H : Hp} : ∀ {kvs : List (D × D)} {xs : List (NestedKey × Addr × Value)}, RepN K ι H kvs xs → Reps K ι H (kvs.map (·.1)) (xs.map fun x => V.ref x.2.1)
  | _, _, .nil => .nil
  | _ :: _, _ :: _, .cons q t => .cons q.2.2.1 (RepN.keys t)
def rKeysN (X : Cx) : List V → Hp → VK → Prop := fun vs H Q => ∃ (ι : Wd) (a : Addr) (xs : List (NestedKey × Addr × Value)) (kvs : List (D × D)), vs = [.ref a] ∧ H a = some (DN X.prog X.w a xs) ∧ RepN X.K ι H kvs xs ∧ xs.length ≤ sizeLine ∧ ∀ p, H p = none → Q (.ref p) (upd H p (.lst (xs.map fun x => V.ref x.2.1)))
theorem vals_refs (f : NestedKey × Addr × Value → Addr) : ∀ xs : List (NestedKey × Addr × Value), Vals (xs.map fun x => V.ref (f x)) (xs.map fun x => Value.ref (f x))
  | [] => .nil
  | x :: xs => .cons rfl (vals_refs f xs)
theorem cr_keysN (hc : X.calm = true) : CallR X (.type "list") (rKeysN X) := by
  intro pins st σ H vs us Q I r ⟨ι, a, xs, kvs, ev, h1, h2, hl, q⟩
  subst ev
  rw [Vals.ref1 r]
  obtain ⟨dd, ns⟩ := dn_of I h1 h2
  obtain ⟨es, ep, hraw, hz, hk⟩ := dd.raw
  refine W.kdl_call (KdlSrc.rawDict ns) (I.ok.hd hc) hraw (by omega) fun h' tk acc c kp hl' hit => ?_
  have fr : H st.heap.objs.size = none := I.hok.fresh (Nat.le_refl _)
  have ea : acc.toList = xs.map fun x => Value.ref x.2.1 := by
    refine List.ext_getElem? fun i => ?_
    rw [Array.getElem?_toList, List.getElem?_map]
    by_cases hi : i < es.size
    · have hia : i < acc.size := by rw [hit.1]; exact hi
      obtain ⟨_, e2⟩ := hit.2 i _ (Array.getElem?_eq_getElem hia)
      obtain ⟨y, y1, y2, _, _⟩ := hk i hi
      rw [Array.getElem?_eq_getElem hia, e2, y1, y2]; rfl
    · rw [Array.getElem?_eq_none (by rw [hit.1]; omega), List.getElem?_eq_none (by omega)]; rfl
  refine ⟨.ref st.heap.objs.size, upd H st.heap.objs.size (.lst (xs.map fun x => V.ref x.2.1)), I.laid kp (Nat.le_refl _) ⟨by rw [List.length_map]; exact hl, acc.toList, c, by rw [ea]; exact vals_refs _ xs, hl'⟩, rfl, q _ fr⟩
theorem cj_keysN (pw : PwJ X ca) (hc : X.calm = true) : CallR X (.type "list") (rCJ X.K ca (f1 fKeysN)) := by
  refine cj1 (cr_keysN hc) fun ι s H d v x Q m r hf q => ?_
  simp only [fKeysN, Option.bind_eq_some_iff] at hf
  obtain ⟨kvs, hd, hf⟩ := hf
  split at hf
  · rename_i hl
    cases hf
    obtain ⟨n, a, xs, rfl, rfl, hn, h1, h2⟩ := dcdOf_at m r hd
    rw [pw.p, pw.w] at h1
    refine ⟨ι, a, xs, kvs, rfl, h1, h2, by rw [← h2.len]; exact fitL_le hl, fun p hp => ?_⟩
    obtain ⟨l, m'⟩ := m.new (o := .lst (xs.map fun x => V.ref x.2.1)) hp
    exact q _ _ _ l m' (.lst upd_same (m.ne hp) (h2.keys.mono l))
  · cases hf
end
end J


set_option Elab.async false
set_option linter.all false
set_option maxRecDepth 100000
set_option maxHeartbeats 4000000
/-! J20: sorted of tuples of whole numbers, texts and tuples. -/
namespace J
open PySem PySem.Spec L2
/-! ### keys in order -/
mutual
def okC : NestedKey → NestedKey → Bool
  | .num _, .num _ => true
  | .text _, .text _ => true
  | .tup a, .tup b => okCs a b
  | _, _ => false
def okCs : List NestedKey → List NestedKey → Bool
  | a :: as, b :: bs => okC a b && okCs as bs
  | _, _ => true
end
mutual
def ltK : NestedKey → NestedKey → Bool
  | .num a, .num b => decide (a < b)
  | .text a, .text b => decide (a.cps.toList < b.cps.toList)
  | .tup a, .tup b => ltKs a b
  | _, _ => false
def ltKs : List NestedKey → List NestedKey → Bool
  | [], [] => false
  | [], _ :: _ => true
  | _ :: _, [] => false
  | a :: as, b :: bs => if NestedKey.beq a b = true then ltKs as bs else ltK a b
end
def insK (x : NestedKey) : List NestedKey → List NestedKey
  | [] => [x]
  | y :: ys => if ltK x y = true then x :: y :: ys else y :: insK x ys
def sortK (ks : List NestedKey) : List NestedKey := ks.foldr insK []
theorem insK_perm (x : NestedKey) : ∀ ys, (insK x ys).Perm (x :: ys)
  | [] => List.Perm.refl _
  | y :: ys => by
    unfold insK
    split
    · exact List.Perm.refl _
    · exact ((insK_perm x ys).cons y).trans (List.Perm.swap x y ys)
theorem sortK_perm : ∀ ks, (sortK ks).Perm ks
  | [] => List.Perm.refl _
  | n :: ns => (insK_perm n (sortK ns)).trans ((sortK_perm ns).cons n)
def goodK (x y : NestedKey) : Bool := ltK x y && !ltK y x && okC x y && okC y x && !NestedKey.beq x y
/-- strictly ascending -/
def ascK : List NestedKey → Bool
  | [] => true
  | x :: xs => okC x x && !ltK x x && xs.all (goodK x) && ascK xs
theorem ascK_pair : ∀ {l : List NestedKey}, ascK l = true → l.Pairwise (fun x y => goodK x y = true) ∧ ∀ x ∈ l, okC x x = true ∧ ltK x x = false
  | [], _ => ⟨.nil, fun _ h => (by cases h)⟩
  | x :: xs, h => by
    simp only [ascK, Bool.and_eq_true, List.all_eq_true, Bool.not_eq_true'] at h
    obtain ⟨⟨⟨h1, h2⟩, h3⟩, h4⟩ := h
    obtain ⟨i1, i2⟩ := ascK_pair h4
    exact ⟨List.pairwise_cons.mpr ⟨h3, i1⟩, fun y hy => (List.mem_cons.mp hy).elim (fun e => e ▸ ⟨h1, h2⟩) (i2 y)⟩
/-- the place in a list -/
def rankK : List NestedKey → NestedKey → Nat
  | [], _ => 0
  | x :: xs, k => if NestedKey.beq x k = true then 0 else rankK xs k + 1
theorem beq_ne {a b : NestedKey} (h : NestedKey.beq a b = false) : a ≠ b := fun e => by rw [e, NestedKey.beq_self] at h; cases h
theorem rank_lt : ∀ {l : List NestedKey}, ascK l = true → ∀ x ∈ l, ∀ y ∈ l, okC x y = true ∧ ltK x y = decide (rankK l x < rankK l y) ∧ (rankK l x = rankK l y → x = y)
  | [], _, x, hx, _, _ => by cases hx
  | z :: zs, h, x, hx, y, hy => by
    obtain ⟨p, q⟩ := ascK_pair h
    have h4 : ascK zs = true := by simp only [ascK, Bool.and_eq_true] at h; exact h.2
    obtain ⟨p1, p2⟩ := List.pairwise_cons.mp p
    have far : ∀ w ∈ zs, NestedKey.beq z w = false := fun w hw => by
      have := p1 w hw
      simp only [goodK, Bool.and_eq_true, Bool.not_eq_true'] at this
      exact this.2
    rcases List.mem_cons.mp hx with rfl | hx'
    · rcases List.mem_cons.mp hy with rfl | hy'
      · obtain ⟨a, b⟩ := q _ hx
        exact ⟨a, by rw [b]; simp, fun _ => rfl⟩
      · have g := p1 y hy'
        simp only [goodK, Bool.and_eq_true, Bool.not_eq_true'] at g
        simp only [rankK, NestedKey.beq_self, g.2, if_true, Bool.false_eq_true, if_false]
        exact ⟨g.1.1.2, by rw [g.1.1.1.1]; simp, fun z => by omega⟩
    · rcases List.mem_cons.mp hy with rfl | hy'
      · have g := p1 x hx'
        simp only [goodK, Bool.and_eq_true, Bool.not_eq_true'] at g
        simp only [rankK, NestedKey.beq_self, g.2, if_true, Bool.false_eq_true, if_false]
        exact ⟨g.1.2, by rw [g.1.1.1.2]; simp, fun z => by omega⟩
      · obtain ⟨i1, i2, i3⟩ := rank_lt h4 x hx' y hy'
        simp only [rankK, far x hx', far y hy', Bool.false_eq_true, if_false]
        exact ⟨i1, by rw [i2]; simp, fun z => i3 (by omega)⟩
theorem perm_uniq {α : Type} {r : α → Nat} : ∀ {xs ys : List α}, xs.Perm ys → xs.Pairwise (fun a b => r a ≤ r b) → ys.Pairwise (fun a b => r a ≤ r b) → (∀ a ∈ ys, ∀ b ∈ ys, r a = r b → a = b) → xs = ys
  | [], ys, p, _, _, _ => by rw [List.nil_perm.mp p]
  | x :: xs, [], p, _, _, _ => by have := p.length_eq; simp at this
  | x :: xs, y :: ys, p, hx, hy, hi => by
    obtain ⟨x1, x2⟩ := List.pairwise_cons.mp hx
    obtain ⟨y1, y2⟩ := List.pairwise_cons.mp hy
    have mx : x ∈ y :: ys := p.mem_iff.mp List.mem_cons_self
    have e : x = y := by
      refine hi x mx y List.mem_cons_self ?_
      rcases List.mem_cons.mp mx with e | m1
      · rw [e]
      · rcases List.mem_cons.mp (p.mem_iff.mpr List.mem_cons_self) with e | m2
        · rw [e]
        · have a := y1 x m1
          have b := x1 y m2
          omega
    subst e
    rw [perm_uniq ((List.perm_cons x).mp p) x2 y2 fun a ha b hb => hi a (List.mem_cons_of_mem _ ha) b (List.mem_cons_of_mem _ hb)]
/-! ### values that have an order -/
mutual
inductive OrdIs (h : Heap) : NestedKey → Value → Prop
  | int (i t) : OrdIs h (.num i) (.int i t)
  | text (x t) : OrdIs h (.text x) (.str x t)
  | tup {a o vs n ks} : h.get? a = some o → o.cls = .type "tuple" → o.data = .seq vs n → OrdAll h ks vs.toList → OrdIs h (.tup ks) (.ref a)
inductive OrdAll (h : Heap) : List NestedKey → List Value → Prop
  | nil : OrdAll h [] []
  | cons {k v ks vs} : OrdIs h k v → OrdAll h ks vs → OrdAll h (k :: ks) (v :: vs)
end
mutual
theorem OrdIs.nis {h : Heap} : ∀ {k : NestedKey} {v : Value}, OrdIs h k v → NestedIs h k v
  | _, _, .int i t => .int i t
  | _, _, .text x t => .text x t
  | _, _, .tup a b c d => .tup a b c (OrdAll.nis d)
theorem OrdAll.nis {h : Heap} : ∀ {ks : List NestedKey} {vs : List Value}, OrdAll h ks vs → NestedAll h ks vs
  | _, _, .nil => .nil
  | _, _, .cons a b => .cons (OrdIs.nis a) (OrdAll.nis b)
end
mutual
theorem OrdIs.keep {h h' : Heap} (hk : ∀ b o, h.get? b = some o → o.cls = .type "tuple" → h'.get? b = some o) : ∀ {k : NestedKey} {v : Value}, OrdIs h k v → OrdIs h' k v
  | _, _, .int i t => .int i t
  | _, _, .text x t => .text x t
  | _, _, .tup a b c d => .tup (hk _ _ a b) b c (OrdAll.keep hk d)
theorem OrdAll.keep {h h' : Heap} (hk : ∀ b o, h.get? b = some o → o.cls = .type "tuple" → h'.get? b = some o) : ∀ {ks : List NestedKey} {vs : List Value}, OrdAll h ks vs → OrdAll h' ks vs
  | _, _, .nil => .nil
  | _, _, .cons a b => .cons (OrdIs.keep hk a) (OrdAll.keep hk b)
end
theorem OrdAll.len {h : Heap} : ∀ {ks : List NestedKey} {vs : List Value}, OrdAll h ks vs → vs.length = ks.length
  | _, _, .nil => rfl
  | _, _, .cons _ b => congrArg (· + 1) (OrdAll.len b)
theorem lexAt_keys (xs ys : List NestedKey) : ∀ (k i : Nat), k = min xs.length ys.length - i → i ≤ min xs.length ys.length →
    Ob.lexAt (keyEqAt xs ys) (fun j => ltK (xs.getD j .none) (ys.getD j .none)) (decide (xs.length < ys.length)) i k = ltKs (xs.drop i) (ys.drop i)
  | 0, i, hk, hi => by
    rw [Ob.lexAt_zero]
    have : i = min xs.length ys.length := by omega
    by_cases h : xs.length < ys.length
    · have e1 : xs.drop i = [] := List.drop_eq_nil_of_le (by omega)
      have l2 : 0 < (ys.drop i).length := by rw [List.length_drop]; omega
      cases e2 : ys.drop i with
      | nil => rw [e2] at l2; cases l2
      | cons y r => rw [e1]; simp [ltKs, h]
    · have e2 : ys.drop i = [] := List.drop_eq_nil_of_le (by omega)
      cases e1 : xs.drop i with
      | nil => rw [e2]; simp [ltKs, h]
      | cons y r => rw [e2]; simp [ltKs, h]
  | k + 1, i, hk, hi => by
    rw [Ob.lexAt_succ, lexAt_keys xs ys k (i + 1) (by omega) (by omega)]
    have h1 : i < xs.length := by omega
    have h2 : i < ys.length := by omega
    rw [List.drop_eq_getElem_cons h1, List.drop_eq_getElem_cons h2]
    simp only [ltKs, keyEqAt, List.getD_eq_getElem?_getD, List.getElem?_eq_getElem h1, List.getElem?_eq_getElem h2, Option.getD_some]
mutual
theorem ltAt_key : ∀ (x y : NestedKey) (A : Around) (s : Shared) (a b : Value), OrdIs s.heap x a → OrdIs s.heap y b → okC x y = true → A.units + min x.depth y.depth < cLine → Ob.RcOp .Lt A s a b (ltK x y)
  | .none, _, A, s, _, _, ra, _, _, _ => by cases ra
  | .num i, y, A, s, _, _, ra, rb, hc, _ => by
    cases ra
    cases rb with
    | int j u => simp only [ltK]; exact Ob.RcOp.lt_int _ _ _ _
    | text _ _ => simp only [okC] at hc; cases hc
    | tup _ _ _ _ => simp only [okC] at hc; cases hc
  | .text i, y, A, s, _, _, ra, rb, hc, _ => by
    cases ra
    cases rb with
    | int j u => simp only [okC] at hc; cases hc
    | text _ _ => simp only [ltK]; exact fun prog w E Q h => PyProof.Rows.lt_str h
    | tup _ _ _ _ => simp only [okC] at hc; cases hc
  | .tup xs, y, A, s, _, _, ra, rb, hc, hu => by
    cases ra with
    | @tup l o vs n _ h1 h2 h3 h4 =>
      cases rb with
      | int _ _ => simp only [okC] at hc; cases hc
      | text _ _ => simp only [okC] at hc; cases hc
      | @tup l' o' vs' n' ys k1 k2 k3 k4 =>
        have hc : okCs xs ys = true := by simpa only [okC] using hc
        have hl : s.heap.IsTuple l vs := ⟨_, h1, h2, _, h3⟩
        have hl' : s.heap.IsTuple l' vs' := ⟨_, k1, k2, _, k3⟩
        have n1 : vs.size = xs.length := by simpa using OrdAll.len h4
        have n2 : vs'.size = ys.length := by simpa using OrdAll.len k4
        simp only [NestedKey.depth] at hu
        have hu' : A.in1.units + min (NestedKey.depthAll xs) (NestedKey.depthAll ys) < cLine := by rw [Around.in1_units]; omega
        have := Ob.RcOp.tuples_lt (A := A) (e := keyEqAt xs ys) (r := fun j => ltK (xs.getD j .none) (ys.getD j .none)) hl hl' (by omega)
          (fun j j1 j2 => by
            have := eqAt_keys xs ys A.in1 s vs.toList vs'.toList h4.nis k4.nis hu' j (by simpa using j1) (by simpa using j2)
            simpa using this)
          (fun j j1 j2 _ => by
            have := ltAt_keys xs ys A.in1 s vs.toList vs'.toList h4 k4 hc hu' j (by simpa using j1) (by simpa using j2)
            simpa using this)
        rw [n1, n2, lexAt_keys xs ys (min xs.length ys.length) 0 (Nat.sub_zero _).symm (Nat.zero_le _)] at this
        simp only [ltK]
        exact this
theorem ltAt_keys : ∀ (xs ys : List NestedKey) (A : Around) (s : Shared) (vs ws : List Value), OrdAll s.heap xs vs → OrdAll s.heap ys ws → okCs xs ys = true →
    A.units + min (NestedKey.depthAll xs) (NestedKey.depthAll ys) < cLine → ∀ j (h1 : j < vs.length) (h2 : j < ws.length), Ob.RcOp .Lt A s vs[j] ws[j] (ltK (xs.getD j .none) (ys.getD j .none))
  | [], _, _, _, _, _, ra, _, _, _, j, h1, _ => by cases ra; exact absurd h1 (Nat.not_lt_zero _)
  | _ :: _, [], _, _, _, _, _, rb, _, _, j, _, h2 => by cases rb; exact absurd h2 (Nat.not_lt_zero _)
  | x :: xs, y :: ys, A, s, _, _, ra, rb, hc, hu, j, h1, h2 => by
    cases ra with
    | cons r rs =>
      cases rb with
      | cons r' rs' =>
        simp only [okCs, Bool.and_eq_true] at hc
        simp only [NestedKey.depthAll] at hu
        cases j with
        | zero => exact ltAt_key x y A s _ _ r r' hc.1 (by omega)
        | succ j => exact ltAt_keys xs ys A s _ _ rs rs' hc.2 (by omega) j (Nat.lt_of_succ_lt_succ h1) (Nat.lt_of_succ_lt_succ h2)
end
section
variable {prog : Program} {w : World} {A : Around} {s : Shared} {Q : Bool → Shared → Prop} {b : Bool}
theorem katLex_keys {fin : Bool} : ∀ {xs ys : List NestedKey} {us vs : List Value} {i : Nat}, OrdAll s.heap xs us → OrdAll s.heap ys vs → okCs xs ys = true → (b && i == 0) = false →
    A.units + min (NestedKey.depthAll xs) (NestedKey.depthAll ys) < cLine → fin = decide (xs.length < ys.length) → Q (ltKs xs ys) s → PySem.W.KatLex prog w A b fin Q (us.zip vs) i s
  | [], ys, _, vs, i, ra, rb, _, _, _, hf, hq => by
    cases ra
    refine PySem.W.kat_nil ?_
    rw [hf]
    cases ys with
    | nil => exact hq
    | cons y ys => simpa [ltKs] using hq
  | x :: xs, [], _, _, i, ra, rb, _, _, _, hf, hq => by
    cases rb
    rw [List.zip_nil_right]
    refine PySem.W.kat_nil ?_
    rw [hf]
    simpa [ltKs] using hq
  | x :: xs, y :: ys, _, _, i, ra, rb, hc, hi, hu, hf, hq => by
    cases ra with
    | cons r rs =>
      cases rb with
      | cons r' rs' =>
        simp only [okCs, Bool.and_eq_true] at hc
        simp only [NestedKey.depthAll] at hu
        rw [List.zip_cons_cons]
        refine PySem.W.kat_cons (eqAt_key x y A s _ _ r.nis r'.nis (by omega) prog w _ _ ?_)
        refine PySem.W.kat_go (fun e1 => ?_) (fun e1 => ?_)
        · refine PySem.W.kat_yes (katLex_keys rs rs' hc.2 (by simp) (by omega) (by rw [hf]; simp) ?_)
          simp only [ltKs, e1, if_true] at hq
          exact hq
        · refine PySem.W.kat_no ?_
          rw [hi]
          refine PySem.W.kat_one _ _ (ltAt_key x y A s _ _ r r' hc.1 (by omega) prog w _ _ ?_)
          simp only [ltKs, e1, Bool.false_eq_true, if_false] at hq
          exact hq
/-- first whole numbers -/
theorem keyLt_ints {x y : Int} {xs ys : List NestedKey} {u v : Value} (ra : OrdIs s.heap (.tup (.num x :: xs)) u) (rb : OrdIs s.heap (.tup (.num y :: ys)) v) (hc : okC (.tup (.num x :: xs)) (.tup (.num y :: ys)) = true)
    (hu : A.units + min (NestedKey.depthAll xs) (NestedKey.depthAll ys) < cLine) (hq : Q (ltK (.tup (.num x :: xs)) (.tup (.num y :: ys))) s) : wpAny (model prog w) A (PyProof.Rows.keyLt' (PyProof.Rows.tuples' true) u v) Q (fun _ _ => False) s := by
  cases ra with
  | @tup a o us n _ h1 h2 h3 h4 =>
    cases rb with
    | @tup a' o' vs n' _ k1 k2 k3 k4 =>
      refine PySem.W.kat_lt h1 h3 k1 k3 ?_
      have n1 : us.size = (NestedKey.num x :: xs).length := by simpa using OrdAll.len h4
      have n2 : vs.size = (NestedKey.num y :: ys).length := by simpa using OrdAll.len k4
      simp only [okC, okCs, Bool.true_and] at hc
      generalize us.toList = us' at h4
      generalize vs.toList = vs' at k4
      cases h4 with
      | cons r rs =>
        cases k4 with
        | cons r' rs' =>
          cases r with
          | int _ t =>
            cases r' with
            | int _ u =>
              rw [List.zip_cons_cons]
              refine PySem.W.kat_cons (SeqAt.EqAt.int_int x t y u prog w _ _ ?_)
              refine PySem.W.kat_go (fun e1 => ?_) (fun e1 => ?_)
              · refine PySem.W.kat_yes (katLex_keys rs rs' hc rfl hu (by rw [n1, n2]; simp) ?_)
                have e2 : NestedKey.beq (.num x) (.num y) = true := by simpa [NestedKey.beq] using e1
                simp only [ltK, ltKs, e2, if_true] at hq
                exact hq
              · refine PySem.W.kat_no (PyProof.Rows.oneLt_int ?_)
                have e2 : NestedKey.beq (.num x) (.num y) = false := by simpa [NestedKey.beq] using e1
                simp only [ltK, ltKs, e2, Bool.false_eq_true, if_false] at hq
                exact hq
/-- first tuples -/
theorem keyLt_tups {xs ys : List NestedKey} {u v : Value} (ra : OrdIs s.heap (.tup xs) u) (rb : OrdIs s.heap (.tup ys) v) (hc : okC (.tup xs) (.tup ys) = true)
    (hu : A.units + min (NestedKey.depthAll xs) (NestedKey.depthAll ys) < cLine) (hq : Q (ltK (.tup xs) (.tup ys)) s) : wpAny (model prog w) A (PyProof.Rows.keyLt' (PyProof.Rows.tuples' false) u v) Q (fun _ _ => False) s := by
  cases ra with
  | @tup a o us n _ h1 h2 h3 h4 =>
    cases rb with
    | @tup a' o' vs n' _ k1 k2 k3 k4 =>
      refine PySem.W.kat_lt h1 h3 k1 k3 ?_
      have n1 : us.size = xs.length := by simpa using OrdAll.len h4
      have n2 : vs.size = ys.length := by simpa using OrdAll.len k4
      exact katLex_keys h4 k4 (by simpa only [okC] using hc) rfl hu (by rw [n1, n2]) (by simpa only [ltK] using hq)
/-- one type, tuples -/
theorem keyLt_one {xs ys : List NestedKey} {u v : Value} (ra : OrdIs s.heap (.tup xs) u) (rb : OrdIs s.heap (.tup ys) v) (hc : okC (.tup xs) (.tup ys) = true)
    (hu : A.units + 1 + min (NestedKey.depthAll xs) (NestedKey.depthAll ys) < cLine) (hq : Q (ltK (.tup xs) (.tup ys)) s) : wpAny (model prog w) A (PyProof.Rows.keyLt' PyProof.Rows.oneType' u v) Q (fun _ _ => False) s := by
  cases ra with
  | @tup l o vs n _ h1 h2 h3 h4 =>
    cases rb with
    | @tup l' o' vs' n' _ k1 k2 k3 k4 =>
      have hc : okCs xs ys = true := by simpa only [okC] using hc
      have n1 : vs.size = xs.length := by simpa using OrdAll.len h4
      have n2 : vs'.size = ys.length := by simpa using OrdAll.len k4
      have hu' : A.in1.units + min (NestedKey.depthAll xs) (NestedKey.depthAll ys) < cLine := by rw [Around.in1_units]; omega
      rw [PyProof.Rows.keyLt'_oneType, PyProof.Rows.oneLt'_eq]
      simp only [if_true]
      obtain ⟨cls, dd, data, sl⟩ := o
      obtain ⟨cls2, dd2, data2, sl2⟩ := o'
      simp only at h2 h3 k2 k3
      subst h2 h3 k2 k3
      refine wpAny_bind (wpAny_cRoomFor (by omega) (wpAny_bind (wpAny_callSpecialIfBound?_slot ⟨_, h1, rfl⟩ F.slot_tuple_lt ?_)))
      refine PySem.call_meets F.slot_tuple_lt ⟨_, h1, rfl⟩ F.entry_tuple_lt (F.args_tuple_lt_2 _ _) (Ob.tuple_ltAt l l' vs vs' n n' dd dd2 sl sl2 (keyEqAt xs ys) (fun j => ltK (xs.getD j .none) (ys.getD j .none))) ⟨h1, k1, fun j j1 j2 => ?_, fun j j1 j2 _ => ?_, ?_⟩
      · have := eqAt_keys xs ys A.in1 s vs.toList vs'.toList h4.nis k4.nis hu' j (by simpa using j1) (by simpa using j2)
        simpa using this
      · have := ltAt_keys xs ys A.in1 s vs.toList vs'.toList h4 k4 hc hu' j (by simpa using j1) (by simpa using j2)
        simpa using this
      · rw [n1, n2, lexAt_keys xs ys (min xs.length ys.length) 0 (Nat.sub_zero _).symm (Nat.zero_le _)]
        refine wpAny_truthy_bool ?_
        simp only [ltK] at hq
        exact hq
end
/-! ### a list that can be sorted -/
def isTN : NestedKey → Bool
  | .tup (.num _ :: _) => true
  | _ => false
def isTT : NestedKey → Bool
  | .tup (.tup _ :: _) => true
  | _ => false
def isTu : NestedKey → Bool
  | .tup _ => true
  | _ => false
def isT0 : NestedKey → Bool
  | .tup [] => true
  | _ => false
/-- all begin with a whole number, or all with a tuple, or the first is empty -/
def kindK (ks : List NestedKey) : Bool := ks.all isTN || ks.all isTT || (ks.all isTu && (match ks with | k :: _ => isT0 k | [] => false))
def deepK (ks : List NestedKey) : Bool := ks.all fun k => decide (k.depth ≤ 8)
section
variable {prog : Program} {w : World} {A : Around} {s : Shared}
theorem firsts_key {h : Heap} {T : NestedKey → Prop} {f : Value → NestedKey} : ∀ {vs : List Value}, (∀ v ∈ vs, OrdIs h (f v) v) → (∀ v ∈ vs, ∃ k ks, f v = .tup (k :: ks) ∧ T k) → ∃ fs : List Value, fs.length = vs.length ∧ PySem.W.KatTups h vs fs ∧ ∀ u ∈ fs, ∃ k, T k ∧ OrdIs h k u
  | [], _, _ => ⟨[], rfl, .nil, fun _ h => (by cases h)⟩
  | v :: vs, h1, h2 => by
    obtain ⟨fs, l, i1, i2⟩ := firsts_key (fun u hu => h1 u (List.mem_cons_of_mem _ hu)) fun u hu => h2 u (List.mem_cons_of_mem _ hu)
    have r := h1 v List.mem_cons_self
    obtain ⟨k, ks, e, t⟩ := h2 v List.mem_cons_self
    rw [e] at r
    cases r with
    | @tup a o us n _ q1 q2 q3 q4 =>
      cases hu : us.toList with
      | nil => rw [hu] at q4; cases q4
      | cons u ur =>
        rw [hu] at q4
        cases q4 with
        | cons r rs =>
          have e0 : us[0]? = some u := by rw [← Array.getElem?_toList, hu]; rfl
          exact ⟨u :: fs, congrArg (· + 1) l, .cons q1 q2 q3 e0 i1, fun x hx => (List.mem_cons.mp hx).elim (fun e => e ▸ ⟨k, t, r⟩) (i2 x)⟩
theorem first_opts {h : Heap} {f : Value → NestedKey} : ∀ {vs : List Value}, (∀ v ∈ vs, OrdIs h (f v) v) → (∀ v ∈ vs, ∃ ks, f v = .tup ks) → ∃ fs : List (Option Value), fs.length = vs.length ∧ (∀ v r, vs = v :: r → isT0 (f v) = true → fs[0]? = some none) ∧
    ∀ (M : Model) (A : Around) (E : Value → Shared → Prop) (s : Shared) (Q : List (Option Value) → Shared → Prop), s.heap = h → Q fs s → wpAny M A (vs.mapM PyProof.Rows.firstOfTuple') Q E s
  | [], _, _ => ⟨[], rfl, fun v r e => (by cases e), fun M A E s Q _ hq => by rw [List.mapM_nil]; exact wpAny_pure hq⟩
  | v :: vs, h1, h2 => by
    obtain ⟨fs, l, _, i2⟩ := first_opts (fun u hu => h1 u (List.mem_cons_of_mem _ hu)) fun u hu => h2 u (List.mem_cons_of_mem _ hu)
    have r := h1 v List.mem_cons_self
    obtain ⟨ks, e⟩ := h2 v List.mem_cons_self
    rw [e] at r
    cases r with
    | @tup a o us n _ q1 q2 q3 q4 =>
      refine ⟨us[0]? :: fs, congrArg (· + 1) l, fun v r ev ht => ?_, fun M A E s Q eh hq => ?_⟩
      · cases ev
        rw [e] at ht
        cases ks with
        | nil =>
          generalize hu : us.toList = ul at q4
          cases q4
          show some us[0]? = some none
          rw [← Array.getElem?_toList, hu]; rfl
        | cons k ks => cases ht
      · subst eh
        rw [List.mapM_cons]
        refine wpAny_bind ?_
        rw [PySem.W.kas_first_eq]
        refine wpAny_bind (PySem.W.Looks.here (show PySem.W.Looks M s.heap (typeOf (.ref a)) o.cls from (PySem.W.Looks.ld q1).andThen .now) ?_)
        rw [q2, if_neg (by first | decide | simp)]
        refine wpAny_bind (PyProof.Rows.listItems_at q1 q3 (wpAny_pure ?_))
        exact wpAny_bind (i2 M A E s (fun bs s' => wpAny M A (pure (us[0]? :: bs)) Q E s') rfl (wpAny_pure hq))
theorem all_mem {α : Type} {p : α → Bool} {l : List α} (h : l.all p = true) : ∀ x ∈ l, p x = true := List.all_eq_true.mp h
theorem sortable_keys {a : Addr} {vs : List Value} {f : Value → NestedKey} {L : List NestedKey} (hv : ∀ v ∈ vs, OrdIs s.heap (f v) v) (hk : kindK (vs.map f) = true) (hd : deepK (vs.map f) = true) (hL : ascK L = true)
    (hm : ∀ v ∈ vs, f v ∈ L) (h0 : 0 < vs.length) (ha : ∀ o, s.heap.get? a = some o → o.cls ≠ .type "tuple") (hu : A.units + 10 < cLine) :
    SrtO.SortableO prog w A s a vs fun v u => decide (rankK L (f v) < rankK L (f u)) := by
  intro h' keep
  have hv' : ∀ v ∈ vs, OrdIs h' (f v) v := fun v hm => (hv v hm).keep fun b o e c => keep b o (fun z => by subst z; exact ha o e c) e
  have dp : ∀ v ∈ vs, (f v).depth ≤ 8 := fun v m => of_decide_eq_true (all_mem hd _ (List.mem_map_of_mem m))
  unfold kindK at hk
  rw [Bool.or_eq_true, Bool.or_eq_true] at hk
  rcases hk with (hk | hk) | hk
  · have sh : ∀ v ∈ vs, ∃ x xs, f v = .tup (.num x :: xs) := fun v m => by
      have := all_mem hk _ (List.mem_map_of_mem m)
      unfold isTN at this
      split at this
      · rename_i x xs e; exact ⟨x, xs, e⟩
      · cases this
    obtain ⟨fs, l, t1, t2⟩ := firsts_key (T := fun k => ∃ x, k = .num x) hv' fun v m => by
      obtain ⟨x, xs, e⟩ := sh v m
      exact ⟨_, _, e, x, rfl⟩
    refine ⟨PyProof.Rows.tuples' true, fun Q E hq => ?_, fun p q hp hq => ?_⟩
    · refine PySem.W.kat_kind (T := .type "int") t1 (by omega) (fun u hm => ?_) (by rfl) ?_
      · obtain ⟨k, ⟨x, rfl⟩, r⟩ := t2 u hm
        cases r
        exact PySem.W.Looks.now
      · have e : (Value.type "int" != Value.type "tuple") = true := by first | decide +kernel | rfl | decide
        rw [e]
        exact hq
    · have r1 := hv' p.1 hp
      have r2 := hv' q.1 hq
      obtain ⟨o1, o2, _⟩ := rank_lt hL (f p.1) (hm _ hp) (f q.1) (hm _ hq)
      have d1 := dp p.1 hp
      obtain ⟨x, xs, e1⟩ := sh p.1 hp
      obtain ⟨y, ys, e2⟩ := sh q.1 hq
      rw [e1] at r1 o1 d1
      rw [e2] at r2 o1
      refine keyLt_ints r1 r2 o1 (by simp only [NestedKey.depth, NestedKey.depthAll] at d1; omega) ⟨rfl, ?_⟩
      rw [← e1, ← e2, o2]
  · have sh : ∀ v ∈ vs, ∃ x xs, f v = .tup (.tup x :: xs) := fun v m => by
      have := all_mem hk _ (List.mem_map_of_mem m)
      unfold isTT at this
      split at this
      · rename_i x xs e; exact ⟨x, xs, e⟩
      · cases this
    obtain ⟨fs, l, t1, t2⟩ := firsts_key (T := fun k => ∃ x, k = .tup x) hv' fun v m => by
      obtain ⟨x, xs, e⟩ := sh v m
      exact ⟨_, _, e, x, rfl⟩
    refine ⟨PyProof.Rows.tuples' false, fun Q E hq => ?_, fun p q hp hq => ?_⟩
    · refine PySem.W.kat_kind (T := .type "tuple") t1 (by omega) (fun u hm => ?_) (by rfl) ?_
      · obtain ⟨k, ⟨x, rfl⟩, r⟩ := t2 u hm
        cases r with
        | tup q1 q2 q3 q4 =>
          rw [← q2]
          exact (PySem.W.Looks.ld q1).andThen .now
      · have e : (Value.type "tuple" != Value.type "tuple") = false := by first | decide +kernel | rfl | decide
        rw [e]
        exact hq
    · have r1 := hv' p.1 hp
      have r2 := hv' q.1 hq
      obtain ⟨o1, o2, _⟩ := rank_lt hL (f p.1) (hm _ hp) (f q.1) (hm _ hq)
      have d1 := dp p.1 hp
      obtain ⟨x, xs, e1⟩ := sh p.1 hp
      obtain ⟨y, ys, e2⟩ := sh q.1 hq
      rw [e1] at r1 o1 d1
      rw [e2] at r2 o1
      refine keyLt_tups r1 r2 o1 (by simp only [NestedKey.depth] at d1; omega) ⟨rfl, ?_⟩
      rw [← e1, ← e2, o2]
  · rw [Bool.and_eq_true] at hk
    have sh : ∀ v ∈ vs, ∃ xs, f v = .tup xs := fun v m => by
      have := all_mem hk.1 _ (List.mem_map_of_mem m)
      unfold isTu at this
      split at this
      · rename_i xs e; exact ⟨xs, e⟩
      · cases this
    refine ⟨PyProof.Rows.oneType', fun Q E hq => ?_, fun p q hp hq => ?_⟩
    · obtain ⟨fs, l, i1, i2⟩ := first_opts hv' sh
      obtain ⟨v, vr, ev⟩ : ∃ v vr, vs = v :: vr := by
        match vs, h0 with
        | v :: vr, _ => exact ⟨v, vr, rfl⟩
      have n0 := i1 v vr ev (by
        have := hk.2
        rw [ev] at this
        exact this)
      obtain ⟨fr, ef⟩ : ∃ fr, fs = none :: fr := by
        cases fs with
        | nil => cases n0
        | cons x fr => exact ⟨fr, by rw [Option.some.inj n0]⟩
      rw [PyProof.Rows.kat_kind_eq, List.mapM_toArray, map_eq_pure_bind]
      refine wpAny_bind (wpAny_bind (i2 _ _ _ { s with heap := h' } _ rfl (wpAny_pure ?_)))
      rw [if_neg (by rw [ef]; simp), if_neg (by rw [ef]; simp)]
      rw [PyProof.Rows.oneTypeOnly'_eq, List.mapM_toArray, map_eq_pure_bind]
      refine wpAny_bind (wpAny_bind (wpAny_bind (PySem.W.kas_mapM (r := Value.type "tuple") _ (fun v hv Q' hq => ?_) (wpAny_pure ?_))))
      · obtain ⟨xs, e⟩ := sh v hv
        have r := hv' v hv
        rw [e] at r
        cases r with
        | tup q1 q2 q3 q4 =>
          refine PySem.W.Looks.here (s := { s with heap := h' }) ?_ hq
          rw [← q2]
          exact (PySem.W.Looks.ld q1).andThen .now
      · have hall : ((List.map (fun _ => Value.type "tuple") vs).toArray.all fun x => x == Value.type "tuple") = true := by
          simp only [List.all_toArray, List.all_map, List.all_eq_true]
          intro _ _
          rfl
        have h0 : (List.map (fun _ => Value.type "tuple") vs).toArray[0]? = some (Value.type "tuple") := by rw [ev]; simp
        rw [h0]
        simp only [hall, if_true]
        exact wpAny_pure (wpAny_pure hq)
    · have r1 := hv' p.1 hp
      have r2 := hv' q.1 hq
      obtain ⟨o1, o2, _⟩ := rank_lt hL (f p.1) (hm _ hp) (f q.1) (hm _ hq)
      have d1 := dp p.1 hp
      obtain ⟨xs, e1⟩ := sh p.1 hp
      obtain ⟨ys, e2⟩ := sh q.1 hq
      rw [e1] at r1 o1 d1
      rw [e2] at r2 o1
      refine keyLt_one r1 r2 o1 (by simp only [NestedKey.depth] at d1; omega) ⟨rfl, ?_⟩
      rw [← e1, ← e2, o2]
end
/-! ### sorted(xs), sorted(d) -/
mutual
def keyO : D → Option NestedKey
  | .int i => some (.num i)
  | .str x => some (.text x)
  | .tup ds => (keysO ds).map .tup
  | _ => none
def keysO : List D → Option (List NestedKey)
  | [] => some []
  | d :: ds => match keyO d, keysO ds with
    | some k, some ks => some (k :: ks)
    | _, _ => none
end
mutual
def toD : NestedKey → D
  | .num i => .int i
  | .text x => .str x
  | .tup ks => .tup (toDs ks)
  | .none => .non
def toDs : List NestedKey → List D
  | [] => []
  | k :: ks => toD k :: toDs ks
end
theorem toDs_map : ∀ ks : List NestedKey, toDs ks = ks.map toD
  | [] => rfl
  | k :: ks => by rw [toDs, toDs_map ks]; rfl
mutual
theorem keyO_eq : ∀ {d : D} {k : NestedKey}, keyO d = some k → d = toD k
  | .int i, k, h => by simp only [keyO] at h; cases h; rfl
  | .str x, k, h => by simp only [keyO] at h; cases h; rfl
  | .tup ds, k, h => by
    simp only [keyO, Option.map_eq_some_iff] at h
    obtain ⟨ks, e, rfl⟩ := h
    rw [toD, ← keysO_eq e]
  | .non, _, h => by simp [keyO] at h
  | .bl _, _, h => by simp [keyO] at h
  | .ty _, _, h => by simp [keyO] at h
  | .lst _, _, h => by simp [keyO] at h
  | .frz _, _, h => by simp [keyO] at h
  | .obj _, _, h => by simp [keyO] at h
  | .raw _, _, h => by simp [keyO] at h
theorem keysO_eq : ∀ {ds : List D} {ks : List NestedKey}, keysO ds = some ks → ds = toDs ks
  | [], ks, h => by simp only [keysO] at h; cases h; rfl
  | d :: ds, ks, h => by
    simp only [keysO] at h
    split at h
    · rename_i k ks' e1 e2
      cases h
      rw [toDs, ← keyO_eq e1, ← keysO_eq e2]
    · cases h
end
section
variable {X : Cx} {pins : List (Addr × Obj)} {σ : L2.St} {H : Hp} {st : Shared} {ι : Wd}
mutual
theorem Rep.ord (I : Inv X pins σ H st) : ∀ {d : D} {v : V} {k : NestedKey} {u : Value}, Rep X.K ι H d v → keyO d = some k → RelV v u → OrdIs st.heap k u
  | _, _, _, _, .non, h, r => by simp [keyO] at h
  | _, _, _, _, .bl b, h, r => by simp [keyO] at h
  | _, _, _, _, .int i, h, r => by simp only [keyO] at h; cases h; obtain ⟨t, rfl⟩ := r; exact .int i t
  | _, _, _, _, .str x, h, r => by simp only [keyO] at h; cases h; obtain ⟨t, rfl⟩ := r; exact .text x t
  | _, _, _, _, .ty n, h, r => by simp [keyO] at h
  | _, _, _, _, .tup h1 h2, h, r => by
    simp only [keyO, Option.map_eq_some_iff] at h
    obtain ⟨ks, hk, rfl⟩ := h
    cases (show _ = _ from r)
    obtain ⟨its, rv, ⟨o, g1, g2, n, g3⟩, _⟩ := I.tuple h1.sq
    exact .tup g1 g2 g3 (by simpa using Reps.ord I h2 hk rv)
  | _, _, _, _, .lst _ _ _, h, r => by simp [keyO] at h
  | _, _, _, _, .frz _ _, h, r => by simp [keyO] at h
  | _, _, _, _, .frz2 _ _ _, h, r => by simp [keyO] at h
  | _, _, _, _, .obj _, h, r => by simp [keyO] at h
  | _, _, _, _, .raw _, h, r => by simp [keyO] at h
theorem Reps.ord (I : Inv X pins σ H st) : ∀ {ds : List D} {vs : List V} {ks : List NestedKey} {us : List Value}, Reps X.K ι H ds vs → keysO ds = some ks → Vals vs us → OrdAll st.heap ks us
  | _, _, _, _, .nil, h, .nil => by simp only [keysO] at h; cases h; exact .nil
  | _, _, _, _, .cons r t, h, .cons q qs => by
    simp only [keysO] at h
    split at h
    · rename_i e1 e2
      cases h
      exact .cons (Rep.ord I r e1 q) (Reps.ord I t e2 qs)
    · cases h
end
end
open Classical in
/-- the key of a value -/
noncomputable def keyAt (h : Heap) (u : Value) : NestedKey := if e : ∃ k, OrdIs h k u then e.choose else .none
theorem keyAt_eq {h : Heap} {k : NestedKey} {u : Value} (r : OrdIs h k u) : keyAt h u = k := by
  have e : ∃ k, OrdIs h k u := ⟨k, r⟩
  unfold keyAt
  rw [dif_pos e]
  exact NestedIs.inj _ _ _ e.choose_spec.nis r.nis
theorem keyAt_map {h : Heap} : ∀ {ks : List NestedKey} {us : List Value}, OrdAll h ks us → us.map (keyAt h) = ks ∧ ∀ u ∈ us, OrdIs h (keyAt h u) u
  | _, _, .nil => ⟨rfl, fun _ h => (by cases h)⟩
  | _, _, .cons r t => by
    obtain ⟨i1, i2⟩ := keyAt_map t
    refine ⟨by rw [List.map_cons, keyAt_eq r, i1], fun u hu => ?_⟩
    rcases List.mem_cons.mp hu with rfl | hu
    · rw [keyAt_eq r]; exact r
    · exact i2 u hu
/-- what sorted gives -/
theorem sorted_out {h : Heap} {ks : List NestedKey} {us out : List Value} (r : OrdAll h ks us) (hL : ascK (sortK ks) = true)
    (h1 : SrtO.Srtd (fun v u => decide (rankK (sortK ks) (keyAt h v) < rankK (sortK ks) (keyAt h u))) out) (h2 : out.Perm us) : out.map (keyAt h) = sortK ks := by
  obtain ⟨e, _⟩ := keyAt_map r
  have p : (out.map (keyAt h)).Perm (sortK ks) := ((h2.map (keyAt h)).trans (e ▸ List.Perm.refl _)).trans (sortK_perm ks).symm
  have R := rank_lt hL
  refine perm_uniq (r := rankK (sortK ks)) p ?_ ?_ fun a ha b hb => (R a ha b hb).2.2
  · refine List.pairwise_map.mpr (h1.imp fun {x y} q => ?_)
    have := of_decide_eq_false q
    omega
  · refine (ascK_pair hL).1.imp_of_mem fun {x y} hx hy g => ?_
    simp only [goodK, Bool.and_eq_true] at g
    have := (R x hx y hy).2.1
    rw [g.1.1.1.1] at this
    have := of_decide_eq_true this.symm
    omega
def sortB (ks : List NestedKey) : Bool := kindK ks && deepK ks && ascK (sortK ks)
section
variable {X : Cx} {ca : Ct} {W : WX}
theorem reps_back {K : PySem.W.Frag} {ι : Wd} {H : Hp} {h : Heap} : ∀ {us out : List Value}, (∀ u ∈ us, Rep K ι H (toD (keyAt h u)) (backV u)) → (∀ u ∈ out, u ∈ us) → Reps K ι H ((out.map (keyAt h)).map toD) (out.map backV)
  | us, [], _, _ => .nil
  | us, u :: out, h1, h2 => .cons (h1 u (h2 u List.mem_cons_self)) (reps_back h1 fun w hw => h2 w (List.mem_cons_of_mem _ hw))
theorem back_of {K : PySem.W.Frag} {ι : Wd} {H : Hp} {h : Heap} : ∀ {ds : List D} {ks : List NestedKey} {vs : List V} {us : List Value}, Reps K ι H ds vs → keysO ds = some ks → (∀ k ∈ ks, isTu k = true) → Vals vs us → OrdAll h ks us →
    (∀ u ∈ us, Rep K ι H (toD (keyAt h u)) (backV u)) ∧ ∀ u ∈ us, ∃ a, u = .ref a
  | _, _, _, _, .nil, _, _, .nil, _ => ⟨fun _ h => (by cases h), fun _ h => (by cases h)⟩
  | d :: ds, _, v :: vs, u :: us, .cons r t, e, hk, .cons q qs, o => by
    simp only [keysO] at e
    split at e
    · rename_i k ks e1 e2
      cases e
      cases o with
      | cons o os =>
        obtain ⟨i1, i2⟩ := back_of t e2 (fun k hk' => hk k (List.mem_cons_of_mem _ hk')) qs os
        have hd := keyO_eq e1
        have ht := hk k List.mem_cons_self
        unfold isTu at ht
        split at ht
        · rename_i kk
          subst hd
          have r0 := r
          rw [toD] at r
          obtain ⟨b, rfl⟩ := r.tupRef
          cases (show _ = _ from q)
          refine ⟨fun w hw => ?_, fun w hw => ?_⟩
          · rcases List.mem_cons.mp hw with rfl | hw
            · rw [keyAt_eq o]; exact r0
            · exact i1 w hw
          · rcases List.mem_cons.mp hw with rfl | hw
            · exact ⟨_, rfl⟩
            · exact i2 w hw
        · cases ht
    · cases e
theorem kind_tu {ks : List NestedKey} (h : kindK ks = true) : ∀ k ∈ ks, isTu k = true := fun k hk => by
  unfold kindK at h
  rw [Bool.or_eq_true, Bool.or_eq_true, Bool.and_eq_true] at h
  rcases h with (h | h) | h
  · have := all_mem h k hk
    unfold isTN at this
    split at this
    · rfl
    · cases this
  · have := all_mem h k hk
    unfold isTT at this
    split at this
    · rfl
    · cases this
  · exact all_mem h.1 k hk
def rSortK (X : Cx) : List V → Hp → VK → Prop := fun vs H Q => ∃ (ι : Wd) (a : Addr) (ds : List D) (ws : List V) (ks : List NestedKey), vs = [.ref a] ∧ SqL X.K H a ws ∧ Reps X.K ι H ds ws ∧ keysO ds = some ks ∧ sortB ks = true ∧
  ∀ p ys, H p = none → Reps X.K ι H ((sortK ks).map toD) ys → Q (.ref p) (upd H p (.lst ys))
theorem cr_sortK {j : Nat} (hr : Room j X.A) : CallR X (.builtin "sorted") (rSortK X) := by
  intro pins s σ H vs us Q I r ⟨ι, a, ds, ws, ks, ev, hs, rd, hk, hb, q⟩
  subst ev
  obtain ⟨its, rv, hl, hz⟩ := I.list hs
  rw [Vals.ref1 r]
  simp only [sortB, Bool.and_eq_true] at hb
  have oa := Reps.ord I rd hk rv
  obtain ⟨e1, e2⟩ := keyAt_map oa
  obtain ⟨b1, b2⟩ := back_of rd hk (kind_tu hb.1.1) rv oa
  have hm : ∀ v ∈ its, keyAt s.heap v ∈ sortK ks := fun v hv => (sortK_perm ks).mem_iff.mpr (e1 ▸ List.mem_map_of_mem hv)
  have hu := hr.un
  refine SrtO.sorted_ord (ltv := fun v u => decide (rankK (sortK ks) (keyAt s.heap v) < rankK (sortK ks) (keyAt s.heap u))) ⟨fun x y h => ?_, fun x y z h1 h2 => ?_⟩ hl.isList (by rw [← rv.length]; exact hz) (fun h2 h₁ a' ha' keep => ?_) fun out h1 h2 => ?_
  · have := of_decide_eq_true h
    exact decide_eq_false (by omega)
  · have := of_decide_eq_false h1
    have := of_decide_eq_false h2
    exact decide_eq_false (by omega)
  · refine sortable_keys (s := { s with heap := h₁ }) (fun v hv => (e2 v hv).keep fun b o e _ => (keep b o e).2) (by rw [e1]; exact hb.1.1) (by rw [e1]; exact hb.1.2) hb.2 hm (by omega) (fun o ho c => ?_) (by rw [Around.in1_units, Around.in1_units]; omega)
    have := Option.some.inj (ho.symm.trans ha')
    rw [this] at c
    exact absurd (Value.type.inj c) (by decide)
  · have hout := sorted_out oa hb.2 h1 h2.perm
    have rb := reps_back b1 fun u hu => h2.perm.mem_iff.mp hu
    rw [hout] at rb
    obtain ⟨ep, he'⟩ := PyProof.Rows.sortedAll_at s.heap its out.toArray
    have hlen : (out.map backV).length ≤ sizeLine := by
      rw [List.length_map, h2.perm.length_eq, ← rv.length]
      exact hz
    exact ⟨.ref _, upd H (s.heap.objs.size + 1) (.lst (out.map backV)), I.laid (t' := s.toks) (fun _ _ => PyProof.Rows.sortedAll_old) (Nat.le_succ _) ⟨hlen, out, ep, vals_back fun u hu => b2 u (h2.perm.mem_iff.mp hu), he'⟩, rfl, q _ _ (I.hok.fresh (Nat.le_succ _)) rb⟩
def fSortT (s : S) (x : D) : Option D := ((itemsL s x).bind keysO).bind fun ks => if sortB ks = true then some (.lst ((sortK ks).map toD)) else none
theorem cj_sortT {j : Nat} (hr : Room j X.A) : CallR X (.builtin "sorted") (rCJ X.K ca (f1 fSortT)) := by
  refine cj1 (cr_sortK hr) fun ι s H d v x Q m r hf q => ?_
  simp only [fSortT, Option.bind_eq_some_iff] at hf
  obtain ⟨ks, ⟨ds, e1, e2⟩, hf⟩ := hf
  split at hf
  · rename_i hb
    cases hf
    obtain ⟨a, vs, rfl, h1, h2⟩ := m.items r e1
    refine ⟨ι, a, ds, vs, ks, rfl, h1, h2, e2, hb, fun p ys hp ry => ?_⟩
    obtain ⟨l, m'⟩ := m.new (o := .lst ys) hp
    exact q _ _ _ l m' (.lst upd_same (m.ne hp) (ry.mono l))
  · cases hf
def rSortDN (X : Cx) : List V → Hp → VK → Prop := fun vs H Q => ∃ (ι : Wd) (a : Addr) (xs : List (NestedKey × Addr × Value)) (kvs : List (D × D)) (ks : List NestedKey), vs = [.ref a] ∧ H a = some (DN X.prog X.w a xs) ∧ RepN X.K ι H kvs xs ∧ xs.length ≤ sizeLine ∧
  keysO (kvs.map (·.1)) = some ks ∧ sortB ks = true ∧ ∀ p ys, H p = none → Reps X.K ι H ((sortK ks).map toD) ys → Q (.ref p) (upd H p (.lst ys))
theorem cr_sortDN {j : Nat} (hr : Room j X.A) (hc : X.calm = true) : CallR X (.builtin "sorted") (rSortDN X) := by
  intro pins s σ H vs us Q I r ⟨ι, a, xs, kvs, ks, ev, h1, h2, hl, hk, hb, q⟩
  subst ev
  rw [Vals.ref1 r]
  obtain ⟨dd, ns⟩ := dn_of I h1 h2
  obtain ⟨es, ep, hraw, hz, hke⟩ := dd.raw
  have hu := hr.un
  refine Calls.call_function_entry PyProof.Rows.kind_sorted PyProof.Rows.plain_sorted PyProof.Rows.entry_sorted (PyProof.Rows.args_sorted1 _) ?_
  unfold Builtin.«sorted»
  refine wpAny_bind (m := checkCount "sorted" 1 1 _) (wpAny_pure ?_)
  refine wpAny_bind (PySem.W.kdu_collect (A := X.A.in1) (KdlSrc.rawDict ns) (I.ok.hd hc) hraw (by omega) fun h' tk acc kp hit => ?_)
  have ea : acc.toList = xs.map fun x => Value.ref x.2.1 := by
    refine List.ext_getElem? fun i => ?_
    rw [Array.getElem?_toList, List.getElem?_map]
    by_cases hi : i < es.size
    · have hia : i < acc.size := by rw [hit.1]; exact hi
      obtain ⟨_, e2⟩ := hit.2 i _ (Array.getElem?_eq_getElem hia)
      obtain ⟨y, y1, y2, _, _⟩ := hke i hi
      rw [Array.getElem?_eq_getElem hia, e2, y1, y2]; rfl
    · rw [Array.getElem?_eq_none (by rw [hit.1]; omega), List.getElem?_eq_none (by omega)]; rfl
  have I1 : Inv X pins σ H { s with heap := h', toks := tk } := I.kept kp
  have rv : Vals (xs.map fun x => V.ref x.2.1) acc.toList := by rw [ea]; exact vals_refs _ xs
  have rd := h2.keys
  have hal : acc.toList.length ≤ sizeLine := by rw [ea, List.length_map]; exact hl
  refine wpAny_bind (wpAny_newList ?_ hal)
  generalize acc.toList = its at rv hal ⊢
  simp only [sortB, Bool.and_eq_true] at hb
  have oa : OrdAll h' ks its := Reps.ord I1 rd hk rv
  obtain ⟨e1, e2⟩ := keyAt_map oa
  obtain ⟨b1, b2⟩ := back_of rd hk (kind_tu hb.1.1) rv oa
  have hm : ∀ v ∈ its, keyAt h' v ∈ sortK ks := fun v hv => (sortK_perm ks).mem_iff.mpr (e1 ▸ List.mem_map_of_mem hv)
  have hoL : (h'.push (PyProof.Rows.seqObj "list" its.toArray 0)).get? h'.objs.size = some (PyProof.Rows.seqObj "list" its.toArray 0) := Heap.get?_push_size _ rfl
  show wpAny _ _ _ _ _ { s with heap := h'.push (PyProof.Rows.seqObj "list" its.toArray 0), toks := tk }
  refine wpAny_bind (wpAny_holding (wpAny_call_entry PyProof.Rows.slot_list_sort ⟨_, hoL, rfl⟩ PyProof.Rows.entry_list_sort
    (SrtO.list_sort_ord (s := { s with heap := h'.push (PyProof.Rows.seqObj "list" its.toArray 0), toks := tk }) (ltv := fun v u => decide (rankK (sortK ks) (keyAt h' v) < rankK (sortK ks) (keyAt h' u))) ⟨fun x y h => ?_, fun x y z h1 h2 => ?_⟩ hoL hal (fun hl2 => ?_) fun out o1 o2 => ⟨_, rfl, ?_⟩) (PyProof.Rows.args_list_sort _)))
  · have := of_decide_eq_true h
    exact decide_eq_false (by omega)
  · have := of_decide_eq_false h1
    have := of_decide_eq_false h2
    exact decide_eq_false (by omega)
  · refine sortable_keys (fun v hv => (e2 v hv).keep fun b o e _ => Heap.get?_push_of_some _ e) (by rw [e1]; exact hb.1.1) (by rw [e1]; exact hb.1.2) hb.2 hm (by omega) (fun o ho c => ?_) (by rw [Around.in1_units, Around.in1_units]; omega)
    have := Option.some.inj (ho.symm.trans hoL)
    rw [this] at c
    exact absurd (Value.type.inj c) (by decide)
  · have hout := sorted_out oa hb.2 o1 o2.perm
    have rb := reps_back b1 fun u hu => o2.perm.mem_iff.mp hu
    rw [hout] at rb
    obtain ⟨e', he'⟩ := PyProof.Rows.sortedHeap_at (vs := its) (out := out.toArray) hoL
    have hlen : (out.map backV).length ≤ sizeLine := by
      rw [List.length_map, o2.perm.length_eq]
      exact hal
    refine wpAny_pure ⟨_, rfl, .ref h'.objs.size, upd H h'.objs.size (.lst (out.map backV)), I1.laid (t' := tk) (fun b u e => ?_) (Nat.le_refl _) ⟨hlen, out, e', vals_back fun u hu => b2 u (o2.perm.mem_iff.mp hu), he'⟩, rfl, q _ _ (I1.hok.fresh (Nat.le_refl _)) rb⟩
    have hbn : b < h'.objs.size := Heap.lt_size e
    rw [PyProof.Rows.sortedHeap_old (Nat.ne_of_lt hbn) (by rw [PyProof.Rows.size_push']; exact Nat.lt_succ_of_lt hbn)]
    exact Heap.get?_push_of_some _ e
def fSortDN (s : S) (d : D) : Option D := (dcdOf s d).bind fun kvs => if fitL kvs.length then (keysO (kvs.map (·.1))).bind fun ks => if sortB ks = true then some (.lst ((sortK ks).map toD)) else none else none
theorem cj_sortDN {j : Nat} (pw : PwJ X ca) (hr : Room j X.A) (hc : X.calm = true) : CallR X (.builtin "sorted") (rCJ X.K ca (f1 fSortDN)) := by
  refine cj1 (cr_sortDN hr hc) fun ι s H d v x Q m r hf q => ?_
  simp only [fSortDN, Option.bind_eq_some_iff] at hf
  obtain ⟨kvs, hd, hf⟩ := hf
  split at hf
  · rename_i hl
    simp only [Option.bind_eq_some_iff] at hf
    obtain ⟨ks, hk, hf⟩ := hf
    split at hf
    · rename_i hb
      cases hf
      obtain ⟨n, a, xs, rfl, rfl, hn, h1, h2⟩ := dcdOf_at m r hd
      rw [pw.p, pw.w] at h1
      refine ⟨ι, a, xs, kvs, ks, rfl, h1, h2, by rw [← h2.len]; exact fitL_le hl, hk, hb, fun p ys hp ry => ?_⟩
      obtain ⟨l, m'⟩ := m.new (o := .lst ys) hp
      exact q _ _ _ l m' (.lst upd_same (m.ne hp) (ry.mono l))
    · cases hf
  · cases hf
end
end J


set_option Elab.async false
set_option linter.all false
set_option maxRecDepth 100000
set_option maxHeartbeats 4000000
/-! J21: {k: v} keyed by data, while, x += i, walking a mutable list. -/
namespace J
open PySem PySem.Spec L2
section
variable {X : Cx} {ca : Ct} {W : WX} {pos : Pos}
/-! ### {k: v} -/
def gDicN1 (gk gv : GE) : GE := fun ρ s => (gk ρ s).bind fun kd s1 => (gv ρ s1).bind fun x s2 => match keyT kd with
  | some _ => .ok (.obj s2.length) (s2 ++ [.dcd [(kd, x)]])
  | none => .no
def tDicN1 (X : Cx) (tk tv : TE) : TE := fun σ H Q => ∀ p, H p = none → MutJ (DN X.prog X.w p []) → tPairs [(tk, tv)] σ (upd H p (DN X.prog X.w p [])) fun ps H2 => H2 p = some (DN X.prog X.w p []) ∧
  ∃ (ι : Wd) (b : Addr) (v : V) (kd : D) (k : NestedKey), ps = [(.ref b, v)] ∧ Rep X.K ι H2 kd (.ref b) ∧ keyN kd = some k ∧ okKey k = true ∧ ∀ u, RelV v u → MutJ (DN X.prog X.w p [(k, b, u)]) → Q (.ref p) (upd H2 p (DN X.prog X.w p [(k, b, u)]))
theorem pe_dicN1 {j : Nat} (hr : Room j X.A) {k v : Expr} {tk tv : TE} (hk : PE X k tk) (hv : PE X v tv) : PE X (.Dict [some k] [v] pos) (tDicN1 X tk tv) := by
  refine ⟨fun pins s σ H Q I q => ?_⟩
  have hn := I.hok.fresh (Nat.le_refl s.heap.objs.size)
  have ns : (s.heap.objs.size == sysModules) = false := beq_eq_false_iff_ne.mpr (Ne.symm (Nat.ne_of_lt I.big))
  have d0 : Heap.DictOfH (nestedKind X.prog X.w) (s.heap.push { cls := .type "dict", data := .dict #[] }) s.heap.objs.size [] := ⟨_, #[], 0, Heap.get?_push_size _ rfl, ⟨rfl, rfl, rfl⟩, rfl, rfl, fun x hx => (by cases hx), List.nodup_nil⟩
  have I1 := I.laid (a := s.heap.objs.size) (o := DN X.prog X.w s.heap.objs.size []) (h' := s.heap.push { cls := .type "dict", data := .dict #[] }) (t' := s.toks) (fun _ _ q => Heap.get?_push_of_some _ q) (Nat.le_refl _) (dn_ok d0 ns)
  have mu := dn_mut d0 ns
  rw [arm_eval_Dict, show (evalEachOpt [some k] X.env).zip ((evalEach [v] X.env).map fun v => do let x ← v; standAt pos; pure x) = (pairTrees [some k] [v] X.env pos).map (fun p => (some p.1, p.2)) from rfl, dictDisplay_pairs _ (by simp [pairTrees]) (by simp [pairTrees])]
  refine wpAny_bind (wpAny_standAt (wpAny_bind (wpAny_subDictH (knd := nestedKind X.prog X.w) (Q := fun d s' => wpAny (model X.prog X.w) X.A (pure (Value.ref d)) (EP X pins σ Q) X.xe s') (nroom0 hr) (by simp [pairTrees]) ?_)))
  refine thn ((pps_cons (pos := pos) hk hv pps_nil).run pins _ σ _ _ I1 (q _ hn mu)) fun ws s2 ⟨ps, H2, I2, rel, q2⟩ => ?_
  obtain ⟨e, ι, b, v, kd, k, ep, h3, h4, h5, q2⟩ := q2
  subst ep
  obtain ⟨dd, ns2⟩ := dn_of I2 e (kvs := []) (ι := ι) .nil
  cases rel with
  | @cons _ w _ _ hw t =>
    cases t
    obtain ⟨w1, w2⟩ := w
    obtain ⟨hw1, hw2⟩ := hw
    cases (show _ = _ from hw1)
    refine ⟨[(k, b, w2)], ⟨rfl, rfl, kis I2 h3 h4 h5, trivial⟩, dd, fun h' tk' dd' hs => wpAny_pure ?_⟩
    exact ⟨.ref s.heap.objs.size, _, dn_write I2 e dd' hs ns2, rfl, q2 w2 hw2 (dn_mut dd' ns2)⟩
theorem je_dicN1 {j : Nat} (pw : PwJ X ca) (hr : Room j X.A) {k v : Expr} {gk gv : GE} (hk : JE X ca W k gk) (hv : JE X ca W v gv) : JE X ca W (.Dict [some k] [v] pos) (gDicN1 gk gv) :=
  PE.imp (pe_dicN1 hr hk hv) fun σ H Q ⟨ι, ρ, s, hrs, hm, h⟩ p hp mu => by
    obtain ⟨lo, mo⟩ := hm.open (o := DN X.prog X.w p []) hp mu
    have nι : p ∉ ι.ι := fun z => hm.ne hp (hm.sub _ z)
    refine bindE (famB (ι0 := ι) (H0 := H)) (hrs.mono lo) mo ⟨lo, h⟩ fun ι1 s1 kd kv H1 l1 hr1 hm1 rk h1 => bindE (famB (ι0 := ι) (H0 := H)) hr1 hm1 h1 fun ι2 s2 x v H2 l2 hr2 hm2 rx h2 => ?_
    have st1 := (l1.trans l2).stay _ _ upd_same mu.noTab nι
    obtain ⟨h2a, h2b⟩ := h2
    split at h2b
    · rename_i kk ek
      obtain ⟨⟨ds, rfl⟩, k1, k2⟩ := keyT_tup ek
      obtain ⟨b, rfl⟩ := rk.tupRef
      refine ⟨st1.1, ι2, b, v, _, kk, rfl, rk.mono l2, k1, k2, fun u ru mu2 => ?_⟩
      have hM := (l1.trans l2).sub p List.mem_cons_self
      obtain ⟨kf, mf⟩ := hm2.fill (o := DN X.prog X.w p [(kk, b, u)]) hM st1.2 mu2
      obtain ⟨la, ma⟩ := mf.adopt hM st1.2 (u := .dcd [(.tup ds, x)]) fun l => ⟨[(kk, b, u)], by rw [pw.p, pw.w]; exact upd_same, .cons ⟨k1, k2, Rep.monoK l (Rep.monoK kf (rk.mono l2)), v, ru, Rep.monoK l (Rep.monoK kf rx)⟩ .nil⟩
      exact h2b _ _ _ ((h2a.updNone hp).adopt hp) ma (.obj (by simp [← hm2.len]))
    · exact h2b.elim
/-! ### while -/
def whileLoop (t : GT) (b : GS) : Nat → Env → S → R Fl
  | 0, _, _ => .no
  | f + 1, ρ, s => (t ρ s).bind fun k s1 => if k = true then (b ρ s1).bind fun fl s2 => match fl with
      | .nx ρ2 => whileLoop t b f ρ2 s2
      | .ct ρ2 => whileLoop t b f ρ2 s2
      | .bk ρ2 => .ok (.nx ρ2) s2
      | .rt d => .ok (.rt d) s2
    else .ok (.nx ρ) s1
def sWhile (fuel : Nat) (t : GT) (b : GS) : GS := fun ρ s => whileLoop t b fuel ρ s
theorem js_while (fuel : Nat) {c : Expr} {body : List Stmt} {t : GT} {b : GS} (hp : PassesOwn (model X.prog X.w) X.A X.env X.xe) (hc : JT X ca W c t) (hb : JSs X ca W body b) : JS X ca W (.While c body [] pos) (sWhile fuel t b) := by
  refine PS.imp (ps_while hp hc hb) fun D σ H ⟨ι, ρ, s, hr, hm, h⟩ => ?_
  refine ⟨fun m σ' H' => ∃ ι' ρ' s', Le ι H ι' H' ∧ RelS X.K ι' H' ρ' σ' ∧ Sim X.K ca ι' s' H' ∧ PostS X.K ca ι H W (whileLoop t b m ρ' s') D, ⟨fuel, ι, ρ, s, .refl, hr, hm, h⟩, ?_⟩
  rintro m σ' H' ⟨ι', ρ', s', l', hr', hm', h'⟩
  cases m with
  | zero => exact h'.elim
  | succ f =>
    unfold whileLoop at h'
    refine ⟨ι', ρ', s', hr', hm', ?_⟩
    cases e : t ρ' s' with
    | no => rw [e] at h'; exact h'.elim
    | err x s4 => rw [e] at h'; exact fun ι4 cv dd H4 l4 m4 q4 => (PostS.mono (show PostS X.K ca ι H W (.err x s4) D from h') l') ι4 cv dd H4 σ' l4 m4 q4
    | ok k s1 =>
      rw [e] at h'
      simp only [R.bind_ok] at h'
      intro ι1 H1 l1 hm1
      cases k with
      | false =>
        rw [if_neg Bool.false_ne_true] at h' ⊢
        exact h' ι1 σ' H1 (l'.trans l1) hm1 (hr'.mono l1)
      | true =>
        rw [if_pos rfl] at h' ⊢
        refine ⟨fun σ2 H2 => ∃ ι2 ρ2 s2, Le ι H ι2 H2 ∧ RelS X.K ι2 H2 ρ2 σ2 ∧ Sim X.K ca ι2 s2 H2 ∧ PostS X.K ca ι H W (whileLoop t b f ρ2 s2) D, fun σ2 H2 w => ⟨f, Nat.lt_succ_self f, w⟩, ι1, ρ', s1, hr'.mono l1, hm1, ?_⟩
        have l0 := l'.trans l1
        cases e3 : b ρ' s1 with
        | err x s4 => rw [e3] at h'; exact PostS.mono (show PostS X.K ca ι H W (.err x s4) _ from h') l0
        | no => rw [e3] at h'; exact h'
        | ok fl s4 =>
          rw [e3] at h'
          cases fl with
          | nx ρ4 => exact fun ι4 σ4 H4 l4 m4 r4 => ⟨ι4, ρ4, s4, l0.trans l4, r4, m4, h'⟩
          | ct ρ4 => exact fun ι4 σ4 H4 l4 m4 r4 => ⟨ι4, ρ4, s4, l0.trans l4, r4, m4, h'⟩
          | bk ρ4 => exact fun ι4 σ4 H4 l4 m4 r4 => h' ι4 σ4 H4 (l0.trans l4) m4 r4
          | rt d => exact fun ι4 v H4 l4 m4 r4 => h' ι4 v H4 (l0.trans l4) m4 r4
/-! ### x += i -/
def sAugAdd (i : Nat) (g : GE) : GS := fun ρ s => match ρ[i]? with
  | some (some (.int a)) => (g ρ s).bind fun d s1 => (match d with
    | .int b => .ok (.nx (ρ.set i (some (.int (a + b))))) s1
    | _ => .no)
  | _ => .no
theorem js_augAdd (i : Nat) {x : Str} {e : Expr} {g : GE} {pos' : Pos} (hN : X.N.Nodup) (he : JE X ca W e g) (hi : X.N[i]? = some x := by rfl) (hx : Loc X.env.scope x := by first | exact Or.inl rfl | exact Or.inr rfl)
    (hf : X.fn x = true ∨ X.env.scope.names.lookup x = some .local := by first | exact .inl rfl | exact .inr rfl) : JS X ca W (.AugAssign (.Name x pos') .Add e pos) (sAugAdd i g) := by
  refine PS.imp (ps_aug (i := i) hN hi hx he ip_add hf) fun D σ H ⟨ι, ρ, s, hr, hm, h⟩ => ?_
  unfold sAugAdd at h
  split at h
  · rename_i a e0
    obtain ⟨v, h1, h2⟩ := hr.at_ i _ e0
    cases h2
    refine ⟨_, h1, bindE famS hr hm h fun ι1 s1 d v H1 l1 hr1 hm1 rd h1 => ?_⟩
    cases rd with
    | int b => exact ⟨a, b, rfl, rfl, h1 ι1 _ H1 .refl hm1 (hr1.set (.int (a + b)) i)⟩
    | _ => exact h1.elim
  · exact h.elim
/-! ### walking a list that may change -/
def forLoopM (t : TD) (b : GS) (d : D) : Nat → Nat → Env → S → R Fl
  | 0, i, ρ, s => match itemsL s d with
    | some ds => if decide (ds.length ≤ i) then .ok (.nx ρ) s else .no
    | none => .no
  | f + 1, i, ρ, s => match itemsL s d with
    | none => .no
    | some ds => match ds[i]? with
      | none => .ok (.nx ρ) s
      | some x => match t x ρ with
        | none => .no
        | some ρ1 => (b ρ1 s).bind fun fl s1 => match fl with
          | .nx ρ2 => forLoopM t b d f (i + 1) ρ2 s1
          | .ct ρ2 => forLoopM t b d f (i + 1) ρ2 s1
          | .bk ρ2 => .ok (.nx ρ2) s1
          | .rt d => .ok (.rt d) s1
def sForM (t : TD) (g : GE) (b : GS) : GS := fun ρ s => (g ρ s).bind fun d s1 => match itemsL s1 d with
  | some ds => forLoopM t b d ds.length 0 ρ s1
  | none => .no
theorem js_forM {tg iter : Expr} {body : List Stmt} {g : GE} {t : TD} {b : GS} (hp : PassesOwn (model X.prog X.w) X.A X.env X.xe) (hc : X.calm = true) (hi : JE X ca W iter g) (hg : JG X ca tg t) (hb : JSs X ca W body b) (hs : ∀ x, foldedSetIterable iter X.env x = pure x := by intro _; rfl) :
    JS X ca W (.For tg iter body [] pos) (sForM t g b) := by
  refine PS.imp (ps_for hp hc (pi_list hi) hg hb hs) fun D σ H ⟨ι, ρ, s, hr, hm, h⟩ => ?_
  refine bindE famS hr hm h fun ι1 s1 d v H1 l1 hr1 hm1 rd h1 => ?_
  split at h1
  · rename_i ds0 e0
    obtain ⟨a, vs0, rfl, hsq, hreps⟩ := hm1.items rd e0
    refine ⟨a, rfl, ⟨vs0, hsq⟩, ?_⟩
    refine ⟨fun i m σ' H' => ∃ ι' ρ' s', Le ι1 H1 ι' H' ∧ RelS X.K ι' H' ρ' σ' ∧ Sim X.K ca ι' s' H' ∧ PostS X.K ca ι1 H1 W (forLoopM t b d m i ρ' s') D, ⟨_, ι1, ρ, s1, .refl, hr1, hm1, h1⟩, ?_⟩
    rintro i m σ' H' ⟨ι', ρ', s', l', hr', hm', h'⟩
    cases m with
    | zero =>
      unfold forLoopM at h'
      split at h'
      · rename_i ds e1
        split at h'
        · rename_i hl
          obtain ⟨a', ws, ea, hsq', hreps'⟩ := hm'.items (rd.mono l') e1
          cases ea
          exact .inl ⟨⟨ws, hsq', by rw [← hreps'.length]; exact of_decide_eq_true hl⟩, h' ι' σ' H' l' hm' hr'⟩
        · exact h'.elim
      · exact h'.elim
    | succ f =>
      unfold forLoopM at h'
      split at h'
      · exact h'.elim
      · rename_i ds e1
        obtain ⟨a', ws, ea, hsq', hreps'⟩ := hm'.items (rd.mono l') e1
        cases ea
        split at h'
        · rename_i e2
          exact .inl ⟨⟨ws, hsq', by rw [← hreps'.length]; exact List.getElem?_eq_none_iff.mp e2⟩, h' ι' σ' H' l' hm' hr'⟩
        · rename_i x e2
          obtain ⟨x0, hx0, rx0⟩ := hreps'.get e2
          refine .inr ⟨⟨ws, x0, hsq', hx0⟩, fun σ2 H2 => ∃ ι2 ρ2 s2, Le ι1 H1 ι2 H2 ∧ RelS X.K ι2 H2 ρ2 σ2 ∧ Sim X.K ca ι2 s2 H2 ∧ PostS X.K ca ι1 H1 W (forLoopM t b d f (i + 1) ρ2 s2) D, fun σ2 H2 w => ⟨f, Nat.lt_succ_self f, w⟩, fun y H2 yy => ?_⟩
          obtain ⟨rfl, hy⟩ := yy
          have hy := hy ws hsq'
          rw [hx0] at hy
          cases hy
          cases e3 : t x ρ' with
          | none => rw [e3] at h'; exact h'.elim
          | some ρ2 =>
            rw [e3] at h'
            refine ⟨ι', ρ', s', _, ρ2, hr', hm', rx0, e3, fun ι3 σ3 H3 l3 m3 r3 => ⟨ι3, ρ2, s', r3, m3, ?_⟩⟩
            simp only at h'
            have l0 := l'.trans l3
            cases e4 : b ρ2 s' with
            | err x s4 => rw [e4] at h'; exact PostS.mono (show PostS X.K ca ι1 H1 W (.err x s4) _ from h') l0
            | no => rw [e4] at h'; exact h'.elim
            | ok fl s4 =>
              rw [e4] at h'
              cases fl with
              | nx ρ4 => exact fun ι4 σ4 H4 l4 m4 r4 => ⟨ι4, ρ4, s4, l0.trans l4, r4, m4, h'⟩
              | ct ρ4 => exact fun ι4 σ4 H4 l4 m4 r4 => ⟨ι4, ρ4, s4, l0.trans l4, r4, m4, h'⟩
              | bk ρ4 => exact fun ι4 σ4 H4 l4 m4 r4 => h' ι4 σ4 H4 (l0.trans l4) m4 r4
              | rt d => exact fun ι4 v H4 l4 m4 r4 => h' ι4 v H4 (l0.trans l4) m4 r4
  · exact h1.elim
/-! ### a target that is a list's place -/
def d2PutL (go gi : GE) : TD2 := fun x ρ s => (go ρ s).bind fun o s1 => (gi ρ s1).bind fun i s2 => match putL s2 o i x with
  | some s3 => .ok ρ s3
  | none => .no
@[simp] theorem ap_d2PutL (go gi : GE) (x : D) (ρ : Env) (s : S) : d2PutL go gi x ρ s = (go ρ s).bd (fun o s1 => (gi ρ s1).bd (fun i s2 => match putL s2 o i x with
  | some s3 => .ok ρ s3
  | none => .no) .mk) .mk := id rfl
theorem jg2_putL {o i : Expr} {go gi : GE} (ho : JE X ca W o go) (hi : JE X ca W i gi) (ha : ∀ v, assign (.Subscript o i pos) X.env v = (do
      let ov ← holding [v] (eval o X.env)
      let iv ← holding [v, ov] (eval i X.env)
      standAt pos; holding [v, ov, iv] (setItem ov iv v); release [v, ov, iv] []) := by intro _; rfl) : JG2 X ca (.Subscript o i pos) (d2PutL go gi) :=
  PG.imp (pg_sub ho hi set_list ha) fun v σ H Q ⟨ι, ρ, s, x, hrs, hm, rx, h⟩ => bindE famG hrs hm h fun ι1 s1 o u H1 l1 hr1 hm1 ro h1 => bindE famG hr1 hm1 h1 fun ι2 s2 i w H2 l2 hr2 hm2 ri h2 => by
    cases e : putL s2 o i x with
    | none => rw [e] at h2; exact h2.elim
    | some s4 =>
      rw [e] at h2
      have ro := ro.mono l2
      have rx := (rx.mono l1).mono l2
      cases ro with
      | @obj a n hn =>
        cases ri with
        | int k =>
          simp only [putL] at e
          split at e
          · rename_i ds hds
            simp only [Option.map_eq_some_iff] at e
            obtain ⟨j, hj, rfl⟩ := e
            obtain ⟨vs, k1, k2⟩ := hm2.ob n _ _ hn hds
            refine ⟨_, _, _, j, rfl, rfl, k1, by rw [← k2.length]; exact hj, ?_⟩
            obtain ⟨l, m'⟩ := hm2.write (o := .lst (vs.set j v)) (u := .lst (ds.set j x)) hn trivial fun l => ⟨_, upd_same, (k2.mono l).set (rx.mono l) j⟩
            exact h2 _ _ _ l m' (hr2.mono l)
          · cases e
        | _ => simp [putL] at e
      | _ => simp [putL] at e
end
end J


set_option Elab.async false
set_option linter.all false
set_option maxRecDepth 100000
set_option maxHeartbeats 4000000
/-! J22: the words of J18 to J21, applied. -/
namespace J
open PySem L2
@[simp] theorem ap_dicN (ρ : Env) (s : S) : gDicN ρ s = .ok (.obj s.length) (s ++ [.dcd []]) := id rfl
@[simp] theorem ap_dicN1 (gk gv : GE) (ρ : Env) (s : S) : gDicN1 gk gv ρ s = (gk ρ s).bd (fun kd s1 => (gv ρ s1).bd (fun x s2 => match keyT kd with
  | some _ => .ok (.obj s2.length) (s2 ++ [.dcd [(kd, x)]])
  | none => .no) .mk) .mk := id rfl
@[simp] theorem ap_get2N (go gi gx : GE) (ρ : Env) (s : S) : gGet2N go gi gx ρ s = (go ρ s).bd (fun d s1 => match dcdOf s1 d with
  | some _ => (gi ρ s1).bd (fun y s2 => (gx ρ s2).bd (fun x s3 => (match dcdOf s3 d, keyT y with
    | some kvs, some k => .ok ((findN kvs k).getD x) s3
    | _, _ => .no)) .mk) .mk
  | none => .no) .mk := id rfl
@[simp] theorem ap_updN (go ge : GE) (ρ : Env) (s : S) : gUpdN go ge ρ s = (go ρ s).bd (fun d s1 => match dcdOf s1 d with
  | some _ => (ge ρ s1).bd (fun y s2 => (match d, y, dcdOf s2 d, dcdOf s2 y with
    | .obj n, .obj m, some as, some bs => if decide (n ≠ m) && (!as.isEmpty || hashOkB bs) && fitL (as.length + bs.length) then .ok .non (s2.set n (.dcd (updN as bs))) else .no
    | _, _, _, _ => .no)) .mk
  | none => .no) .mk := id rfl
@[simp] theorem ap_dputN (gv go gi : GE) (ρ : Env) (s : S) : sDPutN gv go gi ρ s = (gv ρ s).bd (fun x s1 => (go ρ s1).bd (fun d s2 => (gi ρ s2).bd (fun y s3 => match d with
  | .obj n => (match dcdOf s3 (.obj n), keyT y with
    | some kvs, some k => if fitL (kvs.length + 1) then .ok (.nx ρ) (s3.set n (.dcd (putN kvs y k x))) else .no
    | _, _ => .no)
  | _ => .no) .mk) .mk) .mk := id rfl
@[simp] theorem ap_forM (t : TD) (g : GE) (b : GS) (ρ : Env) (s : S) : sForM t g b ρ s = (g ρ s).bd (fun d s1 => match itemsL s1 d with
  | some ds => forLoopM t b d ds.length 0 ρ s1
  | none => .no) .mk := id rfl
@[simp] theorem ap_augAdd (i : Nat) (g : GE) (ρ : Env) (s : S) : sAugAdd i g ρ s = (match ρ[i]? with
  | some (some (.int a)) => (g ρ s).bd (fun d s1 => (match d with
    | .int b => .ok (.nx (ρ.set i (some (.int (a + b))))) s1
    | _ => .no)) .mk
  | _ => .no) := id rfl
@[simp] theorem ap_while (f : Nat) (t : GT) (b : GS) (ρ : Env) (s : S) : sWhile f t b ρ s = whileLoop t b f ρ s := id rfl
theorem dcdO {s : S} {n : Nat} {kvs : List (D × D)} (h : s[n]? = some (.dcd kvs)) : dcdOf s (.obj n) = some kvs := by simp [dcdOf, h]
/-- a walk over a list that stays -/
theorem forM_inv {t : TD} {b : GS} {d : D} {ds : List D} (Inv : Nat → Env → S → Prop) (hstay : ∀ k ρ s, Inv k ρ s → itemsL s d = some ds)
    (step : ∀ k (hk : k < ds.length) ρ s, Inv k ρ s → ∃ ρ1 ρ2 s2, t ds[k] ρ = some ρ1 ∧ b ρ1 s = .ok (.nx ρ2) s2 ∧ Inv (k + 1) ρ2 s2) : ∀ (f k : Nat) (ρ : Env) (s : S), k + f = ds.length → Inv k ρ s → ∃ ρ' s', forLoopM t b d f k ρ s = .ok (.nx ρ') s' ∧ Inv ds.length ρ' s'
  | 0, k, ρ, s, hk, h => by
    have e := hstay k ρ s h
    have hk2 : k = ds.length := by omega
    subst hk2
    refine ⟨ρ, s, ?_, h⟩
    unfold forLoopM
    rw [e]
    simp
  | f + 1, k, ρ, s, hk, h => by
    have e := hstay k ρ s h
    have hlt : k < ds.length := by omega
    obtain ⟨ρ1, ρ2, s2, h1, h2, h3⟩ := step k hlt ρ s h
    obtain ⟨ρ', s', h4, h5⟩ := forM_inv Inv hstay step f (k + 1) ρ2 s2 (by omega) h3
    refine ⟨ρ', s', ?_, h5⟩
    unfold forLoopM
    rw [e]
    simp only [List.getElem?_eq_getElem hlt, h1, h2, R.bind_ok]
    exact h4
end J


set_option Elab.async false
set_option linter.all false
set_option maxRecDepth 100000
set_option maxHeartbeats 4000000
/-! J23: comprehensions over pairs, triples: the target is a tuple of names. -/
namespace J
open PySem PySem.Spec L2
/-- several names -/
def dsNames : List Nat → List D → Env → Option Env
  | [] => dsNil
  | i :: is => dsCons (dName i) (dsNames is)
def gNames : List Nat → TGs
  | [] => gNil
  | i :: is => gCons (gName i) (gNames is)
section
variable {X : Cx} {ca : Ct} {W : WX} {pos : Pos}
theorem wipe_set {σ : L2.St} {v : Option V} {i : Nat} : ∀ {us : List Nat}, i ∉ us → L2.wipe (σ.set i v) us = (L2.wipe σ us).set i v
  | [], _ => rfl
  | u :: us, hu => by
    obtain ⟨h1, h2⟩ := not_or.mp (fun z => hu (List.mem_cons.mpr z))
    show (L2.wipe (σ.set i v) us).set u none = ((L2.wipe σ us).set u none).set i v
    rw [wipe_set h2, List.set_comm _ _ h1]
theorem wipe_mem {σ : L2.St} {v : Option V} : ∀ {vs : List Nat} {i : Nat}, i ∈ vs → L2.wipe (σ.set i v) vs = L2.wipe σ vs
  | [], _, h => by cases h
  | j :: vs, i, h => by
    show (L2.wipe (σ.set i v) vs).set j none = (L2.wipe σ vs).set j none
    by_cases e : i ∈ vs
    · rw [wipe_mem e]
    · have hj : i = j := (List.mem_cons.mp h).resolve_right e
      subst hj
      rw [wipe_set e, List.set_set]
theorem none_at {u : Nat} : ∀ {ws : List Nat} {σ : L2.St}, u ∈ ws → (L2.wipe σ ws).set u none = L2.wipe σ ws
  | [], _, h => by cases h
  | w :: ws, σ, h => by
    show ((L2.wipe σ ws).set w none).set u none = (L2.wipe σ ws).set w none
    by_cases e : u = w
    · subst e; rw [List.set_set]
    · rw [List.set_comm _ _ (fun z => e z.symm), none_at ((List.mem_cons.mp h).resolve_left e)]
theorem wipe_wipe {σ : L2.St} {ws : List Nat} : ∀ {us : List Nat}, (∀ u ∈ us, u ∈ ws) → L2.wipe (L2.wipe σ ws) us = L2.wipe σ ws
  | [], _ => rfl
  | u :: us, h => by
    show (L2.wipe (L2.wipe σ ws) us).set u none = _
    rw [wipe_wipe fun x hx => h x (List.mem_cons_of_mem _ hx), none_at (h u List.mem_cons_self)]
theorem names_ok {K : PySem.W.Frag} {ι : Wd} {H : Hp} {own : List Nat} {σ0 : L2.St} : ∀ {is : List Nat} {ds : List D} {vs : List V} {ρ ρ' : Env} {σ : L2.St} {Q : L2.St → Hp → Prop}, (∀ i ∈ is, i ∈ own) → L2.wipe σ own = σ0 → RelS K ι H ρ σ → Reps K ι H ds vs → dsNames is ds ρ = some ρ' → (∀ σ', RelS K ι H ρ' σ' → L2.wipe σ' own = σ0 → Q σ' H) → gNames is vs σ H Q
  | [], ds, vs, ρ, ρ', σ, Q, _, hw, r, rs, e, k => by
    cases rs with
    | nil => cases e; exact ⟨rfl, k σ r hw⟩
    | cons _ _ => cases e
  | i :: is, ds, vs, ρ, ρ', σ, Q, hi, hw, r, rs, e, k => by
    cases rs with
    | nil => cases e
    | cons rd rs =>
      simp only [dsNames, dsCons, dName, Option.bind_some] at e
      refine ⟨_, _, rfl, ?_⟩
      show gNames is _ (σ.set i (some _)) H Q
      exact names_ok (fun j hj => hi j (List.mem_cons_of_mem _ hj)) ((wipe_mem (hi i List.mem_cons_self)).trans hw) (r.set rd i) rs e k
theorem tup_ok {K : PySem.W.Frag} {ι : Wd} {H : Hp} {own : List Nat} {n : Nat} {ρ ρ' : Env} {σ : L2.St} {d : D} {v : V} {Q : L2.St → Hp → Prop} (r : RelS K ι H (wipeD own ρ) (L2.wipe σ own)) (rd : Rep K ι H d v) (e : dTup n (dsNames own) d (wipeD own ρ) = some ρ') (k : ∀ σ', RelS K ι H ρ' σ' → L2.wipe σ' own = L2.wipe σ own → Q σ' H) : L2.gTup K n (gNames own) v (L2.wipe σ own) H Q := by
  cases rd with
  | tup h1 h2 =>
    simp only [dTup] at e
    split at e
    · rename_i hl
      refine ⟨_, _, rfl, h1.sq, by rw [← h2.length]; exact hl, names_ok (own := own) (σ0 := L2.wipe (L2.wipe σ own) own) (fun i h => h) rfl r h2 e fun σ' r' hw => k σ' r' (hw.trans ?_)⟩
      exact wipe_wipe fun u h => h
    · cases e
  | _ => cases e
/-- [elt for a, b, .. in iter if ..] -/
theorem je_lcT {elt iter : Expr} {ifs : List Expr} {scope : Scope} {own : List (Str × Nat)} {es : List Expr} {k n : Nat} {tpos : Pos} {gi : GA} {gt : GT} {ge : GE} (hc : X.calm = true) (hN : X.N.Nodup) (hi : JI X ca W (.Tuple es k tpos) iter gi) (ok : BlkOk X.N X.env.scope scope own)
    (hg : ∀ (s : Shared) (H : Hp) (C : Addr) (cl : List (Str × Addr)) (fp : List Addr), PG (X.blk s H scope (compEnvC scope cl C X.env) fp) (.Tuple es k tpos) (L2.gTup X.K n (gNames (own.map (·.2)))))
    (ht : ∀ (s : Shared) (H : Hp) (C : Addr) (cl : List (Str × Addr)) (fp : List Addr), JTs (X.blk s H scope (compEnvC scope cl C X.env) fp) ca W0 ifs gt)
    (he : ∀ (s : Shared) (H : Hp) (C : Addr) (cl : List (Str × Addr)) (fp : List Addr), JE (X.blk s H scope (compEnvC scope cl C X.env) fp) ca W0 elt ge) (hs : ∀ x, foldedSetIterable iter X.env x = pure x := by intro _; rfl) :
    JE X ca W (.ListComp elt [⟨.Tuple es k tpos, iter, ifs, 0⟩] scope pos) (gLc (own.map (·.2)) gi (dTup n (dsNames (own.map (·.2)))) gt ge) :=
  PE.imp (pe_lc (own := own) (g := L2.gTup X.K n (gNames (own.map (·.2)))) (wi := tI X.K ca W gi) (tt := tT X.K ca W0 gt) (te := tG X.K ca W0 ge) hc hN hi ok hg ht he hs) fun σ H Q h => tG_lc (own := own.map (·.2)) (fun r rd e k => tup_ok r rd e k) h
theorem js_setLcT (j : Nat) {y : Str} {py : Pos} {elt iter : Expr} {ifs : List Expr} {scope : Scope} {own : List (Str × Nat)} {es : List Expr} {k n : Nat} {tpos lpos : Pos} {gi : GA} {gt : GT} {ge : GE} (hc : X.calm = true) (hN : X.N.Nodup) (hi : JI X ca W (.Tuple es k tpos) iter gi) (ok : BlkOk X.N X.env.scope scope own)
    (hg : ∀ (s : Shared) (H : Hp) (C : Addr) (cl : List (Str × Addr)) (fp : List Addr), PG (X.blk s H scope (compEnvC scope cl C X.env) fp) (.Tuple es k tpos) (L2.gTup X.K n (gNames (own.map (·.2)))))
    (ht : ∀ (s : Shared) (H : Hp) (C : Addr) (cl : List (Str × Addr)) (fp : List Addr), JTs (X.blk s H scope (compEnvC scope cl C X.env) fp) ca W0 ifs gt)
    (he : ∀ (s : Shared) (H : Hp) (C : Addr) (cl : List (Str × Addr)) (fp : List Addr), JE (X.blk s H scope (compEnvC scope cl C X.env) fp) ca W0 elt ge)
    (hsw : swapsWith (.ListComp elt [⟨.Tuple es k tpos, iter, ifs, 0⟩] scope lpos) (some (.Name y py)) pos.line X.env = pure true) (hy : X.N[j]? = some y := by rfl) (hyl : X.env.scope.names.lookup y = some .local := by rfl)
    (hs : ∀ x, foldedSetIterable iter X.env x = pure x := by intro _; rfl) :
    JS X ca W (.Assign [.Name y py] (.ListComp elt [⟨.Tuple es k tpos, iter, ifs, 0⟩] scope lpos) pos) (sAsg (gLc (own.map (·.2)) gi (dTup n (dsNames (own.map (·.2)))) gt ge) (dName j)) :=
  PS.imp (ps_setLc (i := j) (own := own) (g := L2.gTup X.K n (gNames (own.map (·.2)))) (wi := tI X.K ca W gi) (tt := tT X.K ca W0 gt) (te := tG X.K ca W0 ge) hc hN hy hyl hsw hi ok hg ht he hs) fun D σ H ⟨ι, ρ, s, hr, hm, h⟩ => by
    have h2 : tG X.K ca W (gLc (own.map (·.2)) gi (dTup n (dsNames (own.map (·.2)))) gt ge) σ H (fun v H1 => D.nx (σ.set j (some v)) H1) :=
      bindE famS hr hm h fun ι1 s1 d v H1 l1 hr1 hm1 rd h1 => h1 ι1 _ H1 .refl hm1 (hr1.set rd j)
    exact tG_lc (own := own.map (·.2)) (fun r rd e k => tup_ok r rd e k) h2
end
end J


set_option Elab.async false
set_option linter.all false
set_option maxRecDepth 100000
set_option maxHeartbeats 4000000
/-! J24: list(x), dict(d) as new mutable objects. -/
namespace J
open PySem PySem.Spec L2
section
variable {X : Cx} {ca : Ct} {W : WX} {e : Expr} {es : List Expr} {pos : Pos}
/-- a built-in that makes a new mutable object -/
def rCN (K : PySem.W.Frag) (ca : Ct) (f : S → List D → Option IO) : List V → Hp → VK → Prop := fun vs H Q => ∃ ι s ds u, Sim K ca ι s H ∧ Reps K ι H ds vs ∧ f s ds = some u ∧
  ∀ ι' v' H', Le ι H ι' H' → Sim K ca ι' (s ++ [u]) H' → Rep K ι' H' (.obj s.length) v' → Q v' H'
def gFN (f : S → List D → Option IO) (gr : GA) : GE := fun ρ s => (gr ρ s).bind fun ds s1 => match f s1 ds with
  | some u => .ok (.obj s1.length) (s1 ++ [u])
  | none => .no
theorem je_TyN {x : Str} {p : Pos} {id : String} {f : S → List D → Option IO} {gr : GA} (hc : CallR X (.type id) (rCN X.K ca f)) (hm : X.mg x = none) (hv : bootBuiltins x = some (.type id)) (ha : JA X ca W (e :: es) gr) (hg : Gl X x := by rfl) (hn : x ≠ "__name__" := by decide)
    (hdb : (x == ("__debug__" : Str)) = false := by decide) (he : starEach (e :: es) X.env = (false, eval e X.env) :: starEach es X.env := by rfl) (hpl : (backTo pos (starEach es X.env)).any (·.1) = false := by rfl) : JE X ca W (.Call (.Name x p) (e :: es) [] pos) (gFN f gr) :=
  PE.imp (pe_callTy hc hg hm hv ha hn hdb he hpl) fun σ H Q ⟨ι, ρ, s, hr, hm, h⟩ => by
    refine bindA famE hr hm h fun ι1 s1 ds vs H1 l1 hr1 hm1 rs h1 => ?_
    cases e : f s1 ds with
    | none => rw [e] at h1; exact h1.elim
    | some u => rw [e] at h1; exact ⟨ι1, s1, ds, u, hm1, rs, e, fun ι' v' H' l m r => h1 ι' v' H' l m r⟩
/-- list(x) -/
def fListN (s : S) : List D → Option IO
  | [.tup ds] => some (.lst ds)
  | [x] => (itemsL s x).map .lst
  | _ => none
theorem cn_list : CallR X (.type "list") (rCN X.K ca fListN) := by
  refine CallR.imp call_list_of fun vs H Q ⟨ι, s, ds, u, m, rs, hf, q⟩ => ?_
  cases rs with
  | nil => cases hf
  | @cons d _ v _ r rs =>
    cases rs with
    | cons _ _ => simp [fListN] at hf
    | nil =>
      have fin : ∀ {xs : List D} {vs : List V}, Reps X.K ι H xs vs → u = .lst xs → ∀ l, H l = none → Q (.ref l) (upd H l (.lst vs)) := fun {xs vs} h2 e p hp => by
        subst e
        obtain ⟨l, m'⟩ := m.alloc (o := .lst vs) (u := .lst xs) hp trivial fun l => ⟨vs, upd_same, h2.mono l⟩
        exact q _ _ _ l m' (.obj (by simp [← m.len]))
      have lists : ∀ {xs : List D}, itemsL s d = some xs → u = .lst xs → ∃ p ys, [v] = [V.ref p] ∧ (SqL X.K H p ys ∨ SqT X.K H p ys) ∧ ∀ l, H l = none → Q (.ref l) (upd H l (.lst ys)) := fun {xs} hi e => by
        obtain ⟨a, vs, rfl, h1, h2⟩ := m.items r hi
        exact ⟨_, _, rfl, .inl h1, fin h2 e⟩
      by_cases ht : ∃ xs, d = .tup xs
      · obtain ⟨xs, rfl⟩ := ht
        have hf : some (IO.lst xs) = some u := hf
        cases hf
        cases r with
        | tup h1 h2 => exact ⟨_, _, rfl, .inr h1.sq, fin h2 rfl⟩
      · have hf : (itemsL s d).map IO.lst = some u := by
          cases d <;> first | exact hf | exact absurd ⟨_, rfl⟩ ht
        cases e : itemsL s d with
        | none => rw [e] at hf; cases hf
        | some xs => rw [e] at hf; cases hf; exact lists e rfl
/-- dict(d) -/
def fDictN (s : S) : List D → Option IO
  | [x] => (dicOf s x).map .dic
  | _ => none
theorem call_dict_of : CallR X (.type "dict") (fun xs H Q => ∃ a kvs, xs = [.ref a] ∧ Rd H a (.dK kvs) ∧ ∀ p, H p = none → Q (.ref p) (upd H p (.dK kvs))) := by
  intro pins s σ H xs us Q I r ⟨a, kvs, ex, rd, q⟩
  subst ex
  rw [Vals.ref1 r]
  exact d_copyOf I rd fun p s' hp I' => ⟨.ref p, _, I', rfl, q p hp⟩
theorem cn_dict : CallR X (.type "dict") (rCN X.K ca fDictN) := by
  refine CallR.imp call_dict_of fun vs H Q ⟨ι, s, ds, u, m, rs, hf, q⟩ => ?_
  cases rs with
  | nil => cases hf
  | @cons d _ v _ r rs =>
    cases rs with
    | cons _ _ => cases hf
    | nil =>
      have hf : (dicOf s d).map IO.dic = some u := hf
      simp only [Option.map_eq_some_iff] at hf
      obtain ⟨kvs, hd, rfl⟩ := hf
      cases r with
      | @obj a n hn =>
        simp only [dicOf] at hd
        split at hd
        · rename_i kvs' e
          cases hd
          obtain ⟨ws, h1, h2⟩ := m.ob n a _ hn e
          refine ⟨a, ws, rfl, .of h1, fun p hp => ?_⟩
          obtain ⟨l, m'⟩ := m.alloc (o := .dK ws) (u := .dic kvs) hp trivial fun l => ⟨ws, upd_same, RepF.monoK l.toKe h2⟩
          exact q _ _ _ l m' (.obj (by simp [← m.len]))
        · cases hd
      | _ => cases hd
@[simp] theorem ap_FN (f : S → List D → Option IO) (gr : GA) (ρ : Env) (s : S) : gFN f gr ρ s = (gr ρ s).bd (fun ds s1 => match f s1 ds with
  | some u => .ok (.obj s1.length) (s1 ++ [u])
  | none => .no) .mk := id rfl
end
end J


set_option Elab.async false
set_option linter.all false
set_option maxRecDepth 100000
set_option maxHeartbeats 4000000
/-! J25: a comprehension with two fors. -/
namespace J
open PySem PySem.Spec PySem.W L2 PyProof.Rows
def lc2Loop (t : TD) (gt : GT) (gi1 : GA) (own1 : List Nat) (t1 : TD) (gt1 : GT) (ge : GE) (ρ : Env) : List D → S → R (List D)
  | [], s => .ok [] s
  | x :: xs, s => match t x ρ with
    | none => .no
    | some ρ1 => (noErr (gt ρ1 s)).bind fun b s1 => if b then (noErr (gi1 ρ1 s1)).bind fun ds1 s2 => (lcLoop t1 gt1 ge (wipeD own1 ρ1) ds1 s2).bind fun ys s3 => (lc2Loop t gt gi1 own1 t1 gt1 ge ρ xs s3).bind fun zs s4 => .ok (ys ++ zs) s4 else lc2Loop t gt gi1 own1 t1 gt1 ge ρ xs s1
def gLc2 (own : List Nat) (gi : GA) (t : TD) (gt : GT) (gi1 : GA) (own1 : List Nat) (t1 : TD) (gt1 : GT) (ge : GE) : GE := fun ρ s => (gi ρ s).bind fun ds s1 => (lc2Loop t gt gi1 own1 t1 gt1 ge (wipeD own ρ) ds s1).bind fun ys s2 => if fitL ys.length then .ok (.lst ys) s2 else .no
theorem lcLoop_calm {t : TD} {gt : GT} {ge : GE} {ρ : Env} : ∀ (ds : List D) (s : S) x s1, lcLoop t gt ge ρ ds s ≠ .err x s1
  | [], s, x, s1 => by simp [lcLoop]
  | d :: ds, s, x, s1 => by
    intro h
    unfold lcLoop at h
    cases e : t d ρ with
    | none => rw [e] at h; cases h
    | some ρ1 =>
      rw [e] at h
      simp only at h
      cases e1 : gt ρ1 s with
      | err y s2 => rw [e1] at h; cases h
      | no => rw [e1] at h; cases h
      | ok b s2 =>
        rw [e1] at h
        simp only [noErr, R.bind_ok] at h
        cases b with
        | false => exact lcLoop_calm ds s2 x s1 h
        | true =>
          simp only [if_true] at h
          cases e2 : ge ρ1 s2 with
          | err y s3 => rw [e2] at h; cases h
          | no => rw [e2] at h; cases h
          | ok y s3 =>
            rw [e2] at h
            simp only [R.bind_ok] at h
            cases e3 : lcLoop t gt ge ρ ds s3 with
            | err z s4 => exact lcLoop_calm ds s3 z s4 e3
            | no => rw [e3] at h; cases h
            | ok zs s4 => rw [e3] at h; cases h
def finL (acc : List D) : List D → S → R D := fun ys s => if fitL (acc ++ ys).length then .ok (.lst (acc ++ ys)) s else .no
theorem lc2_calm {t : TD} {gt : GT} {gi1 : GA} {own1 : List Nat} {t1 : TD} {gt1 : GT} {ge : GE} {ρ : Env} : ∀ (ds : List D) (s : S) x s1, lc2Loop t gt gi1 own1 t1 gt1 ge ρ ds s ≠ .err x s1
  | [], s, x, s1 => by simp [lc2Loop]
  | d :: ds, s, x, s1 => by
    intro h
    unfold lc2Loop at h
    cases e : t d ρ with
    | none => rw [e] at h; cases h
    | some ρ1 =>
      rw [e] at h
      simp only at h
      cases e1 : gt ρ1 s with
      | err y s2 => rw [e1] at h; cases h
      | no => rw [e1] at h; cases h
      | ok b s2 =>
        rw [e1] at h
        simp only [noErr, R.bind_ok] at h
        cases b with
        | false => exact lc2_calm ds s2 x s1 h
        | true =>
          simp only [if_true] at h
          cases e2 : gi1 ρ1 s2 with
          | err y s3 => rw [e2] at h; cases h
          | no => rw [e2] at h; cases h
          | ok ds1 s3 =>
            rw [e2] at h
            simp only [R.bind_ok] at h
            cases e4 : lcLoop t1 gt1 ge (wipeD own1 ρ1) ds1 s3 with
            | err z s4 => exact lcLoop_calm ds1 s3 z s4 e4
            | no => rw [e4] at h; cases h
            | ok ys s4 =>
              rw [e4] at h
              simp only [R.bind_ok] at h
              cases e3 : lc2Loop t gt gi1 own1 t1 gt1 ge ρ ds s4 with
              | err z s5 => exact lc2_calm ds s4 z s5 e3
              | no => rw [e3] at h; cases h
              | ok zs s5 => rw [e3] at h; cases h
theorem RelS.monoK {K : PySem.W.Frag} {ι ι' : Wd} {H H' : Hp} {ρ : Env} {σ : L2.St} (r : RelS K ι H ρ σ) (l : Ke ι H ι' H') : RelS K ι' H' ρ σ := ⟨r.len, fun i d h => let ⟨v, a, b⟩ := r.at_ i d h; ⟨v, a, b.monoK l⟩⟩
/-- what is walked stands whatever is stored -/
def PostIS (K : PySem.W.Frag) (ca : Ct) (ι : Wd) (H : Hp) (r : R (List D)) (Q : It → Hp → Prop) (E : XK) : Prop := match r with
  | .ok ds s' => ∀ ι' J H', Le ι H ι' H' → Sim K ca ι' s' H' → (∀ ι2 H2, ItJ K ι2 H2 J ds) → Q J H'
  | .err e s' => ∀ ι' cv dd H', Le ι H ι' H' → Sim K ca ι' s' H' → RepX K ca ι' H' e cv dd → E cv dd H'
  | .no => False
theorem famIS {K : PySem.W.Frag} {E : XK} {Q : It → Hp → Prop} : Fam K ca E (fun ι H r => PostIS K ca ι H r Q E) := ⟨fun {ι H ι' H' r} h l => by
  cases r with
  | ok d s => exact fun ι2 v H2 l2 m q => h ι2 v H2 (l.trans l2) m q
  | err e s => exact fun ι2 cv dd H2 l2 m q => h ι2 cv dd H2 (l.trans l2) m q
  | no => exact h, fun h => h, fun h => h⟩
def tIS (K : PySem.W.Frag) (ca : Ct) (W : WX) (g : GA) : TI := fun σ H R => ∃ ι ρ s, RelS K ι H ρ σ ∧ Sim K ca ι s H ∧ PostIS K ca ι H (g ρ s) R (fun cv dd H' => W cv dd σ H')
def JIS (X : Cx) (ca : Ct) (W : WX) (tg e : Expr) (g : GA) : Prop := PI X tg e (tIS X.K ca W g)
theorem jis_range1 {X : Cx} {ca : Ct} {W : WX} {tg : Expr} {pos : Pos} {a : Expr} {gr : GA} {p : Pos} (hm : X.mg "range" = none) (ha : JA X ca W [a] gr) (hg : Gl X "range" := by rfl) (hs : starEach [a] X.env = [(false, eval a X.env)] := by rfl) : JIS X ca W tg (.Call (.Name "range" p) [a] [] pos) (gRange1 gr) := by
  refine PI.imp (pi_range1 hg hm ha hs) fun σ H R ⟨ι, ρ, s, hr, hm, h⟩ => bindA famIS hr hm h fun ι1 s1 ds vs H1 l1 hr1 hm1 rs h1 => ?_
  split at h1
  · split at h1
    · rename_i hk
      cases rs with
      | cons r1 rs =>
        cases rs
        cases r1
        simp only [okR, Bool.and_eq_true, decide_eq_true_eq] at hk
        refine ⟨_, rfl, hk.1, hk.2, h1 ι1 _ H1 .refl hm1 fun ι2 H2 => ?_⟩
        have := itJ_range (K := X.K) (ι := ι2) (H := H2) (lo := 0) (hi := ‹Int›)
        rwa [Int.sub_zero] at this
    · exact h1.elim
  · exact h1.elim
theorem jis_range2 {X : Cx} {ca : Ct} {W : WX} {tg : Expr} {pos : Pos} {a c : Expr} {gr : GA} {p : Pos} (hm : X.mg "range" = none) (ha : JA X ca W [a, c] gr) (hg : Gl X "range" := by rfl) (hs : starEach [a, c] X.env = [(false, eval a X.env), (false, eval c X.env)] := by rfl) (hs2 : starEach [c] X.env = [(false, eval c X.env)] := by rfl) :
    JIS X ca W tg (.Call (.Name "range" p) [a, c] [] pos) (gRange2 gr) := by
  refine PI.imp (pi_range2 hg hm ha hs hs2) fun σ H R ⟨ι, ρ, s, hr, hm, h⟩ => bindA famIS hr hm h fun ι1 s1 ds vs H1 l1 hr1 hm1 rs h1 => ?_
  split at h1
  · split at h1
    · rename_i hk
      cases rs with
      | cons r1 rs =>
        cases rs with
        | cons r2 rs =>
          cases rs
          cases r1
          cases r2
          simp only [okR, Bool.and_eq_true, decide_eq_true_eq] at hk
          exact ⟨_, _, rfl, ⟨hk.1.1, hk.1.2, hk.2.1, hk.2.2⟩, h1 ι1 _ H1 .refl hm1 fun _ _ => itJ_range⟩
    · exact h1.elim
  · exact h1.elim
theorem tG_lc2 {ca : Ct} {K : PySem.W.Frag} {W : WX} {own own1 : List Nat} {gi gi1 : GA} {t t1 : TD} {gt gt1 : GT} {ge : GE} {tgt tgt1 : TG} {σ : L2.St} {H : Hp} {Q : VK}
    (to : ∀ {ι : Wd} {H : Hp} {ρ ρ' : Env} {σ : L2.St} {d : D} {v : V} {Q : L2.St → Hp → Prop}, RelS K ι H (wipeD own ρ) (wipe σ own) → Rep K ι H d v → t d (wipeD own ρ) = some ρ' → (∀ σ', RelS K ι H ρ' σ' → wipe σ' own = wipe σ own → Q σ' H) → tgt v (wipe σ own) H Q)
    (to1 : ∀ {ι : Wd} {H : Hp} {ρ ρ' : Env} {σ : L2.St} {d : D} {v : V} {Q : L2.St → Hp → Prop}, RelS K ι H (wipeD own1 ρ) (wipe σ own1) → Rep K ι H d v → t1 d (wipeD own1 ρ) = some ρ' → (∀ σ', RelS K ι H ρ' σ' → wipe σ' own1 = wipe σ own1 → Q σ' H) → tgt1 v (wipe σ own1) H Q)
    (h : tG K ca W (gLc2 own gi t gt gi1 own1 t1 gt1 ge) σ H Q) : tLc2 (tI K ca W gi) tgt (tT K ca W0 gt) (tIS K ca W0 gi1) tgt1 (tT K ca W0 gt1) (tG K ca W0 ge) own own1 σ H Q := by
  obtain ⟨ι, ρ, s, hr, hm, h⟩ := h
  refine ⟨ι, ρ, s, hr, hm, ?_⟩
  unfold gLc2 at h
  cases e : gi ρ s with
  | err x s1 => rw [e] at h; exact h
  | no => rw [e] at h; exact h
  | ok ds s1 =>
    rw [e] at h
    intro ι1 J H1 l1 hm1 it Da hDa
    simp only [R.bind_ok] at h
    obtain ⟨lo, mo⟩ := hm1.open (o := .lst []) hDa trivial
    have nι : Da ∉ ι1.ι := fun z => hm1.ne hDa (hm1.sub _ z)
    refine ⟨fun i m H' => m = ds.length - i ∧ ∃ ι' s' acc vs, Le ι1 H1 ι' H' ∧ Da ∈ ι'.M ∧ Da ∉ ι'.ι ∧ Sim K ca ι' s' H' ∧ H' Da = some (.lst vs) ∧ Reps K ι' H' acc vs ∧
      PostE K ca ι H ((lc2Loop t gt gi1 own1 t1 gt1 ge (wipeD own ρ) (ds.drop i) s').bind (finL acc)) Q (fun cv dd H' => W cv dd σ H'), ⟨_, rfl, ⟨ι1.ι, Da :: ι1.M⟩, s1, [], [], lo, List.mem_cons_self, nι, mo, upd_same, .nil, h⟩, ?_⟩
    rintro i m H' ⟨rfl, ι', s', acc, vs, l', hDM, hDι, hm', hD', hacc, h'⟩
    obtain ⟨i1, i2⟩ := it ι' H' l'
    have l0 := l1.trans l'
    by_cases hlt : i < ds.length
    · have hd : ds[i]? = some ds[i] := List.getElem?_eq_getElem hlt
      obtain ⟨g1, g2⟩ := i1 i _ hd
      refine .inr ⟨g1, fun H2 => ∃ ι' s' acc vs, Le ι1 H1 ι' H2 ∧ Da ∈ ι'.M ∧ Da ∉ ι'.ι ∧ Sim K ca ι' s' H2 ∧ H2 Da = some (.lst vs) ∧ Reps K ι' H2 acc vs ∧
        PostE K ca ι H ((lc2Loop t gt gi1 own1 t1 gt1 ge (wipeD own ρ) (ds.drop (i + 1)) s').bind (finL acc)) Q (fun cv dd H' => W cv dd σ H'), fun H2 w => ⟨_, by omega, rfl, w⟩, fun x H2 y => ?_⟩
      obtain ⟨rfl, rx⟩ := g2 x H2 y
      rw [List.drop_eq_getElem_cons hlt] at h'
      unfold lc2Loop at h'
      cases e2 : t ds[i] (wipeD own ρ) with
      | none => rw [e2] at h'; exact h'.elim
      | some ρ2 =>
        rw [e2] at h'
        simp only at h'
        refine to ((hr.mono l0).wipe own) rx e2 fun σ2 hr2 hw2 => ⟨hw2, ι', ρ2, s', hr2, hm', ?_⟩
        cases e3 : gt ρ2 s' with
        | err x s4 => rw [e3] at h'; exact h'.elim
        | no => rw [e3] at h'; exact h'.elim
        | ok k s4 =>
          rw [e3] at h'
          simp only [noErr, R.bind_ok] at h'
          intro ι3 H3 l3 m3
          have d3 := l3.stay _ _ hD' noTab_lst hDι
          cases k with
          | false =>
            rw [if_neg Bool.false_ne_true]
            simp only [Bool.false_eq_true, if_false] at h'
            exact ⟨ι3, s4, acc, vs, l'.trans l3, l3.sub _ hDM, d3.2, m3, d3.1, hacc.mono l3, h'⟩
          | true =>
            rw [if_pos rfl]
            simp only [if_true] at h'
            refine ⟨ι3, ρ2, s4, hr2.mono l3, m3, ?_⟩
            cases e4 : gi1 ρ2 s4 with
            | err x s5 => rw [e4] at h'; exact h'.elim
            | no => rw [e4] at h'; exact h'.elim
            | ok ds1 s5 =>
              rw [e4] at h'
              simp only [R.bind_ok, R.bind_assoc] at h'
              intro ι4 J1 H4 l4 m4 it1
              have d4 := l4.stay _ _ d3.1 noTab_lst d3.2
              refine ⟨fun j m H' => m = ds1.length - j ∧ ∃ ι' s' acc vs, RelS K ι' H' ρ2 σ2 ∧ Da ∈ ι'.M ∧ Da ∉ ι'.ι ∧ Le ι1 H1 ι' H' ∧ Sim K ca ι' s' H' ∧ H' Da = some (.lst vs) ∧ Reps K ι' H' acc vs ∧
                PostE K ca ι H ((lcLoop t1 gt1 ge (wipeD own1 ρ2) (ds1.drop j) s').bind fun ys s2 => (lc2Loop t gt gi1 own1 t1 gt1 ge (wipeD own ρ) (ds.drop (i + 1)) s2).bind fun zs s3 => finL acc (ys ++ zs) s3) Q (fun cv dd H' => W cv dd σ H'),
                ⟨_, rfl, ι4, s5, acc, vs, (hr2.mono l3).mono l4, l4.sub _ (l3.sub _ hDM), d4.2, (l'.trans l3).trans l4, m4, d4.1, (hacc.mono l3).mono l4, h'⟩, ?_⟩
              rintro j m H' ⟨rfl, ι', s', acc, vs, l5, hDM5, hDι5, l15, hm5, hD5, hacc5, h5⟩
              obtain ⟨j1, j2⟩ := it1 ι' H' ι' H' .refl
              by_cases hlt1 : j < ds1.length
              · have hd1 : ds1[j]? = some ds1[j] := List.getElem?_eq_getElem hlt1
                obtain ⟨k1, k2⟩ := j1 j _ hd1
                refine .inr ⟨k1, fun H2 => ∃ ι' s' acc vs, RelS K ι' H2 ρ2 σ2 ∧ Da ∈ ι'.M ∧ Da ∉ ι'.ι ∧ Le ι1 H1 ι' H2 ∧ Sim K ca ι' s' H2 ∧ H2 Da = some (.lst vs) ∧ Reps K ι' H2 acc vs ∧
                  PostE K ca ι H ((lcLoop t1 gt1 ge (wipeD own1 ρ2) (ds1.drop (j + 1)) s').bind fun ys s2 => (lc2Loop t gt gi1 own1 t1 gt1 ge (wipeD own ρ) (ds.drop (i + 1)) s2).bind fun zs s3 => finL acc (ys ++ zs) s3) Q (fun cv dd H' => W cv dd σ H'), fun H2 w => ⟨_, by omega, rfl, w⟩, fun x H2 y => ?_⟩
                obtain ⟨rfl, rx1⟩ := k2 x H2 y
                rw [List.drop_eq_getElem_cons hlt1] at h5
                unfold lcLoop at h5
                cases f2 : t1 ds1[j] (wipeD own1 ρ2) with
                | none => rw [f2] at h5; exact h5.elim
                | some ρ3 =>
                  rw [f2] at h5
                  simp only at h5
                  refine to1 (l5.wipe own1) rx1 f2 fun σ3 hr3 hw3 => ⟨hw3, ι', ρ3, s', hr3, hm5, ?_⟩
                  cases f3 : gt1 ρ3 s' with
                  | err x s6 => rw [f3] at h5; exact h5.elim
                  | no => rw [f3] at h5; exact h5.elim
                  | ok k s6 =>
                    rw [f3] at h5
                    simp only [noErr, R.bind_ok] at h5
                    intro ι6 H6 l6 m6
                    have d6 := l6.stay _ _ hD5 noTab_lst hDι5
                    cases k with
                    | false =>
                      rw [if_neg Bool.false_ne_true]
                      simp only [Bool.false_eq_true, if_false] at h5
                      exact ⟨ι6, s6, acc, vs, l5.mono l6, l6.sub _ hDM5, d6.2, l15.trans l6, m6, d6.1, hacc5.mono l6, h5⟩
                    | true =>
                      rw [if_pos rfl]
                      simp only [if_true] at h5
                      refine ⟨ι6, ρ3, s6, hr3.mono l6, m6, ?_⟩
                      cases f4 : ge ρ3 s6 with
                      | err x s7 => rw [f4] at h5; exact h5.elim
                      | no => rw [f4] at h5; exact h5.elim
                      | ok y s7 =>
                        rw [f4] at h5
                        simp only [R.bind_ok, R.bind_assoc] at h5
                        intro ι7 v7 H7 l7 m7 r7
                        have d7 := l7.stay _ _ d6.1 noTab_lst d6.2
                        obtain ⟨kf, mf⟩ := m7.fill (o := .lst (vs ++ [v7])) (l7.sub _ (l6.sub _ hDM5)) d7.2 trivial
                        have hv : vs.length = acc.length := (hacc5.length).symm
                        -- what is said of the rest
                        have h8 : acc.length < sizeLine ∧ PostE K ca ι H ((lcLoop t1 gt1 ge (wipeD own1 ρ2) (ds1.drop (j + 1)) s7).bind fun ys s2 => (lc2Loop t gt gi1 own1 t1 gt1 ge (wipeD own ρ) (ds.drop (i + 1)) s2).bind fun zs s3 => finL (acc ++ [y]) (ys ++ zs) s3) Q (fun cv dd H' => W cv dd σ H') := by
                          cases e5 : lcLoop t1 gt1 ge (wipeD own1 ρ2) (ds1.drop (j + 1)) s7 with
                          | err x s8 => exact absurd e5 (lcLoop_calm _ _ _ _)
                          | no => rw [e5] at h5; exact h5.elim
                          | ok ys s8 =>
                            rw [e5] at h5
                            simp only [R.bind_ok] at h5 ⊢
                            cases e6 : lc2Loop t gt gi1 own1 t1 gt1 ge (wipeD own ρ) (ds.drop (i + 1)) s8 with
                            | err x s9 => exact absurd e6 (lc2_calm _ _ _ _)
                            | no => rw [e6] at h5; exact h5.elim
                            | ok zs s9 =>
                              rw [e6] at h5
                              simp only [R.bind_ok] at h5 ⊢
                              have ea : acc ++ [y] ++ (ys ++ zs) = acc ++ (y :: ys ++ zs) := by simp
                              unfold finL at h5 ⊢
                              rw [ea]
                              refine ⟨?_, h5⟩
                              split at h5
                              · rename_i hfit
                                have := fitL_le hfit
                                simp only [List.length_append, List.length_cons] at this
                                omega
                              · exact h5.elim
                        refine ⟨vs, d7.1, by rw [hv]; exact h8.1, ι7, s7, acc ++ [y], vs ++ [v7], ((l5.mono l6).mono l7).monoK kf, l7.sub _ (l6.sub _ hDM5), d7.2, ((l15.trans l6).trans l7).updNone hDa, mf, upd_same, (Reps.monoK kf ((hacc5.mono l6).mono l7)).append (.cons (Rep.monoK kf r7) .nil), h8.2⟩
              · refine .inl ⟨j2 j (by omega), ι', s', acc, vs, l15, hDM5, hDι5, hm5, hD5, hacc5, ?_⟩
                rw [List.drop_eq_nil_of_le (by omega)] at h5
                simpa only [lcLoop, R.bind_ok, List.nil_append] using h5
    · refine .inl ⟨i2 i (by omega), ?_⟩
      rw [List.drop_eq_nil_of_le (by omega)] at h'
      simp only [lc2Loop, R.bind_ok, finL, List.append_nil] at h'
      split at h'
      · obtain ⟨ls, ms⟩ := hm'.shut (p := Da) hDι
        exact h' _ _ H' (l1.trans (l'.shutNone hDa (hm1.ne hDa))) ms (.lst hD' (fun z => by simpa using (List.mem_filter.mp z).2) (Reps.monoK ls hacc))
      · exact h'.elim

/-- [e for x in xs if t for y in range(..) if u] -/
theorem je_lc2 {X : Cx} {ca : Ct} {W : WX} {pos : Pos} {elt iter iter1 : Expr} {ifs ifs1 : List Expr} {scope : Scope} {i i1 : Nat} {x x1 : Str} {tpos tpos1 : Pos} {gi gi1 : GA} {gt gt1 : GT} {ge : GE} (hc : X.calm = true) (hN : X.N.Nodup) (hi : JI X ca W (.Name x tpos) iter gi) (ok : BlkOk X.N X.env.scope scope [(x, i), (x1, i1)])
    (hg : ∀ (s : Shared) (H : Hp) (C : Addr) (cl : List (Str × Addr)) (fp : List Addr), PG (X.blk s H scope (compEnvC scope cl C X.env) fp) (.Name x tpos) (gName i))
    (ht : ∀ (s : Shared) (H : Hp) (C : Addr) (cl : List (Str × Addr)) (fp : List Addr), JTs (X.blk s H scope (compEnvC scope cl C X.env) fp) ca W0 ifs gt)
    (hi1 : ∀ (s : Shared) (H : Hp) (C : Addr) (cl : List (Str × Addr)) (fp : List Addr), JIS (X.blk s H scope (compEnvC scope cl C X.env) fp) ca W0 (.Name x1 tpos1) iter1 gi1)
    (hg1 : ∀ (s : Shared) (H : Hp) (C : Addr) (cl : List (Str × Addr)) (fp : List Addr), PG (X.blk s H scope (compEnvC scope cl C X.env) fp) (.Name x1 tpos1) (gName i1))
    (ht1 : ∀ (s : Shared) (H : Hp) (C : Addr) (cl : List (Str × Addr)) (fp : List Addr), JTs (X.blk s H scope (compEnvC scope cl C X.env) fp) ca W0 ifs1 gt1)
    (he : ∀ (s : Shared) (H : Hp) (C : Addr) (cl : List (Str × Addr)) (fp : List Addr), JE (X.blk s H scope (compEnvC scope cl C X.env) fp) ca W0 elt ge) (hs : ∀ x, foldedSetIterable iter X.env x = pure x := by intro _; rfl) (hs1 : ∀ env x, foldedSetIterable iter1 env x = pure x := by intro _ _; rfl) :
    JE X ca W (.ListComp elt [⟨.Name x tpos, iter, ifs, 0⟩, ⟨.Name x1 tpos1, iter1, ifs1, 0⟩] scope pos) (gLc2 [i, i1] gi (dName i) gt gi1 [i1] (dName i1) gt1 ge) :=
  PE.imp (pe_lc2 (own := [(x, i), (x1, i1)]) (vs1 := [i1]) (g := gName i) (g1 := gName i1) (wi := tI X.K ca W gi) (wi1 := tIS X.K ca W0 gi1) (tt := tT X.K ca W0 gt) (tt1 := tT X.K ca W0 gt1) (te := tG X.K ca W0 ge) hc hN hi ok (by simp) hg ht hi1 hg1 ht1 he hs hs1) fun σ H Q h => tG_lc2 (own := [i, i1]) (own1 := [i1]) (fun {ι H ρ ρ' σ d v Q} r rd e k => by
    cases e
    refine k _ (r.set rd i) ?_
    refine List.ext_getElem? fun j => ?_
    simp only [wipe, List.foldl_cons, List.foldl_nil, List.foldr_cons, List.foldr_nil, List.getElem?_set, List.length_set]
    by_cases h1 : i = j
    · by_cases h2 : i1 = j <;> simp [h1, h2]
    · by_cases h2 : i1 = j <;> simp [h1, h2]) (fun {ι H ρ ρ' σ d v Q} r rd e k => by
    cases e
    refine k _ (r.set rd i1) ?_
    show ((σ.set i1 none).set i1 (some v)).set i1 none = (σ.set i1 none)
    rw [List.set_set, List.set_set]) h
end J


set_option Elab.async false
set_option linter.all false
set_option maxRecDepth 100000
set_option maxHeartbeats 4000000
/-! J26: tuple * 0 and tuple * 1; tuples of ints compared. -/
namespace J
open PySem PySem.Spec PySem.W L2 PyProof.Rows
theorem tuple_mul0 (l : Addr) (items : Array Value) (n : Nat) (dd : Option Addr) (sl : Array (Option Value)) (u : Tok) (c1 : (items.isEmpty || (0 : Int) == 1) = false) :
    Meets (Builtin.«tuple.__mul__» ⟨[.ref l, .int 0 u], []⟩) (fun _ R s => s.heap.get? l = some { cls := .type "tuple", dict := dd, data := .seq items n, slots := sl } ∧
      R (.ok (.ret (Value.ref s.heap.objs.size))) { s with heap := s.heap.push { cls := Value.type "tuple", data := Data.seq #[] }, toks := s.toks }) :=
  .of_wp fun prog w A R s h => by
    obtain ⟨hp, g, d, tk, os⟩ := s
    obtain ⟨hl, h⟩ := h
    have f1 := AutoSeq1.idx_int
    wp_walk using wpAny_loadPart' hl
    repeat (first
      | (refine wpAny_ite_false (decide_eq_false (by decide)) ?_; wp_walk using wpAny_loadPart' hl)
      | (refine wpAny_ite_false (decide_eq_false (by rw [c1]; exact Bool.false_ne_true)) ?_; wp_walk using wpAny_loadPart' hl)
      | (refine wpAny_ite_true (decide_eq_true (by decide)) ?_; wp_walk using wpAny_loadPart' hl)
      | (refine wpAny_ite_true (decide_eq_true (by simp)) ?_; wp_walk using wpAny_loadPart' hl))
    exact ⟨_, rfl, h⟩
theorem tuple_mul1 (l : Addr) (items : Array Value) (n : Nat) (dd : Option Addr) (sl : Array (Option Value)) (u : Tok) :
    Meets (Builtin.«tuple.__mul__» ⟨[.ref l, .int 1 u], []⟩) (fun _ R s => s.heap.get? l = some { cls := .type "tuple", dict := dd, data := .seq items n, slots := sl } ∧ R (.ok (.ret (Value.ref l))) s) :=
  .of_wp fun prog w A R s h => by
    obtain ⟨hp, g, d, tk, os⟩ := s
    obtain ⟨hl, h⟩ := h
    have f1 := AutoSeq1.idx_int
    wp_walk using wpAny_loadPart' hl
    repeat (first
      | (refine wpAny_ite_false (decide_eq_false (by decide)) ?_; wp_walk using wpAny_loadPart' hl)
      | (refine wpAny_ite_true (decide_eq_true (by simp)) ?_; wp_walk using wpAny_loadPart' hl)
      | (refine wpAny_ite_true (by decide) ?_; wp_walk using wpAny_loadPart' hl))
    exact ⟨_, rfl, h⟩
def rRepS (K : PySem.W.Frag) : R2 := fun x y H Q => ∃ l xs, x = .ref l ∧ SqT K H l xs ∧ xs ≠ [] ∧ ((y = .int 1 ∧ Q (.ref l) H) ∨ (y = .int 0 ∧ ∀ p, H p = none → Q (.ref p) (upd H p (.tup []))))
theorem op_repS {X : Cx} : OpR X (binaryOp .Mult) (rRepS X.K) := by
  intro pins s σ H x y v u Q I rx ry h
  obtain ⟨l, xs, rfl, hT, hne, h⟩ := h
  cases rx
  obtain ⟨its, r, ⟨⟨cls, dd, data, sl⟩, ho, hc, n, hd⟩, hs⟩ := I.tuple hT
  simp only at hc hd
  subst hc hd
  have hle : its.length = xs.length := r.length.symm
  have hn : its ≠ [] := fun e => hne (by
    rw [e] at hle
    exact List.eq_nil_of_length_eq_zero hle.symm)
  have hi : its.toArray.isEmpty = false := by
    cases its with
    | nil => exact absurd rfl hn
    | cons a b => rfl
  rcases h with ⟨rfl, q⟩ | ⟨rfl, q⟩
  · obtain ⟨t, rfl⟩ := ry
    refine wpAny_binaryOp_repeat_ref (T := "tuple") (U := "int") (by decide) ⟨_, ho, rfl⟩ (fun s' => typeIs_int s' 1 t) noFill_tuple_mul F.fills_int_mul F.slot_int_rmul repeat_tuple F.slot_int_index.lookup
      (call_meets F.slot_int_rmul (typeIs_int s 1 t) F.entry_int_rmul (F.args_int_rmul_2 _ _) (int_rmul_tuple 1 t l its.toArray n dd sl)
        ⟨ho, rfl, ⟨_, ho, rfl⟩, call_meets F.slot_tuple_mul ⟨_, ho, rfl⟩ F.entry_tuple_mul (F.args_tuple_mul_2 _ _) (tuple_mul1 l its.toArray n dd sl t) ⟨ho, ?_⟩⟩)
    exact ⟨.ref l, H, I, rfl, q⟩
  · obtain ⟨t, rfl⟩ := ry
    refine wpAny_binaryOp_repeat_ref (T := "tuple") (U := "int") (by decide) ⟨_, ho, rfl⟩ (fun s' => typeIs_int s' 0 t) noFill_tuple_mul F.fills_int_mul F.slot_int_rmul repeat_tuple F.slot_int_index.lookup
      (call_meets F.slot_int_rmul (typeIs_int s 0 t) F.entry_int_rmul (F.args_int_rmul_2 _ _) (int_rmul_tuple 0 t l its.toArray n dd sl)
        ⟨ho, rfl, ⟨_, ho, rfl⟩, call_meets F.slot_tuple_mul ⟨_, ho, rfl⟩ F.entry_tuple_mul (F.args_tuple_mul_2 _ _) (tuple_mul0 l its.toArray n dd sl t (by rw [hi]; rfl)) ⟨ho, ?_⟩⟩)
    refine ⟨.ref s.heap.objs.size, _, I.laid (t' := s.toks) (o := .tup []) (fun b ob q => Heap.get?_push_of_some _ q) (Nat.le_refl _) ?_, rfl, q _ (I.hok.fresh (Nat.le_refl _))⟩
    exact ⟨by simp, _, .nil, IsTup.new _ _⟩
/-- t * 0 and t * 1 -/
def fMulS (_ : S) : D → D → Option D
  | .tup x, .int j => if x.isEmpty then none else if j = 1 then some (.tup x) else if j = 0 then some (.tup []) else none
  | _, _ => none
theorem oj_mulS {X : Cx} {ca : Ct} : OpR X (binaryOp .Mult) (rJ X.K ca fMulS) := by
  refine OpR.imp op_repS fun v u H Q ⟨ι, s, d, e, x, m, rd, re, hf, q⟩ => ?_
  cases rd <;> cases re <;> simp only [fMulS] at hf <;> first | cases hf | skip
  rename_i a vs ds h1 h2 j _
  cases ds with
  | nil => simp at hf
  | cons d ds =>
    simp only [List.isEmpty_cons, Bool.false_eq_true, if_false] at hf
    have hne : vs ≠ [] := fun e => by subst e; cases h2
    by_cases j1 : j = 1
    · rw [if_pos j1] at hf; cases hf
      exact ⟨a, vs, rfl, h1.sq, hne, .inl ⟨by rw [j1], q _ _ _ .refl m (.tup h1 h2)⟩⟩
    · rw [if_neg j1] at hf
      by_cases j0 : j = 0
      · rw [if_pos j0] at hf; cases hf
        refine ⟨a, vs, rfl, h1.sq, hne, .inr ⟨by rw [j0], fun p hp => ?_⟩⟩
        obtain ⟨l, m'⟩ := m.new (o := .tup []) hp
        exact q _ _ _ l m' (.tup (.inl upd_same) .nil)
      · rw [if_neg j0] at hf; cases hf
def intsT : List D → Option (List Int)
  | [] => some []
  | .int i :: ds => (intsT ds).map (i :: ·)
  | _ :: _ => none
theorem intsT_vals {K : PySem.W.Frag} {ι : Wd} {H : Hp} : ∀ {ds : List D} {vs : List V} {is : List Int}, Reps K ι H ds vs → intsT ds = some is → vs = is.map V.int
  | _, _, _, .nil, h => by cases h; rfl
  | _, _, _, .cons r t, h => by
    cases r <;> simp only [intsT] at h <;> first | cases h | skip
    simp only [Option.map_eq_some_iff] at h
    obtain ⟨is, h1, rfl⟩ := h
    rw [intsT_vals t h1]; rfl
/-- t < u, tuples of ints -/
def fLtT (_ : S) : D → D → Option D
  | .tup x, .tup y => match intsT x, intsT y with
    | some a, some b => some (.bl (HT.lexLt a b))
    | _, _ => none
  | _, _ => none
theorem oj_ltT {X : Cx} {ca : Ct} (hu : X.A.units < cLine) : OpR X (compareOp .Lt) (rJ X.K ca fLtT) := by
  refine OpR.imp (op_ltT hu) fun v u H Q ⟨ι, s, d, e, x, m, rd, re, hf, q⟩ => ?_
  cases rd <;> cases re <;> simp only [fLtT] at hf <;> first | cases hf | skip
  rename_i a vs ds h1 h2 b ws es h3 h4 _
  cases e1 : intsT ds with
  | none => rw [e1] at hf; cases hf
  | some is =>
    cases e2 : intsT es with
    | none => rw [e1, e2] at hf; cases hf
    | some js =>
      rw [e1, e2] at hf
      cases hf
      have v1 := intsT_vals h2 e1
      have v2 := intsT_vals h4 e2
      subst v1 v2
      exact ⟨a, b, is, js, rfl, rfl, h1.sq, h3.sq, q _ _ _ .refl m (.bl _)⟩
theorem Room.u0 {k : Nat} {A : Around} (r : Room k A) : A.units < cLine := by have := r.un; omega
end J


set_option Elab.async false
set_option linter.all false
set_option maxRecDepth 100000
set_option maxHeartbeats 4000000
/-! J27: dict(list of pairs) as a new mutable object. -/
namespace J
open PySem PySem.Spec L2
def pairsD : List D → Option (List (Key × D))
  | [] => some []
  | .tup [.str k, v] :: ds => (pairsD ds).map ((.inr k, v) :: ·)
  | _ :: _ => none
/-- dict(ps) -/
def fDictP (_ : S) : List D → Option IO
  | [.lst ps] => (pairsD ps).map fun kvs => .dic (mergeD kvs)
  | _ => none
theorem pairs_reps {K : PySem.W.Frag} {ι : Wd} {H : Hp} : ∀ {ds : List D} {vs : List V} {kvs : List (Key × D)}, Reps K ι H ds vs → pairsD ds = some kvs →
    ∃ (ps : List Addr) (ws : List (Key × V)), vs = ps.map V.ref ∧ Paired (fun p kv => SqT K H p [kV kv.1, kv.2]) ps ws ∧ RepF K ι H kvs ws
  | _, _, _, .nil, h => by cases h; exact ⟨[], [], rfl, .nil, .nil⟩
  | _, _, _, .cons r t, h => by
    unfold pairsD at h
    split at h
    · rename_i e; cases e
    · rename_i k x ds' e
      cases e
      simp only [Option.map_eq_some_iff] at h
      obtain ⟨kvs, h1, rfl⟩ := h
      obtain ⟨ps, ws, rfl, q1, q2⟩ := pairs_reps t h1
      cases r with
      | @tup a vs _ h2 h3 =>
        cases h3 with
        | cons r1 t1 =>
          cases t1 with
          | cons r2 t2 =>
            cases t2
            cases r1
            exact ⟨a :: ps, (.inr k, _) :: ws, rfl, .cons h2.sq q1, .cons ⟨rfl, r2⟩ q2⟩
    · cases h
section
variable {X : Cx} {ca : Ct}
theorem cn_dictP (hc : X.calm = true) : CallR X (.type "dict") (rCN X.K ca fDictP) := by
  refine CallR.imp (call_dictP hc) fun vs H Q ⟨ι, s, ds, u, m, rs, hf, q⟩ => ?_
  cases rs with
  | nil => cases hf
  | @cons d _ v _ r rs =>
    cases rs with
    | cons _ _ => cases d <;> simp [fDictP] at hf
    | nil =>
      cases r <;> simp only [fDictP] at hf <;> first | cases hf | skip
      rename_i a vs ds h1 n1 h2 _
      simp only [Option.map_eq_some_iff] at hf
      obtain ⟨kvs, hk, rfl⟩ := hf
      obtain ⟨ps, ws, rfl, q1, q2⟩ := pairs_reps h2 hk
      refine ⟨a, ps, ws, rfl, .of h1, q1, fun p hp => ?_⟩
      obtain ⟨l, m'⟩ := m.alloc (o := .dK (mergeK [] ws)) (u := .dic (mergeD kvs)) hp trivial fun l => ⟨_, upd_same, RepF.monoK l.toKe (RepF.merge q2 .nil)⟩
      exact q _ _ _ l m' (.obj (by simp [← m.len]))
end
/-! ### d.pop(k, x) -/
def dropKD (kvs : List (Key × D)) (k : Key) : List (Key × D) := kvs.filter fun kv => decide (kv.1 ≠ k)
theorem RepF.drop {K : PySem.W.Frag} {ι : Wd} {H : Hp} {k : Key} : ∀ {xs : List (Key × D)} {ys : List (Key × V)}, RepF K ι H xs ys → RepF K ι H (dropKD xs k) (dropK ys k)
  | [], [], .nil => .nil
  | x :: xs, y :: ys, .cons h t => by
    have ih := RepF.drop (k := k) t
    obtain ⟨h1, h2⟩ := h
    unfold dropKD dropK at ih ⊢
    by_cases e : x.1 = k
    · rw [List.filter_cons_of_neg (by simp [e]), List.filter_cons_of_neg (by simp [← h1, e])]; exact ih
    · rw [List.filter_cons_of_pos (by simp [e]), List.filter_cons_of_pos (by simp [← h1, e])]; exact .cons ⟨h1, h2⟩ ih
def gDPop2 (go gi gx : GE) : GE := fun ρ s => (go ρ s).bind fun d s1 => match dicOf s1 d with
  | some _ => (gi ρ s1).bind fun y s2 => (gx ρ s2).bind fun x s3 => match d with
    | .obj n => (match dicOf s3 (.obj n), keyD y with
      | some kvs, some k => (match valD kvs k with
        | some v => .ok v (s3.set n (.dic (dropKD kvs k)))
        | none => .ok x s3)
      | _, _ => .no)
    | _ => .no
  | none => .no
section
variable {X : Cx} {ca : Ct} {W : WX} {o e f : Expr} {apos cpos : Pos} {go gi gx : GE}
theorem je_dpop2 (ho : JE X ca W o go) (he : JE X ca W e gi) (hf : JE X ca W f gx) (m : M2 X o "pop" apos e f cpos := by exact ⟨rfl, rfl, rfl, rfl⟩) : JE X ca W (.Call (.Attribute o "pop" apos) [e, f] [] cpos) (gDPop2 go gi gx) :=
  PE.imp (pe_dpop2 ho he hf m) fun σ H Q ⟨ι, ρ, s, hrs, hm, h⟩ => bindE famE hrs hm h fun ι1 s1 d v H1 l1 hr1 hm1 rd h1 => by
    split at h1
    · rename_i kvs0 e0
      obtain ⟨n0, a, ws0, rfl, rfl, hn0, h2, _⟩ := dicOf_at hm1 rd e0
      refine ⟨a, rfl, .inl ⟨ws0, .inl h2⟩, bindE famE hr1 hm1 h1 fun ι2 s2 y u H2 l2 hr2 hm2 ry h3 => bindE famE hr2 hm2 h3 fun ι3 s3 x w H3 l3 hr3 hm3 rx h4 => ?_⟩
      simp only at h4
      split at h4
      · rename_i kvs k e1 e2
        obtain ⟨n, a', ws, e, e', hn, h5, h6⟩ := dicOf_at hm3 ((rd.mono l2).mono l3) e1
        cases e'
        cases e
        have hk := keyD_rep ry e2
        subst hk
        refine ⟨ws, k, h5, rfl, fun z hz => ?_, fun hz => ?_⟩
        · cases e3 : valD kvs k with
          | none => rw [(h6.val (k := k)).2 e3] at hz; cases hz
          | some d' =>
            obtain ⟨z', h7, h8⟩ := (h6.val (k := k)).1 d' e3
            rw [h7] at hz; cases hz
            rw [e3] at h4
            obtain ⟨l, m'⟩ := hm3.write (o := .dK (dropK ws k)) (u := .dic (dropKD kvs k)) hn trivial fun l => ⟨_, upd_same, RepF.drop (h6.mono l)⟩
            exact h4 _ _ _ l m' (h8.mono l)
        · cases e3 : valD kvs k with
          | none => rw [e3] at h4; exact h4 _ _ _ .refl hm3 rx
          | some d' =>
            obtain ⟨z', h7, h8⟩ := (h6.val (k := k)).1 d' e3
            rw [h7] at hz; cases hz
      · exact h4.elim
    · exact h1.elim
end
/-! ### k in d -/
def gDIn (gi go : GE) : GE := fun ρ s => (gi ρ s).bind fun y s1 => (go ρ s1).bind fun d s2 => match dicOf s2 d, keyD y with
  | some kvs, some k => .ok (.bl (valD kvs k).isSome) s2
  | _, _ => .no
section
variable {X : Cx} {ca : Ct} {W : WX} {o i : Expr} {pos : Pos} {go gi : GE}
theorem tG_din {σ : L2.St} {H : Hp} {Q : VK} (h : tG X.K ca W (gDIn gi go) σ H Q) : tDIn (tG X.K ca W gi) (tG X.K ca W go) σ H Q := by
  obtain ⟨ι, ρ, s, hrs, hm, h⟩ := h
  refine bindE famE hrs hm h fun ι1 s1 y u H1 l1 hr1 hm1 ry h1 => bindE famE hr1 hm1 h1 fun ι2 s2 d v H2 l2 hr2 hm2 rd h2 => ?_
  split at h2
  · rename_i kvs k e1 e2
    obtain ⟨n, a, ws, rfl, rfl, hn, h5, h6⟩ := dicOf_at hm2 rd e1
    have hk := keyD_rep (ry.mono l2) e2
    subst hk
    refine ⟨a, valV ws k, rfl, DGet.k h5, ?_⟩
    cases e3 : valD kvs k with
    | none =>
      rw [(h6.val (k := k)).2 e3]
      rw [e3] at h2
      exact h2 _ _ _ .refl hm2 (.bl _)
    | some d' =>
      obtain ⟨z, h7, h8⟩ := (h6.val (k := k)).1 d' e3
      rw [h7]
      rw [e3] at h2
      exact h2 _ _ _ .refl hm2 (.bl _)
  · exact h2.elim
theorem jt_din {j : Nat} (hr : Room j X.A) (hi : JE X ca W i gi) (ho : JE X ca W o go) (hm : behindInMarks .In o = false := by first | exact nomark _ | rfl) : JT X ca W (.Compare i [.In] [o] pos) (gB (gDIn gi go)) := by
  refine PT.imp (pt_cmp (pc_din (hu_of hr) hi ho) hm) fun σ H Q h => ?_
  exact tG_din (tT_gB h)
end
/-! ### sorted(d), text keys -/
def textKs : List (Key × D) → Option (List Str)
  | [] => some []
  | (.inr x, _) :: r => (textKs r).map (x :: ·)
  | _ :: _ => none
theorem textKs_ws {K : PySem.W.Frag} {ι : Wd} {H : Hp} : ∀ {xs : List (Key × D)} {ys : List (Key × V)} {ks : List Str}, RepF K ι H xs ys → textKs xs = some ks → ys.map (·.1) = ks.map Sum.inr
  | [], [], _, .nil, h => by cases h; rfl
  | (.inr x, d) :: xs, y :: ys, ks, .cons h t, e => by
    simp only [textKs, Option.map_eq_some_iff] at e
    obtain ⟨ks', e1, rfl⟩ := e
    have ih := textKs_ws t e1
    obtain ⟨h1, _⟩ := h
    rw [List.map_cons, List.map_cons, ih, ← h1]
  | (.inl x, d) :: xs, y :: ys, ks, .cons h t, e => by cases e
def fSortDk (s : S) (d : D) : Option D := (dicOf s d).bind fun kvs => (textKs kvs).bind fun ks => if decide (ks.length < 64) && decide ks.Nodup then some (.lst ((JSet.sortU ks).map D.str)) else none
theorem cj_sortDk {X : Cx} {ca : Ct} (hc : X.calm = true) : CallR X (.builtin "sorted") (rCJ X.K ca (f1 fSortDk)) := by
  refine cj1 (call_sortedD hc) fun ι s H d v x Q m r hf q => ?_
  simp only [fSortDk, Option.bind_eq_some_iff] at hf
  obtain ⟨kvs, e1, ks, e2, hf⟩ := hf
  split at hf
  · rename_i hb
    cases hf
    simp only [Bool.and_eq_true, decide_eq_true_eq] at hb
    obtain ⟨n, a, ws, rfl, rfl, hn, h1, h2⟩ := dicOf_at m r e1
    refine ⟨a, ws, ks, rfl, .inl h1, textKs_ws h2 e2, hb.1, fun ys p y1 y2 hp => ?_⟩
    have ey : ys = JSet.sortU ks := JSet.up_eq (JSet.up_of y2 (y1.symm.nodup hb.2)) (JSet.up_sortU ks) fun z => y1.mem_iff.trans (JSet.mem_sortU z ks).symm
    subst ey
    obtain ⟨l, m'⟩ := m.new (o := .lst ((JSet.sortU ks).map V.str)) hp
    exact q _ _ _ l m' (.lst upd_same (m.ne hp) (reps_strs _))
  · cases hf
end J


set_option Elab.async false
set_option linter.all false
set_option maxRecDepth 100000
set_option maxHeartbeats 4000000
/-! J37: what a call has made and nobody holds is forgotten. -/
namespace J
open PySem PySem.Spec L2
mutual
/-- all objects by number in it come before n -/
def closedD (n : Nat) : D → Bool
  | .obj k => Nat.blt k n
  | .tup ds => closedL n ds
  | .lst ds => closedL n ds
  | .frz ds => closedL n ds
  | _ => true
def closedL (n : Nat) : List D → Bool
  | [] => true
  | d :: ds => closedD n d && closedL n ds
end
def closedO (n : Nat) : IO → Bool
  | .lst ds => closedL n ds
  | .dic kvs => kvs.all fun p => closedD n p.2
  | .ins _ fs => fs.all fun p => closedD n p.2
  | .dcd kvs => kvs.all fun p => closedD n p.1 && closedD n p.2
  | .lam _ => true
def closedS (n : Nat) (s : S) : Bool := s.all (closedO n)
/-- the objects that a call has made are forgotten -/
def gFor (g : GE) : GE := fun ρ s => match g ρ s with
  | .ok d s' => if closedD s.length d && closedS s.length (s'.take s.length) && Nat.ble s.length s'.length then .ok d (s'.take s.length) else .no
  | .err e s' => .err e s'
  | .no => .no
section
variable {K : PySem.W.Frag} {ca : Ct} {ι : Wd} {H : Hp} {n : Nat}
mutual
theorem Rep.fg : ∀ {d : D} {v : V}, closedD n d = true → Rep K ι H d v → Rep K ⟨ι.ι.take n, ι.M⟩ H d v
  | _, _, _, .non => .non
  | _, _, _, .bl b => .bl b
  | _, _, _, .int i => .int i
  | _, _, _, .str x => .str x
  | _, _, _, .ty n => .ty n
  | _, _, h, .tup a r => .tup a (Reps.fg (by simpa [closedD] using h) r)
  | _, _, h, .lst a m r => .lst a m (Reps.fg (by simpa [closedD] using h) r)
  | _, _, h, .frz a r => .frz a (Reps.fg (by simpa [closedD] using h) r)
  | _, _, h, .frz2 a m r => .frz2 a m (Reps.fg (by simpa [closedD] using h) r)
  | _, _, h, .obj e => .obj (by
      have hk : _ < n := Nat.blt_eq.mp (by simpa [closedD] using h)
      rw [List.getElem?_take_of_lt hk]; exact e)
  | _, _, _, .raw a => .raw a
theorem Reps.fg : ∀ {ds : List D} {vs : List V}, closedL n ds = true → Reps K ι H ds vs → Reps K ⟨ι.ι.take n, ι.M⟩ H ds vs
  | _, _, _, .nil => .nil
  | _, _, h, .cons r t => .cons (Rep.fg (Bool.and_eq_true_iff.mp (by simpa [closedL] using h)).1 r) (Reps.fg (Bool.and_eq_true_iff.mp (by simpa [closedL] using h)).2 t)
end
theorem pairedQ {α β : Type} {F G : α → β → Prop} (q : α → Bool) : ∀ {l1 : List α} {l2 : List β}, l1.all q = true → Paired F l1 l2 → (∀ a b, q a = true → F a b → G a b) → Paired G l1 l2
  | _, _, _, .nil, _ => .nil
  | _, _, h, .cons r t, i => by
    simp only [List.all_cons, Bool.and_eq_true] at h
    exact .cons (i _ _ h.1 r) (pairedQ q h.2 t i)
theorem RepO.fg {a : Addr} {o : IO} (h : closedO n o = true) (q : RepO K ca ι H a o) : RepO K ca ⟨ι.ι.take n, ι.M⟩ H a o := by
  cases o with
  | lst ds => obtain ⟨vs, e, r⟩ := q; exact ⟨vs, e, Reps.fg h r⟩
  | dic kvs => obtain ⟨ws, e, r⟩ := q; exact ⟨ws, e, pairedQ _ h r fun x y hx z => ⟨z.1, Rep.fg hx z.2⟩⟩
  | ins c fs => obtain ⟨dx, ws, e, r⟩ := q; exact ⟨dx, ws, e, pairedQ _ h r fun x y hx z => ⟨z.1, Rep.fg hx z.2⟩⟩
  | dcd kvs => obtain ⟨xs, e, r⟩ := q; exact ⟨xs, e, pairedQ _ h r fun x y hx z => by
      have hx := Bool.and_eq_true_iff.mp hx
      exact ⟨z.1, z.2.1, Rep.fg hx.1 z.2.2.1, let ⟨v, a, b⟩ := z.2.2.2; ⟨v, a, Rep.fg hx.2 b⟩⟩⟩
  | lam k => exact q
theorem Sim.fg {s : S} (m : Sim K ca ι s H) (hc : closedS n (s.take n) = true) : Sim K ca ⟨ι.ι.take n, ι.M⟩ (s.take n) H := by
  refine ⟨by simp [m.len], m.nd.sublist (List.take_sublist _ _), fun a ha => m.sub a (List.mem_of_mem_take ha), m.tr, m.tab.keep fun a o h k => ⟨h, k⟩, fun k a o hn hs => ?_⟩
  have hk : k < n := by
    have := (List.getElem?_eq_some_iff.mp hs).1
    simp at this; omega
  rw [List.getElem?_take_of_lt hk] at hn
  have ho : closedO n o = true := List.all_eq_true.mp hc o (List.mem_of_getElem? hs)
  rw [List.getElem?_take_of_lt hk] at hs
  exact RepO.fg ho (m.ob k a o hn hs)
end
section
variable {X : Cx} {ca : Ct} {W : WX}
theorem je_for {e : Expr} {g : GE} (hp : JE X ca W e g) : JE X ca W e (gFor g) := PE.imp hp fun σ H Q ⟨ι, ρ, s, hr, hm, h⟩ => by
  refine ⟨ι, ρ, s, hr, hm, ?_⟩
  unfold gFor at h
  cases hg : g ρ s with
  | no => rw [hg] at h; exact h
  | err e s' => rw [hg] at h; exact h
  | ok d s' =>
    rw [hg] at h
    simp only at h
    split at h
    · rename_i hc
      simp only [Bool.and_eq_true] at hc
      obtain ⟨⟨h1, h2⟩, h3⟩ := hc
      intro ι1 v H1 l m r
      have e1 : ι1.ι.take s.length = ι.ι := by
        obtain ⟨t, e⟩ := l.pre
        rw [← e, ← hm.len, List.take_left']
        rfl
      have m2 := Sim.fg m h2
      have r2 := Rep.fg h1 r
      rw [e1] at m2 r2
      exact h ⟨ι.ι, ι1.M⟩ v H1 ⟨⟨List.prefix_rfl, l.keep, l.tup, l.frz⟩, fun a o ha ht hn => ⟨(l.stay a o ha ht hn).1, hn⟩, l.sub⟩ m2 r2
    · exact h.elim
end
/-! ### reading it -/
theorem closedL_map {α : Type} (n : Nat) (f : α → D) (h : ∀ x, closedD n (f x) = true) : ∀ xs : List α, closedL n (xs.map f) = true
  | [] => rfl
  | x :: xs => by simp [closedL, h, closedL_map n f h xs]
theorem gFor_ok {g : GE} {ρ : Env} {s v : S} {d : D} (h : g ρ s = .ok d (s ++ v)) (hd : closedD s.length d = true) (hs : closedS s.length s = true) : gFor g ρ s = .ok d s := by
  have e : (s ++ v).take s.length = s := List.take_left' rfl
  unfold gFor
  rw [h]
  simp only [e, hd, hs, Bool.and_self, Bool.true_and]
  rw [if_pos (Nat.ble_eq.mpr (by simp))]
end J


set_option Elab.async false
set_option linter.all false
set_option maxRecDepth 100000
set_option maxHeartbeats 4000000
namespace G
open PySem PySem.Spec L2 J
open PyProof.Rows (envOfC)
def top (i : Nat) : Stmt := PySem.Challenge.pw_pairskept_k13_known_designs.main.body.getD i (.Pass ⟨0, 0, 0, 0⟩)
def mst (i k : Nat) : Stmt := (match top i with | .ClassDef _ _ _ b _ _ _ _ _ _ _ => b | _ => []).getD k (.Pass ⟨0, 0, 0, 0⟩)
def c_REGISTERS : D := (.int 2)
def c_CELLS : D := (.int 3)
def c_WORDS : D := (.int 10)
def c_MOST_CORES : D := (.int 3)
def c_MOST_CORE : D := (.int 5)
def c_MOST_PROGRAM : D := (.int 10)
def c_WRITING : D := (.tup [(.str (PySem.Str.ofString "write")), (.str (PySem.Str.ofString "copy"))])
def c_FENCE_programs : D := (.tup [(.str (PySem.Str.ofString "fence"))])
def c_NAMES : D := (.tup [(.str (PySem.Str.ofString "gr")), (.str (PySem.Str.ofString "gw")), (.str (PySem.Str.ofString "own")), (.str (PySem.Str.ofString "rr")), (.str (PySem.Str.ofString "rw")), (.str (PySem.Str.ofString "ss")), (.str (PySem.Str.ofString "wr")), (.str (PySem.Str.ofString "ww"))])
def c_PLAIN : D := (.tup [(.str (PySem.Str.ofString "gr")), (.str (PySem.Str.ofString "gw")), (.str (PySem.Str.ofString "rr")), (.str (PySem.Str.ofString "rw")), (.str (PySem.Str.ofString "ss")), (.str (PySem.Str.ofString "wr")), (.str (PySem.Str.ofString "ww"))])
def c_PLAINS : D := (.tup [(.str (PySem.Str.ofString "rr")), (.str (PySem.Str.ofString "rw")), (.str (PySem.Str.ofString "ss")), (.str (PySem.Str.ofString "wr")), (.str (PySem.Str.ofString "ww"))])
def c_READ_X : D := (.tup [(.str (PySem.Str.ofString "read")), (.int 0), (.int 0)])
def c_GUARD : D := (.tup [(.str (PySem.Str.ofString "guard")), (.int 0), (.int 1)])
def c_WRITE_X : D := (.tup [(.str (PySem.Str.ofString "write")), (.int 0), (.int 1)])
def c_WRITE_Y : D := (.tup [(.str (PySem.Str.ofString "write")), (.int 1), (.int 1)])
def c_READ_Y : D := (.tup [(.str (PySem.Str.ofString "read")), (.int 1), (.int 1)])
def c_FENCE_compares : D := (.tup [(.str (PySem.Str.ofString "fence"))])
def c_WRITES : D := (.tup [(.tup [(.str (PySem.Str.ofString "write")), (.int 1), (.int 1)]), (.tup [(.str (PySem.Str.ofString "fence"))]), (.tup [(.str (PySem.Str.ofString "write")), (.int 0), (.int 1)])])
def c_TURNS : D := (.tup [(.tup [(.str (PySem.Str.ofString "read")), (.int 0), (.int 1)]), (.tup [(.str (PySem.Str.ofString "fence"))]), (.tup [(.str (PySem.Str.ofString "write")), (.int 0), (.int 1)])])
def c_LOOKS : D := (.tup [(.tup [(.str (PySem.Str.ofString "write")), (.int 1), (.int 1)]), (.tup [(.str (PySem.Str.ofString "fence"))]), (.tup [(.str (PySem.Str.ofString "read")), (.int 0), (.int 0)])])
def c_SEES : D := (.tup [(.tup [(.str (PySem.Str.ofString "read")), (.int 0), (.int 1)]), (.tup [(.str (PySem.Str.ofString "fence"))]), (.tup [(.str (PySem.Str.ofString "read")), (.int 1), (.int 0)])])
def c_ONE : D := (.tup [(.tup [(.str (PySem.Str.ofString "write")), (.int 0), (.int 1)])])
def c_SECOND : D := (.tup [(.tup [(.int 1), (.int 0)]), (.tup [(.int 0), (.int 0)])])
def c_BOTH : D := (.tup [(.tup [(.int 1), (.int 0)]), (.tup [(.int 1), (.int 0)])])
def c_TWO : D := (.tup [(.int 1), (.int 1), (.int 0)])
structure Fx (P : Program) (w : World) (K : PySem.W.Frag) (mg : Str → Option Value) (ca : Ct) : Prop where
  pP : ca.P = P
  pw : ca.w = w
  bi_all : mg "all" = none
  bi_any : mg "any" = none
  bi_bool : mg "bool" = none
  bi_dict : mg "dict" = none
  bi_int : mg "int" = none
  bi_isinstance : mg "isinstance" = none
  bi_len : mg "len" = none
  bi_range : mg "range" = none
  bi_sorted : mg "sorted" = none
  bi_str : mg "str" = none
  bi_sum : mg "sum" = none
  bi_tuple : mg "tuple" = none
  c_REGISTERS : ConstJ K mg "REGISTERS" c_REGISTERS
  c_CELLS : ConstJ K mg "CELLS" c_CELLS
  c_WORDS : ConstJ K mg "WORDS" c_WORDS
  c_MOST_CORES : ConstJ K mg "MOST_CORES" c_MOST_CORES
  c_MOST_CORE : ConstJ K mg "MOST_CORE" c_MOST_CORE
  c_MOST_PROGRAM : ConstJ K mg "MOST_PROGRAM" c_MOST_PROGRAM
  c_WRITING : ConstJ K mg "WRITING" c_WRITING
  c_FENCE_programs : ConstJ K mg "FENCE_programs" c_FENCE_programs
  c_NAMES : ConstJ K mg "NAMES" c_NAMES
  c_PLAIN : ConstJ K mg "PLAIN" c_PLAIN
  c_PLAINS : ConstJ K mg "PLAINS" c_PLAINS
  c_READ_X : ConstJ K mg "READ_X" c_READ_X
  c_GUARD : ConstJ K mg "GUARD" c_GUARD
  c_WRITE_X : ConstJ K mg "WRITE_X" c_WRITE_X
  c_WRITE_Y : ConstJ K mg "WRITE_Y" c_WRITE_Y
  c_READ_Y : ConstJ K mg "READ_Y" c_READ_Y
  c_FENCE_compares : ConstJ K mg "FENCE_compares" c_FENCE_compares
  c_WRITES : ConstJ K mg "WRITES" c_WRITES
  c_TURNS : ConstJ K mg "TURNS" c_TURNS
  c_LOOKS : ConstJ K mg "LOOKS" c_LOOKS
  c_SEES : ConstJ K mg "SEES" c_SEES
  c_ONE : ConstJ K mg "ONE" c_ONE
  c_SECOND : ConstJ K mg "SECOND" c_SECOND
  c_BOTH : ConstJ K mg "BOTH" c_BOTH
  c_TWO : ConstJ K mg "TWO" c_TWO
  d_is_integer : ∃ f fd, mg "is_integer" = some (.ref f) ∧ FunD K "is_integer" "is_integer" (defArgs (top 1)) (defBody (top 1)) (defScope (top 1)) [] [] f fd
  d_is_in : ∃ f fd, mg "is_in" = some (.ref f) ∧ FunD K "is_in" "is_in" (defArgs (top 2)) (defBody (top 2)) (defScope (top 2)) [] [] f fd
  d_is_list : ∃ f fd, mg "is_list" = some (.ref f) ∧ FunD K "is_list" "is_list" (defArgs (top 3)) (defBody (top 3)) (defScope (top 3)) [] [] f fd
  d_is_instruction : ∃ f fd, mg "is_instruction" = some (.ref f) ∧ FunD K "is_instruction" "is_instruction" (defArgs (top 23)) (defBody (top 23)) (defScope (top 23)) [] [] f fd
  d_is_core : ∃ f fd, mg "is_core" = some (.ref f) ∧ FunD K "is_core" "is_core" (defArgs (top 24)) (defBody (top 24)) (defScope (top 24)) [] [] f fd
  d_need_program : ∃ f fd, mg "need_program" = some (.ref f) ∧ FunD K "need_program" "need_program" (defArgs (top 25)) (defBody (top 25)) (defScope (top 25)) [] [] f fd
  d_is_program : ∃ f fd, mg "is_program" = some (.ref f) ∧ FunD K "is_program" "is_program" (defArgs (top 26)) (defBody (top 26)) (defScope (top 26)) [] [] f fd
  d_cell_of : ∃ f fd, mg "cell_of" = some (.ref f) ∧ FunD K "cell_of" "cell_of" (defArgs (top 27)) (defBody (top 27)) (defScope (top 27)) [] [] f fd
  d_asked_of : ∃ f fd, mg "asked_of" = some (.ref f) ∧ FunD K "asked_of" "asked_of" (defArgs (top 28)) (defBody (top 28)) (defScope (top 28)) [] [] f fd
  d_last_read : ∃ f fd, mg "last_read" = some (.ref f) ∧ FunD K "last_read" "last_read" (defArgs (top 29)) (defBody (top 29)) (defScope (top 29)) [] [] f fd
  d_last_writing : ∃ f fd, mg "last_writing" = some (.ref f) ∧ FunD K "last_writing" "last_writing" (defArgs (top 30)) (defBody (top 30)) (defScope (top 30)) [] [] f fd
  d_is_design : ∃ f fd, mg "is_design" = some (.ref f) ∧ FunD K "is_design" "is_design" (defArgs (top 34)) (defBody (top 34)) (defScope (top 34)) [] [] f fd
  d_need_design : ∃ f fd, mg "need_design" = some (.ref f) ∧ FunD K "need_design" "need_design" (defArgs (top 35)) (defBody (top 35)) (defScope (top 35)) [] [] f fd
  d_letter_of : ∃ f fd, mg "letter_of" = some (.ref f) ∧ FunD K "letter_of" "letter_of" (defArgs (top 36)) (defBody (top 36)) (defScope (top 36)) [] [] f fd
  d_asks_read : ∃ f fd, mg "asks_read" = some (.ref f) ∧ FunD K "asks_read" "asks_read" (defArgs (top 37)) (defBody (top 37)) (defScope (top 37)) [] [] f fd
  d_own_read : ∃ f fd, mg "own_read" = some (.ref f) ∧ FunD K "own_read" "own_read" (defArgs (top 38)) (defBody (top 38)) (defScope (top 38)) [] [] f fd
  d_keeps : ∃ f fd, mg "keeps" = some (.ref f) ∧ FunD K "keeps" "keeps" (defArgs (top 39)) (defBody (top 39)) (defScope (top 39)) [] [] f fd
  d_all_designs : ∃ f fd, mg "all_designs" = some (.ref f) ∧ FunD K "all_designs" "all_designs" (defArgs (top 40)) (defBody (top 40)) (defScope (top 40)) [] [] f fd
  d_must_be_done : ∃ f fd, mg "must_be_done" = some (.ref f) ∧ FunD K "must_be_done" "must_be_done" (defArgs (top 41)) (defBody (top 41)) (defScope (top 41)) [] [] f fd
  d_told_tests : ∃ f fd, mg "told_tests" = some (.ref f) ∧ FunD K "told_tests" "told_tests" (defArgs (top 58)) (defBody (top 58)) (defScope (top 58)) [] [] f fd
  d_lacks : ∃ f fd, mg "lacks" = some (.ref f) ∧ FunD K "lacks" "lacks" (defArgs (top 59)) (defBody (top 59)) (defScope (top 59)) [] [] f fd
  d_shown_by : ∃ f fd, mg "shown_by" = some (.ref f) ∧ FunD K "shown_by" "shown_by" (defArgs (top 60)) (defBody (top 60)) (defScope (top 60)) [] [] f fd
  d_is_below : ∃ f fd, mg "is_below" = some (.ref f) ∧ FunD K "is_below" "is_below" (defArgs (top 61)) (defBody (top 61)) (defScope (top 61)) [] [] f fd
  d_normal_of : ∃ f fd, mg "normal_of" = some (.ref f) ∧ FunD K "normal_of" "normal_of" (defArgs (top 62)) (defBody (top 62)) (defScope (top 62)) [] [] f fd
  d_below : ∃ f fd, mg "below" = some (.ref f) ∧ FunD K "below" "below" (defArgs (top 63)) (defBody (top 63)) (defScope (top 63)) [] [] f fd
  d_tests : ∃ f fd, mg "tests" = some (.ref f) ∧ FunD K "tests" "tests" (defArgs (top 64)) (defBody (top 64)) (defScope (top 64)) [] [] f fd
  d_shows : ∃ f fd, mg "shows" = some (.ref f) ∧ FunD K "shows" "shows" (defArgs (top 65)) (defBody (top 65)) (defScope (top 65)) [] [] f fd
  d_first_test : ∃ f fd, mg "first_test" = some (.ref f) ∧ FunD K "first_test" "first_test" (defArgs (top 66)) (defBody (top 66)) (defScope (top 66)) [] [] f fd
  d_alike : ∃ f fd, mg "alike" = some (.ref f) ∧ FunD K "alike" "alike" (defArgs (top 67)) (defBody (top 67)) (defScope (top 67)) [] [] f fd
  d_normal : ∃ f fd, mg "normal" = some (.ref f) ∧ FunD K "normal" "normal" (defArgs (top 68)) (defBody (top 68)) (defScope (top 68)) [] [] f fd
  d_normals : ∃ f fd, mg "normals" = some (.ref f) ∧ FunD K "normals" "normals" (defArgs (top 69)) (defBody (top 69)) (defScope (top 69)) [] [] f fd
  d_need_run : ∃ f fd, mg "need_run" = some (.ref f) ∧ FunD K "need_run" "need_run" (defArgs (top 72)) (defBody (top 72)) (defScope (top 72)) [] [] f fd
  d_is_event : ∃ f fd, mg "is_event" = some (.ref f) ∧ FunD K "is_event" "is_event" (defArgs (top 73)) (defBody (top 73)) (defScope (top 73)) [] [] f fd
  d_events_behind : ∃ f fd, mg "events_behind" = some (.ref f) ∧ FunD K "events_behind" "events_behind" (defArgs (top 74)) (defBody (top 74)) (defScope (top 74)) [] [] f fd
  d_told_by : ∃ f fd, mg "told_by" = some (.ref f) ∧ FunD K "told_by" "told_by" (defArgs (top 75)) (defBody (top 75)) (defScope (top 75)) [] [] f fd
  d_reached : ∃ f fd, mg "reached" = some (.ref f) ∧ FunD K "reached" "reached" (defArgs (top 77)) (defBody (top 77)) (defScope (top 77)) [] [] f fd
  d_outcomes_in : ∃ f fd, mg "outcomes_in" = some (.ref f) ∧ FunD K "outcomes_in" "outcomes_in" (defArgs (top 78)) (defBody (top 78)) (defScope (top 78)) [] [] f fd
  d_plain_in : ∃ f fd, mg "plain_in" = some (.ref f) ∧ FunD K "plain_in" "plain_in" (defArgs (top 79)) (defBody (top 79)) (defScope (top 79)) [] [] f fd
  d_counted : ∃ f fd, mg "counted" = some (.ref f) ∧ FunD K "counted" "counted" (defArgs (top 80)) (defBody (top 80)) (defScope (top 80)) [] [] f fd
  d_outcomes : ∃ f fd, mg "outcomes" = some (.ref f) ∧ FunD K "outcomes" "outcomes" (defArgs (top 81)) (defBody (top 81)) (defScope (top 81)) [] [] f fd
  d_row_for : ∃ f fd, mg "row_for" = some (.ref f) ∧ FunD K "row_for" "row_for" (defArgs (top 82)) (defBody (top 82)) (defScope (top 82)) [] [] f fd
  d_is_plainly : ∃ f fd, mg "is_plainly" = some (.ref f) ∧ FunD K "is_plainly" "is_plainly" (defArgs (top 83)) (defBody (top 83)) (defScope (top 83)) [] [] f fd
  d_count_rows : ∃ f fd, mg "count_rows" = some (.ref f) ∧ FunD K "count_rows" "count_rows" (defArgs (top 84)) (defBody (top 84)) (defScope (top 84)) [] [] f fd
  d_plain_outcomes : ∃ f fd, mg "plain_outcomes" = some (.ref f) ∧ FunD K "plain_outcomes" "plain_outcomes" (defArgs (top 85)) (defBody (top 85)) (defScope (top 85)) [] [] f fd
  d_gaps_of : ∃ f fd, mg "gaps_of" = some (.ref f) ∧ FunD K "gaps_of" "gaps_of" (defArgs (top 87)) (defBody (top 87)) (defScope (top 87)) [] [] f fd
  d_with_fences : ∃ f fd, mg "with_fences" = some (.ref f) ∧ FunD K "with_fences" "with_fences" (defArgs (top 88)) (defBody (top 88)) (defScope (top 88)) [] [] f fd
  d_need_places : ∃ f fd, mg "need_places" = some (.ref f) ∧ FunD K "need_places" "need_places" (defArgs (top 89)) (defBody (top 89)) (defScope (top 89)) [] [] f fd
  d_strange_in : ∃ f fd, mg "strange_in" = some (.ref f) ∧ FunD K "strange_in" "strange_in" (defArgs (top 90)) (defBody (top 90)) (defScope (top 90)) [] [] f fd
  d_is_plain : ∃ f fd, mg "is_plain" = some (.ref f) ∧ FunD K "is_plain" "is_plain" (defArgs (top 91)) (defBody (top 91)) (defScope (top 91)) [] [] f fd
  d_strange : ∃ f fd, mg "strange" = some (.ref f) ∧ FunD K "strange" "strange" (defArgs (top 92)) (defBody (top 92)) (defScope (top 92)) [] [] f fd
  d_fenced : ∃ f fd, mg "fenced" = some (.ref f) ∧ FunD K "fenced" "fenced" (defArgs (top 93)) (defBody (top 93)) (defScope (top 93)) [] [] f fd
  d_fewest_fences : ∃ f fd, mg "fewest_fences" = some (.ref f) ∧ FunD K "fewest_fences" "fewest_fences" (defArgs (top 94)) (defBody (top 94)) (defScope (top 94)) [] [] f fd
  d_law_taken : ∃ f fd, mg "_law_taken" = some (.ref f) ∧ FunD K "_law_taken" "_law_taken" (defArgs (top 96)) (defBody (top 96)) (defScope (top 96)) [] [] f fd
  k_Run : Cls K (ca.c 50)
  n_Run_ahead : NoAttr K (ca.c 50) "ahead"
  n_Run_cells : NoAttr K (ca.c 50) "cells"
  n_Run_design : NoAttr K (ca.c 50) "design"
  n_Run_done : NoAttr K (ca.c 50) "done"
  n_Run_ends : NoAttr K (ca.c 50) "ends"
  n_Run_program : NoAttr K (ca.c 50) "program"
  n_Run_taken : NoAttr K (ca.c 50) "taken"
  m_Run_elders : ∃ f fd, Meth K (ca.c 50) "elders" f ∧ FunD K "elders" "Run.elders" (defArgs (mst 71 1)) (defBody (mst 71 1)) (defScope (mst 71 1)) [] [] f fd
  m_Run___init__ : ∃ f fd, mg "Run" = some (.ref (ca.c 50)) ∧ Mk K (ca.c 50) f ∧ FunD K "__init__" "Run.__init__" (defArgs (mst 71 0)) (defBody (mst 71 0)) (defScope (mst 71 0)) [] [] f fd
  m_Run_stand : ∃ f fd, Meth K (ca.c 50) "stand" f ∧ FunD K "stand" "Run.stand" (defArgs (mst 71 2)) (defBody (mst 71 2)) (defScope (mst 71 2)) [] [] f fd
  m_Run_word : ∃ f fd, Meth K (ca.c 50) "word" f ∧ FunD K "word" "Run.word" (defArgs (mst 71 3)) (defBody (mst 71 3)) (defScope (mst 71 3)) [] [] f fd
  m_Run_can : ∃ f fd, Meth K (ca.c 50) "can" f ∧ FunD K "can" "Run.can" (defArgs (mst 71 4)) (defBody (mst 71 4)) (defScope (mst 71 4)) [] [] f fd
  m_Run_events : ∃ f fd, Meth K (ca.c 50) "events" f ∧ FunD K "events" "Run.events" (defArgs (mst 71 5)) (defBody (mst 71 5)) (defScope (mst 71 5)) [] [] f fd
  m_Run_has_ended : ∃ f fd, Meth K (ca.c 50) "has_ended" f ∧ FunD K "has_ended" "Run.has_ended" (defArgs (mst 71 6)) (defBody (mst 71 6)) (defScope (mst 71 6)) [] [] f fd
  m_Run_written : ∃ f fd, Meth K (ca.c 50) "written" f ∧ FunD K "written" "Run.written" (defArgs (mst 71 9)) (defBody (mst 71 9)) (defScope (mst 71 9)) [] [] f fd
  m_Run_seen : ∃ f fd, Meth K (ca.c 50) "seen" f ∧ FunD K "seen" "Run.seen" (defArgs (mst 71 10)) (defBody (mst 71 10)) (defScope (mst 71 10)) [] [] f fd
  m_Run_do : ∃ f fd, Meth K (ca.c 50) "do" f ∧ FunD K "do" "Run.do" (defArgs (mst 71 7)) (defBody (mst 71 7)) (defScope (mst 71 7)) [] [] f fd
  m_Run_undo : ∃ f fd, Meth K (ca.c 50) "undo" f ∧ FunD K "undo" "Run.undo" (defArgs (mst 71 8)) (defBody (mst 71 8)) (defScope (mst 71 8)) [] [] f fd
  m_Run_outcome : ∃ f fd, Meth K (ca.c 50) "outcome" f ∧ FunD K "outcome" "Run.outcome" (defArgs (mst 71 11)) (defBody (mst 71 11)) (defScope (mst 71 11)) [] [] f fd
section
variable {P : Program} {w : World} {K : PySem.W.Frag} {mg : Str → Option Value} {base : Heap} {ca : Ct}
abbrev s_is_integer : Stmt := top 1
def b_is_integer : GS := sRet (gAndV (gF (fIsi) (gaCons (gVar 0) (gaCons (gC (.ty "int")) (gaNil)))) (gNotV (gF (fIsi) (gaCons (gVar 0) (gaCons (gC (.ty "bool")) (gaNil))))))
def F_is_integer : List D → S → R D := runF 1 b_is_integer
theorem sc_is_integer : FnScope ["value"] ["value"] (defScope s_is_integer) := ⟨rfl, rfl, rfl, by decide +kernel, rfl, by decide +kernel, by decide +kernel⟩
theorem j_is_integer (Fx : Fx P w K mg ca) : JFn P w K mg base ca 1 "is_integer" 1 F_is_integer := by
  obtain ⟨f, fd, hm, F⟩ := Fx.d_is_integer
  refine ⟨⟨f, fd, ["value"], hm, F.kp, F.bindsN (fun _ _ _ _ _ _ us hl => match us, hl with | [_], _ => rfl), rfl, fnJD F sc_is_integer fun cdv A outer s H E hr => ?_⟩⟩
  have tk : Takes (cxOf (L2.CX P w) P w K mg base ["value"] "is_integer" (defScope s_is_integer) f cdv A outer s H E) (fun cls d _ H => E cls d H) := takes_of rfl rfl rfl rfl
  exact jss_one (js_ret (je_and (je_B cj_isinstance Fx.bi_isinstance bt_isinstance (ja_cons (je_var 0) (ja_cons (je_ty Fx.bi_int bt_int) (ja_nil)))) (je_one (je_not (je_B cj_isinstance Fx.bi_isinstance bt_isinstance (ja_cons (je_var 0) (ja_cons (je_ty Fx.bi_bool bt_bool) (ja_nil))))))))
abbrev s_is_in : Stmt := top 2
def b_is_in : GS := sRet (gAndV (gCall 1 (F_is_integer) (gaCons (gVar 0) (gaNil))) (gChain fLe fLe (gVar 1) (gVar 0) (gVar 2)))
def F_is_in : List D → S → R D := runF 3 b_is_in
theorem sc_is_in : FnScope ["value", "least", "most"] ["value", "least", "most"] (defScope s_is_in) := ⟨rfl, rfl, rfl, by decide +kernel, rfl, by decide +kernel, by decide +kernel⟩
theorem j_is_in (Fx : Fx P w K mg ca) : JFn P w K mg base ca 2 "is_in" 3 F_is_in := by
  obtain ⟨f, fd, hm, F⟩ := Fx.d_is_in
  refine ⟨⟨f, fd, ["value", "least", "most"], hm, F.kp, F.bindsN (fun _ _ _ _ _ _ us hl => match us, hl with | [_, _, _], _ => rfl), rfl, fnJD F sc_is_in fun cdv A outer s H E hr => ?_⟩⟩
  have tk : Takes (cxOf (L2.CX P w) P w K mg base ["value", "least", "most"] "is_in" (defScope s_is_in) f cdv A outer s H E) (fun cls d _ H => E cls d H) := takes_of rfl rfl rfl rfl
  exact jss_one (js_ret (je_and (je_call (j_is_integer Fx) (hr.mono (by decide)) tk (ja_cons (je_var 0) (ja_nil))) (je_one (je_chain oj_le oj_le (je_var 1) (je_var 0) (je_var 2)))))
abbrev s_is_list : Stmt := top 3
def b_is_list : GS := sRet (gAndV (gF (fIsi) (gaCons (gVar 0) (gaCons (gC (.ty "tuple")) (gaNil)))) (gChain fLe fLe (gVar 1) (gF (f1 fLen) (gaCons (gVar 0) (gaNil))) (gVar 2)))
def F_is_list : List D → S → R D := runF 3 b_is_list
theorem sc_is_list : FnScope ["value", "least", "most"] ["value", "least", "most"] (defScope s_is_list) := ⟨rfl, rfl, rfl, by decide +kernel, rfl, by decide +kernel, by decide +kernel⟩
theorem j_is_list (Fx : Fx P w K mg ca) : JFn P w K mg base ca 1 "is_list" 3 F_is_list := by
  obtain ⟨f, fd, hm, F⟩ := Fx.d_is_list
  refine ⟨⟨f, fd, ["value", "least", "most"], hm, F.kp, F.bindsN (fun _ _ _ _ _ _ us hl => match us, hl with | [_, _, _], _ => rfl), rfl, fnJD F sc_is_list fun cdv A outer s H E hr => ?_⟩⟩
  have tk : Takes (cxOf (L2.CX P w) P w K mg base ["value", "least", "most"] "is_list" (defScope s_is_list) f cdv A outer s H E) (fun cls d _ H => E cls d H) := takes_of rfl rfl rfl rfl
  exact jss_one (js_ret (je_and (je_B cj_isinstance Fx.bi_isinstance bt_isinstance (ja_cons (je_var 0) (ja_cons (je_ty Fx.bi_tuple bt_tuple) (ja_nil)))) (je_one (je_chain oj_le oj_le (je_var 1) (je_B cj_len Fx.bi_len bt_len (ja_cons (je_var 0) (ja_nil))) (je_var 2)))))
abbrev s_is_instruction : Stmt := top 23
def b_is_instruction : GS := sSeq (sIf (gOr (gNot (gB (gCall 3 (F_is_list) (gaCons (gVar 0) (gaCons (gC (.int 1)) (gaCons (gC (.int 3)) (gaNil))))))) (gNot (gB (gF (fIsi) (gaCons (gOp2 fIdx (gVar 0) (gC (.int 0))) (gaCons (gC (.ty "str")) (gaNil))))))) (sRet (gC (.bl false))) (sNext)) (sSeq (sPar 1 2 (gaCons (gOp2 fIdx (gVar 0) (gC (.int 0))) (gaCons (gSl (gVar 0) (goSome (gC (.int 1))) (goNone)) (gaNil)))) (sSeq (sIf (gB (gOp2 fEq (gVar 1) (gC (.str (PySem.Str.ofString "fence"))))) (sRet (gOp2 fEq (gVar 2) (gTup (gaNil)))) (sNext)) (sSeq (sIf (gB (gOp2 fNe (gF (f1 fLen) (gaCons (gVar 2) (gaNil))) (gC (.int 2)))) (sRet (gC (.bl false))) (sNext)) (sSeq (sIf (gB (gOp2 fEq (gVar 1) (gC (.str (PySem.Str.ofString "read"))))) (sRet (gAndV (gCall 3 (F_is_in) (gaCons (gOp2 fIdx (gVar 2) (gC (.int 0))) (gaCons (gC (.int 0)) (gaCons (gOp2 fSub (gC c_REGISTERS) (gC (.int 1))) (gaNil))))) (gCall 3 (F_is_in) (gaCons (gOp2 fIdx (gVar 2) (gC (.int 1))) (gaCons (gC (.int 0)) (gaCons (gOp2 fSub (gC c_CELLS) (gC (.int 1))) (gaNil))))))) (sNext)) (sSeq (sIf (gB (gOp2 fEq (gVar 1) (gC (.str (PySem.Str.ofString "write"))))) (sRet (gAndV (gCall 3 (F_is_in) (gaCons (gOp2 fIdx (gVar 2) (gC (.int 0))) (gaCons (gC (.int 0)) (gaCons (gOp2 fSub (gC c_CELLS) (gC (.int 1))) (gaNil))))) (gCall 3 (F_is_in) (gaCons (gOp2 fIdx (gVar 2) (gC (.int 1))) (gaCons (gC (.int 0)) (gaCons (gOp2 fSub (gC c_WORDS) (gC (.int 1))) (gaNil))))))) (sNext)) (sSeq (sIf (gB (gOp2 fEq (gVar 1) (gC (.str (PySem.Str.ofString "copy"))))) (sRet (gAndV (gCall 3 (F_is_in) (gaCons (gOp2 fIdx (gVar 2) (gC (.int 0))) (gaCons (gC (.int 0)) (gaCons (gOp2 fSub (gC c_CELLS) (gC (.int 1))) (gaNil))))) (gCall 3 (F_is_in) (gaCons (gOp2 fIdx (gVar 2) (gC (.int 1))) (gaCons (gC (.int 0)) (gaCons (gOp2 fSub (gC c_REGISTERS) (gC (.int 1))) (gaNil))))))) (sNext)) (sRet (gAndV (gOp2 fEq (gVar 1) (gC (.str (PySem.Str.ofString "guard")))) (gAndV (gCall 3 (F_is_in) (gaCons (gOp2 fIdx (gVar 2) (gC (.int 0))) (gaCons (gC (.int 0)) (gaCons (gOp2 fSub (gC c_REGISTERS) (gC (.int 1))) (gaNil))))) (gCall 3 (F_is_in) (gaCons (gOp2 fIdx (gVar 2) (gC (.int 1))) (gaCons (gC (.int 0)) (gaCons (gOp2 fSub (gC c_WORDS) (gC (.int 1))) (gaNil))))))))))))))
def F_is_instruction : List D → S → R D := runF 3 b_is_instruction
theorem sc_is_instruction : FnScope ["value", "kind", "rest"] ["value"] (defScope s_is_instruction) := ⟨rfl, rfl, rfl, by decide +kernel, rfl, by decide +kernel, by decide +kernel⟩
theorem j_is_instruction (Fx : Fx P w K mg ca) : JFn P w K mg base ca 3 "is_instruction" 1 F_is_instruction := by
  obtain ⟨f, fd, hm, F⟩ := Fx.d_is_instruction
  refine ⟨⟨f, fd, ["value"], hm, F.kp, F.bindsN (fun _ _ _ _ _ _ us hl => match us, hl with | [_], _ => rfl), rfl, fnJD F sc_is_instruction fun cdv A outer s H E hr => ?_⟩⟩
  have tk : Takes (cxOf (L2.CX P w) P w K mg base ["value", "kind", "rest"] "is_instruction" (defScope s_is_instruction) f cdv A outer s H E) (fun cls d _ H => E cls d H) := takes_of rfl rfl rfl rfl
  exact jss_cons (js_if (jw_t (jw_or (jt_not (jt_val (je_call (j_is_list Fx) (hr.mono (by decide)) tk (ja_cons (je_var 0) (ja_cons (je_int) (ja_cons (je_int) (ja_nil))))))) (jw_or1 (jt_not (jt_val (je_B cj_isinstance Fx.bi_isinstance bt_isinstance (ja_cons (je_ix (je_var 0) (je_int)) (ja_cons (je_ty Fx.bi_str bt_str) (ja_nil))))))))) (jss_one (js_ret (je_bl))) (jss_nil)) (jss_cons (js_par 1 2 rfl sc_is_instruction.nd (ja_cons (je_ix (je_var 0) (je_int)) (ja_cons (je_slice (je_var 0) (jo_some (je_int)) (jo_none)) (ja_nil)))) (jss_cons (js_if (jt_cmp (oj_eq hr.units) (je_var 1) (je_str)) (jss_one (js_ret (je_cmp (oj_eq hr.units) (je_var 2) (je_tup (ja_nil))))) (jss_nil)) (jss_cons (js_if (jt_cmp (oj_ne hr.units) (je_B cj_len Fx.bi_len bt_len (ja_cons (je_var 2) (ja_nil))) (je_int)) (jss_one (js_ret (je_bl))) (jss_nil)) (jss_cons (js_if (jt_cmp (oj_eq hr.units) (je_var 1) (je_str)) (jss_one (js_ret (je_and (je_call (j_is_in Fx) (hr.mono (by decide)) tk (ja_cons (je_ix (je_var 2) (je_int)) (ja_cons (je_int) (ja_cons (je_op oj_sub (je_k Fx.c_REGISTERS) (je_int)) (ja_nil))))) (je_one (je_call (j_is_in Fx) (hr.mono (by decide)) tk (ja_cons (je_ix (je_var 2) (je_int)) (ja_cons (je_int) (ja_cons (je_op oj_sub (je_k Fx.c_CELLS) (je_int)) (ja_nil))))))))) (jss_nil)) (jss_cons (js_if (jt_cmp (oj_eq hr.units) (je_var 1) (je_str)) (jss_one (js_ret (je_and (je_call (j_is_in Fx) (hr.mono (by decide)) tk (ja_cons (je_ix (je_var 2) (je_int)) (ja_cons (je_int) (ja_cons (je_op oj_sub (je_k Fx.c_CELLS) (je_int)) (ja_nil))))) (je_one (je_call (j_is_in Fx) (hr.mono (by decide)) tk (ja_cons (je_ix (je_var 2) (je_int)) (ja_cons (je_int) (ja_cons (je_op oj_sub (je_k Fx.c_WORDS) (je_int)) (ja_nil))))))))) (jss_nil)) (jss_cons (js_if (jt_cmp (oj_eq hr.units) (je_var 1) (je_str)) (jss_one (js_ret (je_and (je_call (j_is_in Fx) (hr.mono (by decide)) tk (ja_cons (je_ix (je_var 2) (je_int)) (ja_cons (je_int) (ja_cons (je_op oj_sub (je_k Fx.c_CELLS) (je_int)) (ja_nil))))) (je_one (je_call (j_is_in Fx) (hr.mono (by decide)) tk (ja_cons (je_ix (je_var 2) (je_int)) (ja_cons (je_int) (ja_cons (je_op oj_sub (je_k Fx.c_REGISTERS) (je_int)) (ja_nil))))))))) (jss_nil)) (jss_one (js_ret (je_and (je_cmp (oj_eq hr.units) (je_var 1) (je_str)) (je_and (je_call (j_is_in Fx) (hr.mono (by decide)) tk (ja_cons (je_ix (je_var 2) (je_int)) (ja_cons (je_int) (ja_cons (je_op oj_sub (je_k Fx.c_REGISTERS) (je_int)) (ja_nil))))) (je_one (je_call (j_is_in Fx) (hr.mono (by decide)) tk (ja_cons (je_ix (je_var 2) (je_int)) (ja_cons (je_int) (ja_cons (je_op oj_sub (je_k Fx.c_WORDS) (je_int)) (ja_nil))))))))))))))))
abbrev s_is_core : Stmt := top 24
def b_is_core : GS := sRet (gAndV (gCall 3 (F_is_list) (gaCons (gVar 0) (gaCons (gC (.int 0)) (gaCons (gC c_MOST_CORE) (gaNil))))) (gF (f1 fAll) (gaCons (gLc [1] (gItems (gVar 0)) (dName 1) (gYes) (gCall 1 (F_is_instruction) (gaCons (gVar 1) (gaNil)))) (gaNil))))
def F_is_core : List D → S → R D := runF 2 b_is_core
theorem sc_is_core : FnScope ["value", "one"] ["value"] (defScope s_is_core) := ⟨rfl, rfl, rfl, by decide +kernel, rfl, by decide +kernel, by decide +kernel⟩
theorem j_is_core (Fx : Fx P w K mg ca) : JFn P w K mg base ca 4 "is_core" 1 F_is_core := by
  obtain ⟨f, fd, hm, F⟩ := Fx.d_is_core
  refine ⟨⟨f, fd, ["value"], hm, F.kp, F.bindsN (fun _ _ _ _ _ _ us hl => match us, hl with | [_], _ => rfl), rfl, fnJD F sc_is_core fun cdv A outer s H E hr => ?_⟩⟩
  have tk : Takes (cxOf (L2.CX P w) P w K mg base ["value", "one"] "is_core" (defScope s_is_core) f cdv A outer s H E) (fun cls d _ H => E cls d H) := takes_of rfl rfl rfl rfl
  exact jss_one (js_ret (je_and (je_call (j_is_list Fx) (hr.mono (by decide)) tk (ja_cons (je_var 0) (ja_cons (je_int) (ja_cons (je_k Fx.c_MOST_CORE) (ja_nil))))) (je_one (je_B (cj_all rfl) Fx.bi_all bt_all (ja_cons (je_lc rfl sc_is_core.nd (ji_seq (je_var 0)) (blkOk_by (N := ["value", "one"]) (sc := defScope s_is_core) (by decide +kernel)) (fun _ _ _ _ _ => pg_name (i := 1) sc_is_core.nd rfl (by first | exact Or.inl rfl | exact Or.inr rfl)) (fun _ _ _ _ _ => jts_nil) (fun _ _ _ _ _ => je_call (j_is_instruction Fx) (hr.mono (by decide)) takes0 (ja_cons (je_var 1) (ja_nil)))) (ja_nil))))))
abbrev s_need_program : Stmt := top 25
def b_need_program : GS := sSeq (sIf (gNot (gB (gCall 3 (F_is_list) (gaCons (gVar 0) (gaCons (gC (.int 1)) (gaCons (gC c_MOST_CORES) (gaNil))))))) (sNever) (sNext)) (sFor (dName 1) (gRange1 (gaCons (gF (f1 fLen) (gaCons (gVar 0) (gaNil))) (gaNil))) (sIf (gOr (gNot (gB (gCall 1 (F_is_core) (gaCons (gOp2 fIdx (gVar 0) (gVar 1)) (gaNil))))) (gB (gOp2 fGt (gF (f1 fSum) (gaCons (gLc [2] (gItems (gSl (gVar 0) (goNone) (goSome (gOp2 fAdd (gVar 1) (gC (.int 1)))))) (dName 2) (gYes) (gF (f1 fLen) (gaCons (gVar 2) (gaNil)))) (gaNil))) (gC c_MOST_PROGRAM)))) (sNever) (sNext)))
def F_need_program : List D → S → R D := runF 3 b_need_program
theorem sc_need_program : FnScope ["program", "index", "core"] ["program"] (defScope s_need_program) := ⟨rfl, rfl, rfl, by decide +kernel, rfl, by decide +kernel, by decide +kernel⟩
theorem j_need_program (Fx : Fx P w K mg ca) : JFn P w K mg base ca 5 "need_program" 1 F_need_program := by
  obtain ⟨f, fd, hm, F⟩ := Fx.d_need_program
  refine ⟨⟨f, fd, ["program"], hm, F.kp, F.bindsN (fun _ _ _ _ _ _ us hl => match us, hl with | [_], _ => rfl), rfl, fnJD F sc_need_program fun cdv A outer s H E hr => ?_⟩⟩
  have tk : Takes (cxOf (L2.CX P w) P w K mg base ["program", "index", "core"] "need_program" (defScope s_need_program) f cdv A outer s H E) (fun cls d _ H => E cls d H) := takes_of rfl rfl rfl rfl
  exact jss_cons (js_if (jt_not (jt_val (je_call (j_is_list Fx) (hr.mono (by decide)) tk (ja_cons (je_var 0) (ja_cons (je_int) (ja_cons (je_k Fx.c_MOST_CORES) (ja_nil))))))) (jss_one (js_never)) (jss_nil)) (jss_one (js_for (passes_of rfl) rfl (ji_range1 Fx.bi_range (ja_cons (je_B cj_len Fx.bi_len bt_len (ja_cons (je_var 0) (ja_nil))) (ja_nil))) (jg_name 1 sc_need_program.nd) (jss_one (js_if (jw_t (jw_or (jt_not (jt_val (je_call (j_is_core Fx) (hr.mono (by decide)) tk (ja_cons (je_ix (je_var 0) (je_var 1)) (ja_nil))))) (jw_or1 (jt_cmp oj_gt (je_B (cj_sum rfl) Fx.bi_sum bt_sum (ja_cons (je_lc rfl sc_need_program.nd (ji_seq (je_slice (je_var 0) (jo_none) (jo_some (je_op oj_add (je_var 1) (je_int))))) (blkOk_by (N := ["program", "index", "core"]) (sc := defScope s_need_program) (by decide +kernel)) (fun _ _ _ _ _ => pg_name (i := 2) sc_need_program.nd rfl (by first | exact Or.inl rfl | exact Or.inr rfl)) (fun _ _ _ _ _ => jts_nil) (fun _ _ _ _ _ => je_B cj_len Fx.bi_len bt_len (ja_cons (je_var 2) (ja_nil)))) (ja_nil))) (je_k Fx.c_MOST_PROGRAM))))) (jss_one (js_never)) (jss_nil)))))
abbrev s_cell_of : Stmt := top 27
def b_cell_of : GS := sSeq (sIf (gB (gOp2 fEq (gOp2 fIdx (gVar 0) (gC (.int 0))) (gC (.str (PySem.Str.ofString "read"))))) (sRet (gOp2 fIdx (gVar 0) (gC (.int 2)))) (sNext)) (sRet (gIf (gB (gOp2 fIn (gOp2 fIdx (gVar 0) (gC (.int 0))) (gC c_WRITING))) (gOp2 fIdx (gVar 0) (gC (.int 1))) (gC .non)))
def F_cell_of : List D → S → R D := runF 1 b_cell_of
theorem sc_cell_of : FnScope ["instruction"] ["instruction"] (defScope s_cell_of) := ⟨rfl, rfl, rfl, by decide +kernel, rfl, by decide +kernel, by decide +kernel⟩
theorem j_cell_of (Fx : Fx P w K mg ca) : JFn P w K mg base ca 1 "cell_of" 1 F_cell_of := by
  obtain ⟨f, fd, hm, F⟩ := Fx.d_cell_of
  refine ⟨⟨f, fd, ["instruction"], hm, F.kp, F.bindsN (fun _ _ _ _ _ _ us hl => match us, hl with | [_], _ => rfl), rfl, fnJD F sc_cell_of fun cdv A outer s H E hr => ?_⟩⟩
  have tk : Takes (cxOf (L2.CX P w) P w K mg base ["instruction"] "cell_of" (defScope s_cell_of) f cdv A outer s H E) (fun cls d _ H => E cls d H) := takes_of rfl rfl rfl rfl
  exact jss_cons (js_if (jt_cmp (oj_eq hr.units) (je_ix (je_var 0) (je_int)) (je_str)) (jss_one (js_ret (je_ix (je_var 0) (je_int)))) (jss_nil)) (jss_one (js_ret (je_if (jt_cmp (oj_in (J.Room.u65 hr)) (je_ix (je_var 0) (je_int)) (je_k Fx.c_WRITING)) (je_ix (je_var 0) (je_int)) (je_non))))
abbrev s_asked_of : Stmt := top 28
def b_asked_of : GS := sSeq (sIf (gB (gOp2 fEq (gOp2 fIdx (gVar 0) (gC (.int 0))) (gC (.str (PySem.Str.ofString "copy"))))) (sRet (gOp2 fIdx (gVar 0) (gC (.int 2)))) (sNext)) (sRet (gIf (gB (gOp2 fEq (gOp2 fIdx (gVar 0) (gC (.int 0))) (gC (.str (PySem.Str.ofString "guard"))))) (gOp2 fIdx (gVar 0) (gC (.int 1))) (gC .non)))
def F_asked_of : List D → S → R D := runF 1 b_asked_of
theorem sc_asked_of : FnScope ["instruction"] ["instruction"] (defScope s_asked_of) := ⟨rfl, rfl, rfl, by decide +kernel, rfl, by decide +kernel, by decide +kernel⟩
theorem j_asked_of (Fx : Fx P w K mg ca) : JFn P w K mg base ca 1 "asked_of" 1 F_asked_of := by
  obtain ⟨f, fd, hm, F⟩ := Fx.d_asked_of
  refine ⟨⟨f, fd, ["instruction"], hm, F.kp, F.bindsN (fun _ _ _ _ _ _ us hl => match us, hl with | [_], _ => rfl), rfl, fnJD F sc_asked_of fun cdv A outer s H E hr => ?_⟩⟩
  have tk : Takes (cxOf (L2.CX P w) P w K mg base ["instruction"] "asked_of" (defScope s_asked_of) f cdv A outer s H E) (fun cls d _ H => E cls d H) := takes_of rfl rfl rfl rfl
  exact jss_cons (js_if (jt_cmp (oj_eq hr.units) (je_ix (je_var 0) (je_int)) (je_str)) (jss_one (js_ret (je_ix (je_var 0) (je_int)))) (jss_nil)) (jss_one (js_ret (je_if (jt_cmp (oj_eq hr.units) (je_ix (je_var 0) (je_int)) (je_str)) (je_ix (je_var 0) (je_int)) (je_non))))
abbrev s_last_read : Stmt := top 29
def b_last_read : GS := sSeq (sAsg (gLc [4] (gRange1 (gaCons (gVar 1) (gaNil))) (dName 4) (gAnd (gB (gOp2 fEq (gOp2 fIdx (gOp2 fIdx (gVar 0) (gVar 4)) (gC (.int 0))) (gC (.str (PySem.Str.ofString "read"))))) (gB (gOp2 fEq (gOp2 fIdx (gOp2 fIdx (gVar 0) (gVar 4)) (gC (.int 1))) (gVar 2)))) (gVar 4)) (dName 3)) (sRet (gIf (gB (gOp2 fNe (gVar 3) (gLst (gaNil)))) (gOp2 fIdx (gVar 3) (gNeg (gC (.int 1)))) (gC .non)))
def F_last_read : List D → S → R D := runF 5 b_last_read
theorem sc_last_read : FnScope ["core", "place", "reg", "some", "at"] ["core", "place", "reg"] (defScope s_last_read) := ⟨rfl, rfl, rfl, by decide +kernel, rfl, by decide +kernel, by decide +kernel⟩
theorem j_last_read (Fx : Fx P w K mg ca) : JFn P w K mg base ca 1 "last_read" 3 F_last_read := by
  obtain ⟨f, fd, hm, F⟩ := Fx.d_last_read
  refine ⟨⟨f, fd, ["core", "place", "reg"], hm, F.kp, F.bindsN (fun _ _ _ _ _ _ us hl => match us, hl with | [_, _, _], _ => rfl), rfl, fnJD F sc_last_read fun cdv A outer s H E hr => ?_⟩⟩
  have tk : Takes (cxOf (L2.CX P w) P w K mg base ["core", "place", "reg", "some", "at"] "last_read" (defScope s_last_read) f cdv A outer s H E) (fun cls d _ H => E cls d H) := takes_of rfl rfl rfl rfl
  exact jss_cons (js_setLc 3 rfl sc_last_read.nd (ji_range1 Fx.bi_range (ja_cons (je_var 1) (ja_nil))) (blkOk_by (N := ["core", "place", "reg", "some", "at"]) (sc := defScope s_last_read) (by decide +kernel)) (fun _ _ _ _ _ => pg_name (i := 4) sc_last_read.nd rfl (by first | exact Or.inl rfl | exact Or.inr rfl)) (fun _ _ _ _ _ => jts_one (jw_t (jw_and (jt_cmp (oj_eq hr.units) (je_ix (je_ix (je_var 0) (je_var 4)) (je_int)) (je_str)) (jw_and1 (jt_cmp (oj_eq hr.units) (je_ix (je_ix (je_var 0) (je_var 4)) (je_int)) (je_var 2)))))) (fun _ _ _ _ _ => je_var 4) (sw_true rfl rfl rfl (by decide +kernel))) (jss_one (js_ret (je_if (jt_cmp (oj_ne hr.units) (je_var 3) (je_lst (ja_nil))) (je_ix (je_var 3) (je_neg (je_int))) (je_non))))
abbrev s_last_writing : Stmt := top 30
def b_last_writing : GS := sSeq (sAsg (gLc [4] (gRange1 (gaCons (gVar 1) (gaNil))) (dName 4) (gAnd (gB (gOp2 fIn (gOp2 fIdx (gOp2 fIdx (gVar 0) (gVar 4)) (gC (.int 0))) (gC c_WRITING))) (gB (gOp2 fEq (gOp2 fIdx (gOp2 fIdx (gVar 0) (gVar 4)) (gC (.int 1))) (gVar 2)))) (gVar 4)) (dName 3)) (sRet (gIf (gB (gOp2 fNe (gVar 3) (gLst (gaNil)))) (gOp2 fIdx (gVar 3) (gNeg (gC (.int 1)))) (gC .non)))
def F_last_writing : List D → S → R D := runF 5 b_last_writing
theorem sc_last_writing : FnScope ["core", "place", "cell", "some", "at"] ["core", "place", "cell"] (defScope s_last_writing) := ⟨rfl, rfl, rfl, by decide +kernel, rfl, by decide +kernel, by decide +kernel⟩
theorem j_last_writing (Fx : Fx P w K mg ca) : JFn P w K mg base ca 1 "last_writing" 3 F_last_writing := by
  obtain ⟨f, fd, hm, F⟩ := Fx.d_last_writing
  refine ⟨⟨f, fd, ["core", "place", "cell"], hm, F.kp, F.bindsN (fun _ _ _ _ _ _ us hl => match us, hl with | [_, _, _], _ => rfl), rfl, fnJD F sc_last_writing fun cdv A outer s H E hr => ?_⟩⟩
  have tk : Takes (cxOf (L2.CX P w) P w K mg base ["core", "place", "cell", "some", "at"] "last_writing" (defScope s_last_writing) f cdv A outer s H E) (fun cls d _ H => E cls d H) := takes_of rfl rfl rfl rfl
  exact jss_cons (js_setLc 3 rfl sc_last_writing.nd (ji_range1 Fx.bi_range (ja_cons (je_var 1) (ja_nil))) (blkOk_by (N := ["core", "place", "cell", "some", "at"]) (sc := defScope s_last_writing) (by decide +kernel)) (fun _ _ _ _ _ => pg_name (i := 4) sc_last_writing.nd rfl (by first | exact Or.inl rfl | exact Or.inr rfl)) (fun _ _ _ _ _ => jts_one (jw_t (jw_and (jt_cmp (oj_in (J.Room.u65 hr)) (je_ix (je_ix (je_var 0) (je_var 4)) (je_int)) (je_k Fx.c_WRITING)) (jw_and1 (jt_cmp (oj_eq hr.units) (je_ix (je_ix (je_var 0) (je_var 4)) (je_int)) (je_var 2)))))) (fun _ _ _ _ _ => je_var 4) (sw_true rfl rfl rfl (by decide +kernel))) (jss_one (js_ret (je_if (jt_cmp (oj_ne hr.units) (je_var 3) (je_lst (ja_nil))) (je_ix (je_var 3) (je_neg (je_int))) (je_non))))
abbrev s_is_design : Stmt := top 34
def b_is_design : GS := sSeq (sIf (gOr (gNot (gB (gF (fIsi) (gaCons (gVar 0) (gaCons (gC (.ty "tuple")) (gaNil)))))) (gNot (gB (gF (f1 fAll) (gaCons (gLc [2] (gItems (gVar 0)) (dName 2) (gYes) (gAndV (gF (fIsi) (gaCons (gVar 2) (gaCons (gC (.ty "str")) (gaNil)))) (gOp2 fIn (gVar 2) (gC c_NAMES)))) (gaNil)))))) (sRet (gC (.bl false))) (sNext)) (sRet (gF (f1 fAll) (gaCons (gLc [1] (gRange2 (gaCons (gC (.int 1)) (gaCons (gF (f1 fLen) (gaCons (gVar 0) (gaNil))) (gaNil)))) (dName 1) (gYes) (gOp2 fLt (gOp2 fIdx (gVar 0) (gOp2 fSub (gVar 1) (gC (.int 1)))) (gOp2 fIdx (gVar 0) (gVar 1)))) (gaNil))))
def F_is_design : List D → S → R D := runF 3 b_is_design
theorem sc_is_design : FnScope ["value", "index", "one"] ["value"] (defScope s_is_design) := ⟨rfl, rfl, rfl, by decide +kernel, rfl, by decide +kernel, by decide +kernel⟩
theorem j_is_design (Fx : Fx P w K mg ca) : JFn P w K mg base ca 1 "is_design" 1 F_is_design := by
  obtain ⟨f, fd, hm, F⟩ := Fx.d_is_design
  refine ⟨⟨f, fd, ["value"], hm, F.kp, F.bindsN (fun _ _ _ _ _ _ us hl => match us, hl with | [_], _ => rfl), rfl, fnJD F sc_is_design fun cdv A outer s H E hr => ?_⟩⟩
  have tk : Takes (cxOf (L2.CX P w) P w K mg base ["value", "index", "one"] "is_design" (defScope s_is_design) f cdv A outer s H E) (fun cls d _ H => E cls d H) := takes_of rfl rfl rfl rfl
  exact jss_cons (js_if (jw_t (jw_or (jt_not (jt_val (je_B cj_isinstance Fx.bi_isinstance bt_isinstance (ja_cons (je_var 0) (ja_cons (je_ty Fx.bi_tuple bt_tuple) (ja_nil)))))) (jw_or1 (jt_not (jt_val (je_B (cj_all rfl) Fx.bi_all bt_all (ja_cons (je_lc rfl sc_is_design.nd (ji_seq (je_var 0)) (blkOk_by (N := ["value", "index", "one"]) (sc := defScope s_is_design) (by decide +kernel)) (fun _ _ _ _ _ => pg_name (i := 2) sc_is_design.nd rfl (by first | exact Or.inl rfl | exact Or.inr rfl)) (fun _ _ _ _ _ => jts_nil) (fun _ _ _ _ _ => je_and (je_B cj_isinstance Fx.bi_isinstance bt_isinstance (ja_cons (je_var 2) (ja_cons (je_ty Fx.bi_str bt_str) (ja_nil)))) (je_one (je_cmp (oj_in (J.Room.u65 hr)) (je_var 2) (je_k Fx.c_NAMES))))) (ja_nil)))))))) (jss_one (js_ret (je_bl))) (jss_nil)) (jss_one (js_ret (je_B (cj_all rfl) Fx.bi_all bt_all (ja_cons (je_lc rfl sc_is_design.nd (ji_range2 Fx.bi_range (ja_cons (je_int) (ja_cons (je_B cj_len Fx.bi_len bt_len (ja_cons (je_var 0) (ja_nil))) (ja_nil)))) (blkOk_by (N := ["value", "index", "one"]) (sc := defScope s_is_design) (by decide +kernel)) (fun _ _ _ _ _ => pg_name (i := 1) sc_is_design.nd rfl (by first | exact Or.inl rfl | exact Or.inr rfl)) (fun _ _ _ _ _ => jts_nil) (fun _ _ _ _ _ => je_cmp oj_lt (je_ix (je_var 0) (je_op oj_sub (je_var 1) (je_int))) (je_ix (je_var 0) (je_var 1)))) (ja_nil)))))
abbrev s_need_design : Stmt := top 35
def b_need_design : GS := sIf (gNot (gB (gCall 1 (F_is_design) (gaCons (gVar 0) (gaNil))))) (sNever) (sNext)
def F_need_design : List D → S → R D := runF 1 b_need_design
theorem sc_need_design : FnScope ["design"] ["design"] (defScope s_need_design) := ⟨rfl, rfl, rfl, by decide +kernel, rfl, by decide +kernel, by decide +kernel⟩
theorem j_need_design (Fx : Fx P w K mg ca) : JFn P w K mg base ca 2 "need_design" 1 F_need_design := by
  obtain ⟨f, fd, hm, F⟩ := Fx.d_need_design
  refine ⟨⟨f, fd, ["design"], hm, F.kp, F.bindsN (fun _ _ _ _ _ _ us hl => match us, hl with | [_], _ => rfl), rfl, fnJD F sc_need_design fun cdv A outer s H E hr => ?_⟩⟩
  have tk : Takes (cxOf (L2.CX P w) P w K mg base ["design"] "need_design" (defScope s_need_design) f cdv A outer s H E) (fun cls d _ H => E cls d H) := takes_of rfl rfl rfl rfl
  exact jss_one (js_if (jt_not (jt_val (je_call (j_is_design Fx) (hr.mono (by decide)) tk (ja_cons (je_var 0) (ja_nil))))) (jss_one (js_never)) (jss_nil))
abbrev s_letter_of : Stmt := top 36
def b_letter_of : GS := sRet (gDictC [((PySem.Str.ofString "read"), (PySem.Str.ofString "r")), ((PySem.Str.ofString "write"), (PySem.Str.ofString "w")), ((PySem.Str.ofString "copy"), (PySem.Str.ofString "w")), ((PySem.Str.ofString "guard"), (PySem.Str.ofString "g")), ((PySem.Str.ofString "fence"), (PySem.Str.ofString "f"))] (gOp2 fIdx (gVar 0) (gC (.int 0))))
def F_letter_of : List D → S → R D := runF 1 b_letter_of
theorem sc_letter_of : FnScope ["instruction"] ["instruction"] (defScope s_letter_of) := ⟨rfl, rfl, rfl, by decide +kernel, rfl, by decide +kernel, by decide +kernel⟩
theorem j_letter_of (Fx : Fx P w K mg ca) : JFn P w K mg base ca 1 "letter_of" 1 F_letter_of := by
  obtain ⟨f, fd, hm, F⟩ := Fx.d_letter_of
  refine ⟨⟨f, fd, ["instruction"], hm, F.kp, F.bindsN (fun _ _ _ _ _ _ us hl => match us, hl with | [_], _ => rfl), rfl, fnJD F sc_letter_of fun cdv A outer s H E hr => ?_⟩⟩
  have tk : Takes (cxOf (L2.CX P w) P w K mg base ["instruction"] "letter_of" (defScope s_letter_of) f cdv A outer s H E) (fun cls d _ H => E cls d H) := takes_of rfl rfl rfl rfl
  exact jss_one (js_ret (je_dictC (kvs := [((PySem.Str.ofString "read"), (PySem.Str.ofString "r")), ((PySem.Str.ofString "write"), (PySem.Str.ofString "w")), ((PySem.Str.ofString "copy"), (PySem.Str.ofString "w")), ((PySem.Str.ofString "guard"), (PySem.Str.ofString "g")), ((PySem.Str.ofString "fence"), (PySem.Str.ofString "f"))]) hr (pps_cons pe_str pe_str (pps_cons pe_str pe_str (pps_cons pe_str pe_str (pps_cons pe_str pe_str (pps_cons pe_str pe_str (pps_nil)))))) (je_ix (je_var 0) (je_int))))
abbrev s_asks_read : Stmt := top 37
def b_asks_read : GS := sSeq (sAsg (gCall 1 (F_asked_of) (gaCons (gOp2 fIdx (gVar 0) (gVar 2)) (gaNil))) (dName 3)) (sRet (gAndV (gOp2 fIsN (gVar 3) (gC .non)) (gOp2 fEq (gCall 3 (F_last_read) (gaCons (gVar 0) (gaCons (gVar 2) (gaCons (gVar 3) (gaNil))))) (gVar 1))))
def F_asks_read : List D → S → R D := runF 4 b_asks_read
theorem sc_asks_read : FnScope ["core", "first", "second", "asked"] ["core", "first", "second"] (defScope s_asks_read) := ⟨rfl, rfl, rfl, by decide +kernel, rfl, by decide +kernel, by decide +kernel⟩
theorem j_asks_read (Fx : Fx P w K mg ca) : JFn P w K mg base ca 2 "asks_read" 3 F_asks_read := by
  obtain ⟨f, fd, hm, F⟩ := Fx.d_asks_read
  refine ⟨⟨f, fd, ["core", "first", "second"], hm, F.kp, F.bindsN (fun _ _ _ _ _ _ us hl => match us, hl with | [_, _, _], _ => rfl), rfl, fnJD F sc_asks_read fun cdv A outer s H E hr => ?_⟩⟩
  have tk : Takes (cxOf (L2.CX P w) P w K mg base ["core", "first", "second", "asked"] "asks_read" (defScope s_asks_read) f cdv A outer s H E) (fun cls d _ H => E cls d H) := takes_of rfl rfl rfl rfl
  exact jss_cons (js_set 3 sc_asks_read.nd (je_call (j_asked_of Fx) (hr.mono (by decide)) tk (ja_cons (je_ix (je_var 0) (je_var 2)) (ja_nil)))) (jss_one (js_ret (je_and (je_cmp oj_isnot (je_var 3) (je_non)) (je_one (je_cmp (oj_eq hr.units) (je_call (j_last_read Fx) (hr.mono (by decide)) tk (ja_cons (je_var 0) (ja_cons (je_var 2) (ja_cons (je_var 3) (ja_nil))))) (je_var 1))))))
abbrev s_own_read : Stmt := top 38
def b_own_read : GS := sSeq (sIf (gB (gOp2 fNe (gOp2 fIdx (gOp2 fIdx (gVar 0) (gVar 2)) (gC (.int 0))) (gC (.str (PySem.Str.ofString "read"))))) (sRet (gC (.bl false))) (sNext)) (sSeq (sAsg (gCall 3 (F_last_writing) (gaCons (gVar 0) (gaCons (gVar 2) (gaCons (gOp2 fIdx (gOp2 fIdx (gVar 0) (gVar 2)) (gC (.int 2))) (gaNil))))) (dName 3)) (sRet (gAndV (gOp2 fIsN (gVar 3) (gC .non)) (gAndV (gOp2 fEq (gOp2 fIdx (gOp2 fIdx (gVar 0) (gVar 3)) (gC (.int 0))) (gC (.str (PySem.Str.ofString "copy")))) (gOp2 fEq (gCall 3 (F_last_read) (gaCons (gVar 0) (gaCons (gVar 3) (gaCons (gOp2 fIdx (gOp2 fIdx (gVar 0) (gVar 3)) (gC (.int 2))) (gaNil))))) (gVar 1))))))
def F_own_read : List D → S → R D := runF 4 b_own_read
theorem sc_own_read : FnScope ["core", "first", "second", "copied"] ["core", "first", "second"] (defScope s_own_read) := ⟨rfl, rfl, rfl, by decide +kernel, rfl, by decide +kernel, by decide +kernel⟩
theorem j_own_read (Fx : Fx P w K mg ca) : JFn P w K mg base ca 2 "own_read" 3 F_own_read := by
  obtain ⟨f, fd, hm, F⟩ := Fx.d_own_read
  refine ⟨⟨f, fd, ["core", "first", "second"], hm, F.kp, F.bindsN (fun _ _ _ _ _ _ us hl => match us, hl with | [_, _, _], _ => rfl), rfl, fnJD F sc_own_read fun cdv A outer s H E hr => ?_⟩⟩
  have tk : Takes (cxOf (L2.CX P w) P w K mg base ["core", "first", "second", "copied"] "own_read" (defScope s_own_read) f cdv A outer s H E) (fun cls d _ H => E cls d H) := takes_of rfl rfl rfl rfl
  exact jss_cons (js_if (jt_cmp (oj_ne hr.units) (je_ix (je_ix (je_var 0) (je_var 2)) (je_int)) (je_str)) (jss_one (js_ret (je_bl))) (jss_nil)) (jss_cons (js_set 3 sc_own_read.nd (je_call (j_last_writing Fx) (hr.mono (by decide)) tk (ja_cons (je_var 0) (ja_cons (je_var 2) (ja_cons (je_ix (je_ix (je_var 0) (je_var 2)) (je_int)) (ja_nil)))))) (jss_one (js_ret (je_and (je_cmp oj_isnot (je_var 3) (je_non)) (je_and (je_cmp (oj_eq hr.units) (je_ix (je_ix (je_var 0) (je_var 3)) (je_int)) (je_str)) (je_one (je_cmp (oj_eq hr.units) (je_call (j_last_read Fx) (hr.mono (by decide)) tk (ja_cons (je_var 0) (ja_cons (je_var 3) (ja_cons (je_ix (je_ix (je_var 0) (je_var 3)) (je_int)) (ja_nil))))) (je_var 1))))))))
abbrev s_keeps : Stmt := top 39
def b_keeps : GS := sSeq (sPar 4 5 (gaCons (gCall 1 (F_letter_of) (gaCons (gOp2 fIdx (gVar 1) (gVar 2)) (gaNil))) (gaCons (gCall 1 (F_letter_of) (gaCons (gOp2 fIdx (gVar 1) (gVar 3)) (gaNil))) (gaNil)))) (sSeq (sIf (gOr (gB (gOp2 fIn (gC (.str (PySem.Str.ofString "f"))) (gTup (gaCons (gVar 4) (gaCons (gVar 5) (gaNil)))))) (gAnd (gB (gOp2 fEq (gVar 4) (gC (.str (PySem.Str.ofString "g"))))) (gB (gOp2 fEq (gVar 5) (gC (.str (PySem.Str.ofString "g"))))))) (sRet (gC (.bl true))) (sNext)) (sSeq (sIf (gB (gCall 3 (F_asks_read) (gaCons (gVar 1) (gaCons (gVar 2) (gaCons (gVar 3) (gaNil)))))) (sRet (gC (.bl true))) (sNext)) (sSeq (sIf (gAnd (gB (gOp2 fIn (gC (.str (PySem.Str.ofString "own"))) (gVar 0))) (gB (gCall 3 (F_own_read) (gaCons (gVar 1) (gaCons (gVar 2) (gaCons (gVar 3) (gaNil))))))) (sRet (gC (.bl true))) (sNext)) (sSeq (sIf (gB (gOp2 fEq (gVar 5) (gC (.str (PySem.Str.ofString "g"))))) (sRet (gC (.bl false))) (sNext)) (sSeq (sIf (gOr (gB (gOp2 fEq (gVar 4) (gC (.str (PySem.Str.ofString "g"))))) (gB (gOp2 fNe (gCall 1 (F_cell_of) (gaCons (gOp2 fIdx (gVar 1) (gVar 2)) (gaNil))) (gCall 1 (F_cell_of) (gaCons (gOp2 fIdx (gVar 1) (gVar 3)) (gaNil)))))) (sRet (gOp2 fIn (gOp2 fAdd (gVar 4) (gVar 5)) (gVar 0))) (sNext)) (sSeq (sIf (gB (gOp2 fEq (gVar 5) (gC (.str (PySem.Str.ofString "w"))))) (sRet (gC (.bl true))) (sNext)) (sRet (gIf (gB (gOp2 fEq (gVar 4) (gC (.str (PySem.Str.ofString "w"))))) (gOp2 fNotIn (gC (.str (PySem.Str.ofString "own"))) (gVar 0)) (gOp2 fIn (gC (.str (PySem.Str.ofString "ss"))) (gVar 0))))))))))
def F_keeps : List D → S → R D := runF 6 b_keeps
theorem sc_keeps : FnScope ["design", "core", "first", "second", "one", "other"] ["design", "core", "first", "second"] (defScope s_keeps) := ⟨rfl, rfl, rfl, by decide +kernel, rfl, by decide +kernel, by decide +kernel⟩
theorem j_keeps (Fx : Fx P w K mg ca) : JFn P w K mg base ca 3 "keeps" 4 F_keeps := by
  obtain ⟨f, fd, hm, F⟩ := Fx.d_keeps
  refine ⟨⟨f, fd, ["design", "core", "first", "second"], hm, F.kp, F.bindsN (fun _ _ _ _ _ _ us hl => match us, hl with | [_, _, _, _], _ => rfl), rfl, fnJD F sc_keeps fun cdv A outer s H E hr => ?_⟩⟩
  have tk : Takes (cxOf (L2.CX P w) P w K mg base ["design", "core", "first", "second", "one", "other"] "keeps" (defScope s_keeps) f cdv A outer s H E) (fun cls d _ H => E cls d H) := takes_of rfl rfl rfl rfl
  exact jss_cons (js_par 4 5 rfl sc_keeps.nd (ja_cons (je_call (j_letter_of Fx) (hr.mono (by decide)) tk (ja_cons (je_ix (je_var 1) (je_var 2)) (ja_nil))) (ja_cons (je_call (j_letter_of Fx) (hr.mono (by decide)) tk (ja_cons (je_ix (je_var 1) (je_var 3)) (ja_nil))) (ja_nil)))) (jss_cons (js_if (jw_t (jw_or (jt_cmp (oj_in (J.Room.u65 hr)) (je_str) (je_tup (ja_cons (je_var 4) (ja_cons (je_var 5) (ja_nil))))) (jw_or1 (jw_t (jw_and (jt_cmp (oj_eq hr.units) (je_var 4) (je_str)) (jw_and1 (jt_cmp (oj_eq hr.units) (je_var 5) (je_str)))))))) (jss_one (js_ret (je_bl))) (jss_nil)) (jss_cons (js_if (jt_val (je_call (j_asks_read Fx) (hr.mono (by decide)) tk (ja_cons (je_var 1) (ja_cons (je_var 2) (ja_cons (je_var 3) (ja_nil)))))) (jss_one (js_ret (je_bl))) (jss_nil)) (jss_cons (js_if (jw_t (jw_and (jt_cmp (oj_in (J.Room.u65 hr)) (je_str) (je_var 0)) (jw_and1 (jt_val (je_call (j_own_read Fx) (hr.mono (by decide)) tk (ja_cons (je_var 1) (ja_cons (je_var 2) (ja_cons (je_var 3) (ja_nil))))))))) (jss_one (js_ret (je_bl))) (jss_nil)) (jss_cons (js_if (jt_cmp (oj_eq hr.units) (je_var 5) (je_str)) (jss_one (js_ret (je_bl))) (jss_nil)) (jss_cons (js_if (jw_t (jw_or (jt_cmp (oj_eq hr.units) (je_var 4) (je_str)) (jw_or1 (jt_cmp (oj_ne hr.units) (je_call (j_cell_of Fx) (hr.mono (by decide)) tk (ja_cons (je_ix (je_var 1) (je_var 2)) (ja_nil))) (je_call (j_cell_of Fx) (hr.mono (by decide)) tk (ja_cons (je_ix (je_var 1) (je_var 3)) (ja_nil))))))) (jss_one (js_ret (je_cmp (oj_in (J.Room.u65 hr)) (je_op oj_add (je_var 4) (je_var 5)) (je_var 0)))) (jss_nil)) (jss_cons (js_if (jt_cmp (oj_eq hr.units) (je_var 5) (je_str)) (jss_one (js_ret (je_bl))) (jss_nil)) (jss_one (js_ret (je_if (jt_cmp (oj_eq hr.units) (je_var 4) (je_str)) (je_cmp (oj_notin (J.Room.u65 hr)) (je_str) (je_var 0)) (je_cmp (oj_in (J.Room.u65 hr)) (je_str) (je_var 0)))))))))))
abbrev s_Run_elders : Stmt := mst 71 1
def b_Run_elders : GS := sRet (gLc [3] (gRange1 (gaCons (gVar 2) (gaNil))) (dName 3) (gB (gCall 4 (F_keeps) (gaCons (gFld 50 "design" (gVar 0)) (gaCons (gVar 1) (gaCons (gVar 3) (gaCons (gVar 2) (gaNil))))))) (gVar 3))
def F_Run_elders : List D → S → R D := runF 4 b_Run_elders
theorem sc_Run_elders : FnScope ["self", "core", "place", "first"] ["self", "core", "place"] (defScope s_Run_elders) := ⟨rfl, rfl, rfl, by decide +kernel, rfl, by decide +kernel, by decide +kernel⟩
theorem j_Run_elders (Fx : Fx P w K mg ca) : JMeth P w K mg base ca 4 50 "elders" 2 F_Run_elders := by
  obtain ⟨f, fd, hm, F⟩ := Fx.m_Run_elders
  refine ⟨⟨f, fd, ["self", "core", "place"], hm, F.bindsN (fun _ _ _ _ _ _ us hl => match us, hl with | [_, _, _], _ => rfl), rfl, fnJD F sc_Run_elders fun cdv A outer s H E hr => ?_⟩⟩
  have tk : Takes (cxOf (L2.CX P w) P w K mg base ["self", "core", "place", "first"] "Run.elders" (defScope s_Run_elders) f cdv A outer s H E) (fun cls d _ H => E cls d H) := takes_of rfl rfl rfl rfl
  exact jss_one (js_ret (je_lc rfl sc_Run_elders.nd (ji_range1 Fx.bi_range (ja_cons (je_var 2) (ja_nil))) (blkOk_by (N := ["self", "core", "place", "first"]) (sc := defScope s_Run_elders) (by decide +kernel)) (fun _ _ _ _ _ => pg_name (i := 3) sc_Run_elders.nd rfl (by first | exact Or.inl rfl | exact Or.inr rfl)) (fun _ _ _ _ _ => jts_one (jt_val (je_call (j_keeps Fx) (hr.mono (by decide)) takes0 (ja_cons (je_fld Fx.k_Run Fx.n_Run_design (je_var 0)) (ja_cons (je_var 1) (ja_cons (je_var 3) (ja_cons (je_var 2) (ja_nil)))))))) (fun _ _ _ _ _ => je_var 3)))
abbrev s_Run___init__ : Stmt := mst 71 0
def b_Run___init__ : GS := sSeq (sAsg2 (gTup (gaCons (gVar 1) (gaCons (gVar 2) (gaNil)))) (d2Tup 2 (ds2Cons (d2Fld 50 "design" (gVar 0)) (ds2Cons (d2Fld 50 "program" (gVar 0)) (ds2Nil))))) (sSeq (sFldJ 50 "done" (gVar 0) (gLc [3] (gItems (gVar 2)) (dName 3) (gYes) (gRepM (gLst (gaCons (gC (.bl false)) (gaNil))) (gF (f1 fLen) (gaCons (gVar 3) (gaNil)))))) (sSeq (sFldJ 50 "taken" (gVar 0) (gLc [3] (gItems (gVar 2)) (dName 3) (gYes) (gRepM (gLst (gaCons (gC (.int 0)) (gaNil))) (gF (f1 fLen) (gaCons (gVar 3) (gaNil)))))) (sSeq (sFldJ 50 "ends" (gVar 0) (gLcO [3] (gItems (gVar 2)) (dName 3) (gYes) (gF (f1 fLen) (gaCons (gVar 3) (gaNil))))) (sSeq (sFldJ 50 "cells" (gVar 0) (gRepM (gLst (gaCons (gC (.int 0)) (gaNil))) (gC c_CELLS))) (sFldJ 50 "ahead" (gVar 0) (gLc [3] (gItems (gVar 2)) (dName 3) (gYes) (gLc [4] (gRange1 (gaCons (gF (f1 fLen) (gaCons (gVar 3) (gaNil))) (gaNil))) (dName 4) (gYes) (gMeth 50 2 "elders" (F_Run_elders) (gVar 0) (gaCons (gVar 3) (gaCons (gVar 4) (gaNil)))))))))))
def F_Run___init__ : List D → S → R D := runF 5 b_Run___init__
theorem sc_Run___init__ : FnScope ["self", "design", "program", "core", "place"] ["self", "design", "program"] (defScope s_Run___init__) := ⟨rfl, rfl, rfl, by decide +kernel, rfl, by decide +kernel, by decide +kernel⟩
theorem jm_Run (Fx : Fx P w K mg ca) : JMake P w K mg base ca 5 50 "Run" 2 F_Run___init__ := by
  obtain ⟨f, fd, hm, hmk, F⟩ := Fx.m_Run___init__
  refine ⟨⟨f, fd, ["self", "design", "program"], hm, hmk, F.bindsN (fun _ _ _ _ _ _ us hl => match us, hl with | [_, _, _], _ => rfl), rfl, fnJD F sc_Run___init__ fun cdv A outer s H E hr => ?_⟩⟩
  have tk : Takes (cxOf (L2.CX P w) P w K mg base ["self", "design", "program", "core", "place"] "Run.__init__" (defScope s_Run___init__) f cdv A outer s H E) (fun cls d _ H => E cls d H) := takes_of rfl rfl rfl rfl
  exact jss_cons (js_asg2 (je_tup (ja_cons (je_var 1) (ja_cons (je_var 2) (ja_nil)))) (jg2_tup rfl (jgs2_cons (jg2_fld (W := W0) Fx.k_Run Fx.n_Run_design (je_var 0)) (jgs2_cons (jg2_fld (W := W0) Fx.k_Run Fx.n_Run_program (je_var 0)) (jgs2_nil))))) (jss_cons (js_fld Fx.k_Run Fx.n_Run_done (je_var 0) (je_lc rfl sc_Run___init__.nd (ji_seq (je_var 2)) (blkOk_by (N := ["self", "design", "program", "core", "place"]) (sc := defScope s_Run___init__) (by decide +kernel)) (fun _ _ _ _ _ => pg_name (i := 3) sc_Run___init__.nd rfl (by first | exact Or.inl rfl | exact Or.inr rfl)) (fun _ _ _ _ _ => jts_nil) (fun _ _ _ _ _ => je_repM (je_lst (ja_cons (je_bl) (ja_nil))) (je_B cj_len Fx.bi_len bt_len (ja_cons (je_var 3) (ja_nil)))))) (jss_cons (js_fld Fx.k_Run Fx.n_Run_taken (je_var 0) (je_lc rfl sc_Run___init__.nd (ji_seq (je_var 2)) (blkOk_by (N := ["self", "design", "program", "core", "place"]) (sc := defScope s_Run___init__) (by decide +kernel)) (fun _ _ _ _ _ => pg_name (i := 3) sc_Run___init__.nd rfl (by first | exact Or.inl rfl | exact Or.inr rfl)) (fun _ _ _ _ _ => jts_nil) (fun _ _ _ _ _ => je_repM (je_lst (ja_cons (je_int) (ja_nil))) (je_B cj_len Fx.bi_len bt_len (ja_cons (je_var 3) (ja_nil)))))) (jss_cons (js_fld Fx.k_Run Fx.n_Run_ends (je_var 0) (je_lcO rfl sc_Run___init__.nd (ji_seq (je_var 2)) (blkOk_by (N := ["self", "design", "program", "core", "place"]) (sc := defScope s_Run___init__) (by decide +kernel)) (fun _ _ _ _ _ => pg_name (i := 3) sc_Run___init__.nd rfl (by first | exact Or.inl rfl | exact Or.inr rfl)) (fun _ _ _ _ _ => jts_nil) (fun _ _ _ _ _ => je_B cj_len Fx.bi_len bt_len (ja_cons (je_var 3) (ja_nil))))) (jss_cons (js_fld Fx.k_Run Fx.n_Run_cells (je_var 0) (je_repM (je_lst (ja_cons (je_int) (ja_nil))) (je_k Fx.c_CELLS))) (jss_one (js_fld Fx.k_Run Fx.n_Run_ahead (je_var 0) (je_lc rfl sc_Run___init__.nd (ji_seq (je_var 2)) (blkOk_by (N := ["self", "design", "program", "core", "place"]) (sc := defScope s_Run___init__) (by decide +kernel)) (fun _ _ _ _ _ => pg_name (i := 3) sc_Run___init__.nd rfl (by first | exact Or.inl rfl | exact Or.inr rfl)) (fun _ _ _ _ _ => jts_nil) (fun _ _ _ _ _ => je_lc rfl sc_Run___init__.nd (ji_range1 Fx.bi_range (ja_cons (je_B cj_len Fx.bi_len bt_len (ja_cons (je_var 3) (ja_nil))) (ja_nil))) (blkOk_by (N := ["self", "design", "program", "core", "place"]) (sc := _) (by kernel_rfl)) (fun _ _ _ _ _ => pg_name (i := 4) sc_Run___init__.nd rfl (by first | exact Or.inl rfl | exact Or.inr rfl)) (fun _ _ _ _ _ => jts_nil) (fun _ _ _ _ _ => je_meth Fx.k_Run (j_Run_elders Fx) (hr.mono (by decide)) takes0 (je_var 0) (ja_cons (je_var 3) (ja_cons (je_var 4) (ja_nil))))))))))))
abbrev s_Run_stand : Stmt := mst 71 2
def b_Run_stand : GS := sSeq (sAsg (gF (f1 fTuple) (gaCons (gLc [2] (gItems (gFld 50 "done" (gVar 0))) (dName 2) (gYes) (gF (f1 fTuple) (gaCons (gVar 2) (gaNil)))) (gaNil))) (dName 1)) (sRet (gTup (gaCons (gVar 1) (gaCons (gF (f1 fTuple) (gaCons (gLc [2] (gItems (gFld 50 "taken" (gVar 0))) (dName 2) (gYes) (gF (f1 fTuple) (gaCons (gVar 2) (gaNil)))) (gaNil))) (gaCons (gF (f1 fTuple) (gaCons (gFld 50 "ends" (gVar 0)) (gaNil))) (gaCons (gF (f1 fTuple) (gaCons (gFld 50 "cells" (gVar 0)) (gaNil))) (gaNil)))))))
def F_Run_stand : List D → S → R D := runF 3 b_Run_stand
theorem sc_Run_stand : FnScope ["self", "done", "row"] ["self"] (defScope s_Run_stand) := ⟨rfl, rfl, rfl, by decide +kernel, rfl, by decide +kernel, by decide +kernel⟩
theorem j_Run_stand (Fx : Fx P w K mg ca) : JMeth P w K mg base ca 1 50 "stand" 0 F_Run_stand := by
  obtain ⟨f, fd, hm, F⟩ := Fx.m_Run_stand
  refine ⟨⟨f, fd, ["self"], hm, F.bindsN (fun _ _ _ _ _ _ us hl => match us, hl with | [_], _ => rfl), rfl, fnJD F sc_Run_stand fun cdv A outer s H E hr => ?_⟩⟩
  have tk : Takes (cxOf (L2.CX P w) P w K mg base ["self", "done", "row"] "Run.stand" (defScope s_Run_stand) f cdv A outer s H E) (fun cls d _ H => E cls d H) := takes_of rfl rfl rfl rfl
  exact jss_cons (js_set 1 sc_Run_stand.nd (je_Ty cj_tuple Fx.bi_tuple bt_tuple (ja_cons (je_lc rfl sc_Run_stand.nd (ji_seq (je_fld Fx.k_Run Fx.n_Run_done (je_var 0))) (blkOk_by (N := ["self", "done", "row"]) (sc := defScope s_Run_stand) (by decide +kernel)) (fun _ _ _ _ _ => pg_name (i := 2) sc_Run_stand.nd rfl (by first | exact Or.inl rfl | exact Or.inr rfl)) (fun _ _ _ _ _ => jts_nil) (fun _ _ _ _ _ => je_Ty cj_tuple Fx.bi_tuple bt_tuple (ja_cons (je_var 2) (ja_nil)))) (ja_nil)))) (jss_one (js_ret (je_tup (ja_cons (je_var 1) (ja_cons (je_Ty cj_tuple Fx.bi_tuple bt_tuple (ja_cons (je_lc rfl sc_Run_stand.nd (ji_seq (je_fld Fx.k_Run Fx.n_Run_taken (je_var 0))) (blkOk_by (N := ["self", "done", "row"]) (sc := defScope s_Run_stand) (by decide +kernel)) (fun _ _ _ _ _ => pg_name (i := 2) sc_Run_stand.nd rfl (by first | exact Or.inl rfl | exact Or.inr rfl)) (fun _ _ _ _ _ => jts_nil) (fun _ _ _ _ _ => je_Ty cj_tuple Fx.bi_tuple bt_tuple (ja_cons (je_var 2) (ja_nil)))) (ja_nil))) (ja_cons (je_Ty cj_tuple Fx.bi_tuple bt_tuple (ja_cons (je_fld Fx.k_Run Fx.n_Run_ends (je_var 0)) (ja_nil))) (ja_cons (je_Ty cj_tuple Fx.bi_tuple bt_tuple (ja_cons (je_fld Fx.k_Run Fx.n_Run_cells (je_var 0)) (ja_nil))) (ja_nil))))))))
abbrev s_Run_word : Stmt := mst 71 3
def b_Run_word : GS := sSeq (sAsg (gCall 3 (F_last_read) (gaCons (gOp2 fIdx (gFld 50 "program" (gVar 0)) (gVar 1)) (gaCons (gVar 2) (gaCons (gVar 3) (gaNil))))) (dName 4)) (sRet (gIf (gB (gOp2 fIs (gVar 4) (gC .non))) (gC (.int 0)) (gOp2 fIdx (gOp2 fIdx (gFld 50 "taken" (gVar 0)) (gVar 1)) (gVar 4))))
def F_Run_word : List D → S → R D := runF 5 b_Run_word
theorem sc_Run_word : FnScope ["self", "core", "place", "reg", "read"] ["self", "core", "place", "reg"] (defScope s_Run_word) := ⟨rfl, rfl, rfl, by decide +kernel, rfl, by decide +kernel, by decide +kernel⟩
theorem j_Run_word (Fx : Fx P w K mg ca) : JMeth P w K mg base ca 2 50 "word" 3 F_Run_word := by
  obtain ⟨f, fd, hm, F⟩ := Fx.m_Run_word
  refine ⟨⟨f, fd, ["self", "core", "place", "reg"], hm, F.bindsN (fun _ _ _ _ _ _ us hl => match us, hl with | [_, _, _, _], _ => rfl), rfl, fnJD F sc_Run_word fun cdv A outer s H E hr => ?_⟩⟩
  have tk : Takes (cxOf (L2.CX P w) P w K mg base ["self", "core", "place", "reg", "read"] "Run.word" (defScope s_Run_word) f cdv A outer s H E) (fun cls d _ H => E cls d H) := takes_of rfl rfl rfl rfl
  exact jss_cons (js_set 4 sc_Run_word.nd (je_call (j_last_read Fx) (hr.mono (by decide)) tk (ja_cons (je_ix (je_fld Fx.k_Run Fx.n_Run_program (je_var 0)) (je_var 1)) (ja_cons (je_var 2) (ja_cons (je_var 3) (ja_nil)))))) (jss_one (js_ret (je_if (jt_cmp oj_is (je_var 4) (je_non)) (je_int) (je_ix (je_ix (je_fld Fx.k_Run Fx.n_Run_taken (je_var 0)) (je_var 1)) (je_var 4)))))
abbrev s_Run_can : Stmt := mst 71 4
def b_Run_can : GS := sSeq (sIf (gOr (gB (gOp2 fIdx (gOp2 fIdx (gFld 50 "done" (gVar 0)) (gVar 1)) (gVar 2))) (gB (gOp2 fGt (gVar 2) (gOp2 fIdx (gFld 50 "ends" (gVar 0)) (gVar 1))))) (sRet (gC (.bl false))) (sNext)) (sSeq (sIf (gB (gF (f1 fAny) (gaCons (gLc [4] (gItems (gOp2 fIdx (gOp2 fIdx (gFld 50 "ahead" (gVar 0)) (gVar 1)) (gVar 2))) (dName 4) (gYes) (gNotV (gOp2 fIdx (gOp2 fIdx (gFld 50 "done" (gVar 0)) (gVar 1)) (gVar 4)))) (gaNil)))) (sRet (gC (.bl false))) (sNext)) (sSeq (sAsg (gOp2 fIdx (gOp2 fIdx (gFld 50 "program" (gVar 0)) (gVar 1)) (gVar 2)) (dName 3)) (sSeq (sIf (gOr (gB (gOp2 fNe (gOp2 fIdx (gVar 3) (gC (.int 0))) (gC (.str (PySem.Str.ofString "guard"))))) (gB (gOp2 fEq (gMeth 50 3 "word" (F_Run_word) (gVar 0) (gaCons (gVar 1) (gaCons (gVar 2) (gaCons (gOp2 fIdx (gVar 3) (gC (.int 1))) (gaNil))))) (gOp2 fIdx (gVar 3) (gC (.int 2)))))) (sRet (gC (.bl true))) (sNext)) (sRet (gNotV (gF (f1 fAny) (gaCons (gSl (gOp2 fIdx (gFld 50 "done" (gVar 0)) (gVar 1)) (goSome (gOp2 fAdd (gVar 2) (gC (.int 1)))) (goNone)) (gaNil))))))))
def F_Run_can : List D → S → R D := runF 5 b_Run_can
theorem sc_Run_can : FnScope ["self", "core", "place", "instruction", "first"] ["self", "core", "place"] (defScope s_Run_can) := ⟨rfl, rfl, rfl, by decide +kernel, rfl, by decide +kernel, by decide +kernel⟩
theorem j_Run_can (Fx : Fx P w K mg ca) : JMeth P w K mg base ca 3 50 "can" 2 F_Run_can := by
  obtain ⟨f, fd, hm, F⟩ := Fx.m_Run_can
  refine ⟨⟨f, fd, ["self", "core", "place"], hm, F.bindsN (fun _ _ _ _ _ _ us hl => match us, hl with | [_, _, _], _ => rfl), rfl, fnJD F sc_Run_can fun cdv A outer s H E hr => ?_⟩⟩
  have tk : Takes (cxOf (L2.CX P w) P w K mg base ["self", "core", "place", "instruction", "first"] "Run.can" (defScope s_Run_can) f cdv A outer s H E) (fun cls d _ H => E cls d H) := takes_of rfl rfl rfl rfl
  exact jss_cons (js_if (jw_t (jw_or (jt_val (je_ix (je_ix (je_fld Fx.k_Run Fx.n_Run_done (je_var 0)) (je_var 1)) (je_var 2))) (jw_or1 (jt_cmp oj_gt (je_var 2) (je_ix (je_fld Fx.k_Run Fx.n_Run_ends (je_var 0)) (je_var 1)))))) (jss_one (js_ret (je_bl))) (jss_nil)) (jss_cons (js_if (jt_val (je_B (cj_any rfl) Fx.bi_any bt_any (ja_cons (je_lc rfl sc_Run_can.nd (ji_seq (je_ix (je_ix (je_fld Fx.k_Run Fx.n_Run_ahead (je_var 0)) (je_var 1)) (je_var 2))) (blkOk_by (N := ["self", "core", "place", "instruction", "first"]) (sc := defScope s_Run_can) (by decide +kernel)) (fun _ _ _ _ _ => pg_name (i := 4) sc_Run_can.nd rfl (by first | exact Or.inl rfl | exact Or.inr rfl)) (fun _ _ _ _ _ => jts_nil) (fun _ _ _ _ _ => je_not (je_ix (je_ix (je_fld Fx.k_Run Fx.n_Run_done (je_var 0)) (je_var 1)) (je_var 4)))) (ja_nil)))) (jss_one (js_ret (je_bl))) (jss_nil)) (jss_cons (js_set 3 sc_Run_can.nd (je_ix (je_ix (je_fld Fx.k_Run Fx.n_Run_program (je_var 0)) (je_var 1)) (je_var 2))) (jss_cons (js_if (jw_t (jw_or (jt_cmp (oj_ne hr.units) (je_ix (je_var 3) (je_int)) (je_str)) (jw_or1 (jt_cmp (oj_eq hr.units) (je_meth Fx.k_Run (j_Run_word Fx) (hr.mono (by decide)) tk (je_var 0) (ja_cons (je_var 1) (ja_cons (je_var 2) (ja_cons (je_ix (je_var 3) (je_int)) (ja_nil))))) (je_ix (je_var 3) (je_int)))))) (jss_one (js_ret (je_bl))) (jss_nil)) (jss_one (js_ret (je_not (je_B (cj_any rfl) Fx.bi_any bt_any (ja_cons (je_slice (je_ix (je_fld Fx.k_Run Fx.n_Run_done (je_var 0)) (je_var 1)) (jo_some (je_op oj_add (je_var 2) (je_int))) (jo_none)) (ja_nil)))))))))
abbrev s_Run_events : Stmt := mst 71 5
def b_Run_events : GS := sSeq (sAsg (gLstM (gaNil)) (dName 1)) (sSeq (sFor (dName 2) (gRange1 (gaCons (gF (f1 fLen) (gaCons (gFld 50 "program" (gVar 0)) (gaNil))) (gaNil))) (sExpr (gExt (gVar 1) (gLc [3] (gRange1 (gaCons (gF (f1 fLen) (gaCons (gOp2 fIdx (gFld 50 "program" (gVar 0)) (gVar 2)) (gaNil))) (gaNil))) (dName 3) (gB (gMeth 50 2 "can" (F_Run_can) (gVar 0) (gaCons (gVar 2) (gaCons (gVar 3) (gaNil))))) (gTup (gaCons (gVar 2) (gaCons (gVar 3) (gaNil)))))))) (sRet (gVar 1)))
def F_Run_events : List D → S → R D := runF 4 b_Run_events
theorem sc_Run_events : FnScope ["self", "found", "core", "place"] ["self"] (defScope s_Run_events) := ⟨rfl, rfl, rfl, by decide +kernel, rfl, by decide +kernel, by decide +kernel⟩
theorem j_Run_events (Fx : Fx P w K mg ca) : JMeth P w K mg base ca 4 50 "events" 0 F_Run_events := by
  obtain ⟨f, fd, hm, F⟩ := Fx.m_Run_events
  refine ⟨⟨f, fd, ["self"], hm, F.bindsN (fun _ _ _ _ _ _ us hl => match us, hl with | [_], _ => rfl), rfl, fnJD F sc_Run_events fun cdv A outer s H E hr => ?_⟩⟩
  have tk : Takes (cxOf (L2.CX P w) P w K mg base ["self", "found", "core", "place"] "Run.events" (defScope s_Run_events) f cdv A outer s H E) (fun cls d _ H => E cls d H) := takes_of rfl rfl rfl rfl
  exact jss_cons (js_set 1 sc_Run_events.nd (je_lstM (ja_nil))) (jss_cons (js_for (passes_of rfl) rfl (ji_range1 Fx.bi_range (ja_cons (je_B cj_len Fx.bi_len bt_len (ja_cons (je_fld Fx.k_Run Fx.n_Run_program (je_var 0)) (ja_nil))) (ja_nil))) (jg_name 2 sc_Run_events.nd) (jss_one (js_expr (je_extend (je_var 1) (je_lc rfl sc_Run_events.nd (ji_range1 Fx.bi_range (ja_cons (je_B cj_len Fx.bi_len bt_len (ja_cons (je_ix (je_fld Fx.k_Run Fx.n_Run_program (je_var 0)) (je_var 2)) (ja_nil))) (ja_nil))) (blkOk_by (N := ["self", "found", "core", "place"]) (sc := defScope s_Run_events) (by decide +kernel)) (fun _ _ _ _ _ => pg_name (i := 3) sc_Run_events.nd rfl (by first | exact Or.inl rfl | exact Or.inr rfl)) (fun _ _ _ _ _ => jts_one (jt_val (je_meth Fx.k_Run (j_Run_can Fx) (hr.mono (by decide)) takes0 (je_var 0) (ja_cons (je_var 2) (ja_cons (je_var 3) (ja_nil)))))) (fun _ _ _ _ _ => je_tup (ja_cons (je_var 2) (ja_cons (je_var 3) (ja_nil))))))))) (jss_one (js_ret (je_var 1))))
abbrev s_Run_has_ended : Stmt := mst 71 6
def b_Run_has_ended : GS := sRet (gF (f1 fAll) (gaCons (gLc [1] (gRange1 (gaCons (gF (f1 fLen) (gaCons (gFld 50 "program" (gVar 0)) (gaNil))) (gaNil))) (dName 1) (gYes) (gF (f1 fAll) (gaCons (gSl (gOp2 fIdx (gFld 50 "done" (gVar 0)) (gVar 1)) (goNone) (goSome (gOp2 fAdd (gOp2 fIdx (gFld 50 "ends" (gVar 0)) (gVar 1)) (gC (.int 1))))) (gaNil)))) (gaNil)))
def F_Run_has_ended : List D → S → R D := runF 2 b_Run_has_ended
theorem sc_Run_has_ended : FnScope ["self", "core"] ["self"] (defScope s_Run_has_ended) := ⟨rfl, rfl, rfl, by decide +kernel, rfl, by decide +kernel, by decide +kernel⟩
theorem j_Run_has_ended (Fx : Fx P w K mg ca) : JMeth P w K mg base ca 1 50 "has_ended" 0 F_Run_has_ended := by
  obtain ⟨f, fd, hm, F⟩ := Fx.m_Run_has_ended
  refine ⟨⟨f, fd, ["self"], hm, F.bindsN (fun _ _ _ _ _ _ us hl => match us, hl with | [_], _ => rfl), rfl, fnJD F sc_Run_has_ended fun cdv A outer s H E hr => ?_⟩⟩
  have tk : Takes (cxOf (L2.CX P w) P w K mg base ["self", "core"] "Run.has_ended" (defScope s_Run_has_ended) f cdv A outer s H E) (fun cls d _ H => E cls d H) := takes_of rfl rfl rfl rfl
  exact jss_one (js_ret (je_B (cj_all rfl) Fx.bi_all bt_all (ja_cons (je_lc rfl sc_Run_has_ended.nd (ji_range1 Fx.bi_range (ja_cons (je_B cj_len Fx.bi_len bt_len (ja_cons (je_fld Fx.k_Run Fx.n_Run_program (je_var 0)) (ja_nil))) (ja_nil))) (blkOk_by (N := ["self", "core"]) (sc := defScope s_Run_has_ended) (by decide +kernel)) (fun _ _ _ _ _ => pg_name (i := 1) sc_Run_has_ended.nd rfl (by first | exact Or.inl rfl | exact Or.inr rfl)) (fun _ _ _ _ _ => jts_nil) (fun _ _ _ _ _ => je_B (cj_all rfl) Fx.bi_all bt_all (ja_cons (je_slice (je_ix (je_fld Fx.k_Run Fx.n_Run_done (je_var 0)) (je_var 1)) (jo_none) (jo_some (je_op oj_add (je_ix (je_fld Fx.k_Run Fx.n_Run_ends (je_var 0)) (je_var 1)) (je_int)))) (ja_nil)))) (ja_nil))))
abbrev s_Run_written : Stmt := mst 71 9
def b_Run_written : GS := sSeq (sAsg (gOp2 fIdx (gOp2 fIdx (gFld 50 "program" (gVar 0)) (gVar 1)) (gVar 2)) (dName 3)) (sRet (gIf (gB (gOp2 fEq (gOp2 fIdx (gVar 3) (gC (.int 0))) (gC (.str (PySem.Str.ofString "write"))))) (gOp2 fIdx (gVar 3) (gC (.int 2))) (gMeth 50 3 "word" (F_Run_word) (gVar 0) (gaCons (gVar 1) (gaCons (gVar 2) (gaCons (gOp2 fIdx (gVar 3) (gC (.int 2))) (gaNil)))))))
def F_Run_written : List D → S → R D := runF 4 b_Run_written
theorem sc_Run_written : FnScope ["self", "core", "place", "instruction"] ["self", "core", "place"] (defScope s_Run_written) := ⟨rfl, rfl, rfl, by decide +kernel, rfl, by decide +kernel, by decide +kernel⟩
theorem j_Run_written (Fx : Fx P w K mg ca) : JMeth P w K mg base ca 3 50 "written" 2 F_Run_written := by
  obtain ⟨f, fd, hm, F⟩ := Fx.m_Run_written
  refine ⟨⟨f, fd, ["self", "core", "place"], hm, F.bindsN (fun _ _ _ _ _ _ us hl => match us, hl with | [_, _, _], _ => rfl), rfl, fnJD F sc_Run_written fun cdv A outer s H E hr => ?_⟩⟩
  have tk : Takes (cxOf (L2.CX P w) P w K mg base ["self", "core", "place", "instruction"] "Run.written" (defScope s_Run_written) f cdv A outer s H E) (fun cls d _ H => E cls d H) := takes_of rfl rfl rfl rfl
  exact jss_cons (js_set 3 sc_Run_written.nd (je_ix (je_ix (je_fld Fx.k_Run Fx.n_Run_program (je_var 0)) (je_var 1)) (je_var 2))) (jss_one (js_ret (je_if (jt_cmp (oj_eq hr.units) (je_ix (je_var 3) (je_int)) (je_str)) (je_ix (je_var 3) (je_int)) (je_meth Fx.k_Run (j_Run_word Fx) (hr.mono (by decide)) tk (je_var 0) (ja_cons (je_var 1) (ja_cons (je_var 2) (ja_cons (je_ix (je_var 3) (je_int)) (ja_nil))))))))
abbrev s_Run_seen : Stmt := mst 71 10
def b_Run_seen : GS := sSeq (sAsg (gCall 3 (F_last_writing) (gaCons (gOp2 fIdx (gFld 50 "program" (gVar 0)) (gVar 1)) (gaCons (gVar 2) (gaCons (gVar 3) (gaNil))))) (dName 4)) (sSeq (sIf (gAnd (gB (gOp2 fIsN (gVar 4) (gC .non))) (gNot (gB (gOp2 fIdx (gOp2 fIdx (gFld 50 "done" (gVar 0)) (gVar 1)) (gVar 4))))) (sRet (gMeth 50 2 "written" (F_Run_written) (gVar 0) (gaCons (gVar 1) (gaCons (gVar 4) (gaNil))))) (sNext)) (sRet (gOp2 fIdx (gFld 50 "cells" (gVar 0)) (gVar 3))))
def F_Run_seen : List D → S → R D := runF 5 b_Run_seen
theorem sc_Run_seen : FnScope ["self", "core", "place", "cell", "own"] ["self", "core", "place", "cell"] (defScope s_Run_seen) := ⟨rfl, rfl, rfl, by decide +kernel, rfl, by decide +kernel, by decide +kernel⟩
theorem j_Run_seen (Fx : Fx P w K mg ca) : JMeth P w K mg base ca 4 50 "seen" 3 F_Run_seen := by
  obtain ⟨f, fd, hm, F⟩ := Fx.m_Run_seen
  refine ⟨⟨f, fd, ["self", "core", "place", "cell"], hm, F.bindsN (fun _ _ _ _ _ _ us hl => match us, hl with | [_, _, _, _], _ => rfl), rfl, fnJD F sc_Run_seen fun cdv A outer s H E hr => ?_⟩⟩
  have tk : Takes (cxOf (L2.CX P w) P w K mg base ["self", "core", "place", "cell", "own"] "Run.seen" (defScope s_Run_seen) f cdv A outer s H E) (fun cls d _ H => E cls d H) := takes_of rfl rfl rfl rfl
  exact jss_cons (js_set 4 sc_Run_seen.nd (je_call (j_last_writing Fx) (hr.mono (by decide)) tk (ja_cons (je_ix (je_fld Fx.k_Run Fx.n_Run_program (je_var 0)) (je_var 1)) (ja_cons (je_var 2) (ja_cons (je_var 3) (ja_nil)))))) (jss_cons (js_if (jw_t (jw_and (jt_cmp oj_isnot (je_var 4) (je_non)) (jw_and1 (jt_not (jt_val (je_ix (je_ix (je_fld Fx.k_Run Fx.n_Run_done (je_var 0)) (je_var 1)) (je_var 4))))))) (jss_one (js_ret (je_meth Fx.k_Run (j_Run_written Fx) (hr.mono (by decide)) tk (je_var 0) (ja_cons (je_var 1) (ja_cons (je_var 4) (ja_nil)))))) (jss_nil)) (jss_one (js_ret (je_ix (je_fld Fx.k_Run Fx.n_Run_cells (je_var 0)) (je_var 3)))))
abbrev s_Run_do : Stmt := mst 71 7
def b_Run_do : GS := sSeq (sAsg (gVar 1) (dTup 2 (dsCons (dName 3) (dsCons (dName 4) (dsNil))))) (sSeq (sPar 5 6 (gaCons (gOp2 fIdx (gOp2 fIdx (gFld 50 "program" (gVar 0)) (gVar 3)) (gVar 4)) (gaCons (gCall 1 (F_cell_of) (gaCons (gOp2 fIdx (gOp2 fIdx (gFld 50 "program" (gVar 0)) (gVar 3)) (gVar 4)) (gaNil))) (gaNil)))) (sSeq (sAsg (gTup (gaCons (gVar 3) (gaCons (gVar 4) (gaCons (gOp2 fIdx (gFld 50 "ends" (gVar 0)) (gVar 3)) (gaCons (gVar 6) (gaCons (gIf (gB (gOp2 fIs (gVar 6) (gC .non))) (gC .non) (gOp2 fIdx (gFld 50 "cells" (gVar 0)) (gVar 6))) (gaNil))))))) (dName 2)) (sSeq (sSetIx (gC (.bl true)) (gOp2 fIdx (gFld 50 "done" (gVar 0)) (gVar 3)) (gVar 4)) (sSeq (sIf (gB (gOp2 fEq (gOp2 fIdx (gVar 5) (gC (.int 0))) (gC (.str (PySem.Str.ofString "read"))))) (sSetIx (gMeth 50 3 "seen" (F_Run_seen) (gVar 0) (gaCons (gVar 3) (gaCons (gVar 4) (gaCons (gVar 6) (gaNil))))) (gOp2 fIdx (gFld 50 "taken" (gVar 0)) (gVar 3)) (gVar 4)) (sIf (gB (gOp2 fIsN (gVar 6) (gC .non))) (sSetIx (gMeth 50 2 "written" (F_Run_written) (gVar 0) (gaCons (gVar 3) (gaCons (gVar 4) (gaNil)))) (gFld 50 "cells" (gVar 0)) (gVar 6)) (sIf (gAnd (gB (gOp2 fEq (gOp2 fIdx (gVar 5) (gC (.int 0))) (gC (.str (PySem.Str.ofString "guard"))))) (gB (gOp2 fNe (gMeth 50 3 "word" (F_Run_word) (gVar 0) (gaCons (gVar 3) (gaCons (gVar 4) (gaCons (gOp2 fIdx (gVar 5) (gC (.int 1))) (gaNil))))) (gOp2 fIdx (gVar 5) (gC (.int 2)))))) (sSetIx (gVar 4) (gFld 50 "ends" (gVar 0)) (gVar 3)) (sNext)))) (sRet (gVar 2))))))
def F_Run_do : List D → S → R D := runF 7 b_Run_do
theorem sc_Run_do : FnScope ["self", "event", "back", "core", "place", "instruction", "cell"] ["self", "event"] (defScope s_Run_do) := ⟨rfl, rfl, rfl, by decide +kernel, rfl, by decide +kernel, by decide +kernel⟩
theorem j_Run_do (Fx : Fx P w K mg ca) : JMeth P w K mg base ca 5 50 "do" 1 F_Run_do := by
  obtain ⟨f, fd, hm, F⟩ := Fx.m_Run_do
  refine ⟨⟨f, fd, ["self", "event"], hm, F.bindsN (fun _ _ _ _ _ _ us hl => match us, hl with | [_, _], _ => rfl), rfl, fnJD F sc_Run_do fun cdv A outer s H E hr => ?_⟩⟩
  have tk : Takes (cxOf (L2.CX P w) P w K mg base ["self", "event", "back", "core", "place", "instruction", "cell"] "Run.do" (defScope s_Run_do) f cdv A outer s H E) (fun cls d _ H => E cls d H) := takes_of rfl rfl rfl rfl
  exact jss_cons (js_asg (je_var 1) (jg_tup rfl (jgs_cons (jg_name 3 sc_Run_do.nd) (jgs_cons (jg_name 4 sc_Run_do.nd) (jgs_nil))))) (jss_cons (js_par 5 6 rfl sc_Run_do.nd (ja_cons (je_ix (je_ix (je_fld Fx.k_Run Fx.n_Run_program (je_var 0)) (je_var 3)) (je_var 4)) (ja_cons (je_call (j_cell_of Fx) (hr.mono (by decide)) tk (ja_cons (je_ix (je_ix (je_fld Fx.k_Run Fx.n_Run_program (je_var 0)) (je_var 3)) (je_var 4)) (ja_nil))) (ja_nil)))) (jss_cons (js_set 2 sc_Run_do.nd (je_tup (ja_cons (je_var 3) (ja_cons (je_var 4) (ja_cons (je_ix (je_fld Fx.k_Run Fx.n_Run_ends (je_var 0)) (je_var 3)) (ja_cons (je_var 6) (ja_cons (je_if (jt_cmp oj_is (je_var 6) (je_non)) (je_non) (je_ix (je_fld Fx.k_Run Fx.n_Run_cells (je_var 0)) (je_var 6))) (ja_nil)))))))) (jss_cons (js_setIx (je_bl) (je_ix (je_fld Fx.k_Run Fx.n_Run_done (je_var 0)) (je_var 3)) (je_var 4)) (jss_cons (js_if (jt_cmp (oj_eq hr.units) (je_ix (je_var 5) (je_int)) (je_str)) (jss_one (js_setIx (je_meth Fx.k_Run (j_Run_seen Fx) (hr.mono (by decide)) tk (je_var 0) (ja_cons (je_var 3) (ja_cons (je_var 4) (ja_cons (je_var 6) (ja_nil))))) (je_ix (je_fld Fx.k_Run Fx.n_Run_taken (je_var 0)) (je_var 3)) (je_var 4))) (jss_one (js_if (jt_cmp oj_isnot (je_var 6) (je_non)) (jss_one (js_setIx (je_meth Fx.k_Run (j_Run_written Fx) (hr.mono (by decide)) tk (je_var 0) (ja_cons (je_var 3) (ja_cons (je_var 4) (ja_nil)))) (je_fld Fx.k_Run Fx.n_Run_cells (je_var 0)) (je_var 6))) (jss_one (js_if (jw_t (jw_and (jt_cmp (oj_eq hr.units) (je_ix (je_var 5) (je_int)) (je_str)) (jw_and1 (jt_cmp (oj_ne hr.units) (je_meth Fx.k_Run (j_Run_word Fx) (hr.mono (by decide)) tk (je_var 0) (ja_cons (je_var 3) (ja_cons (je_var 4) (ja_cons (je_ix (je_var 5) (je_int)) (ja_nil))))) (je_ix (je_var 5) (je_int)))))) (jss_one (js_setIx (je_var 4) (je_fld Fx.k_Run Fx.n_Run_ends (je_var 0)) (je_var 3))) (jss_nil)))))) (jss_one (js_ret (je_var 2)))))))
abbrev s_Run_undo : Stmt := mst 71 8
def b_Run_undo : GS := sSeq (sAsg (gVar 1) (dTup 5 (dsCons (dName 2) (dsCons (dName 3) (dsCons (dName 4) (dsCons (dName 5) (dsCons (dName 6) (dsNil)))))))) (sSeq (sAsg2 (gTup (gaCons (gC (.bl false)) (gaCons (gC (.int 0)) (gaCons (gVar 4) (gaNil))))) (d2Tup 3 (ds2Cons (d2PutL (gOp2 fIdx (gFld 50 "done" (gVar 0)) (gVar 2)) (gVar 3)) (ds2Cons (d2PutL (gOp2 fIdx (gFld 50 "taken" (gVar 0)) (gVar 2)) (gVar 3)) (ds2Cons (d2PutL (gFld 50 "ends" (gVar 0)) (gVar 2)) (ds2Nil)))))) (sIf (gB (gOp2 fIsN (gVar 5) (gC .non))) (sSetIx (gVar 6) (gFld 50 "cells" (gVar 0)) (gVar 5)) (sNext)))
def F_Run_undo : List D → S → R D := runF 7 b_Run_undo
theorem sc_Run_undo : FnScope ["self", "back", "core", "place", "end", "cell", "word"] ["self", "back"] (defScope s_Run_undo) := ⟨rfl, rfl, rfl, by decide +kernel, rfl, by decide +kernel, by decide +kernel⟩
theorem j_Run_undo (Fx : Fx P w K mg ca) : JMeth P w K mg base ca 1 50 "undo" 1 F_Run_undo := by
  obtain ⟨f, fd, hm, F⟩ := Fx.m_Run_undo
  refine ⟨⟨f, fd, ["self", "back"], hm, F.bindsN (fun _ _ _ _ _ _ us hl => match us, hl with | [_, _], _ => rfl), rfl, fnJD F sc_Run_undo fun cdv A outer s H E hr => ?_⟩⟩
  have tk : Takes (cxOf (L2.CX P w) P w K mg base ["self", "back", "core", "place", "end", "cell", "word"] "Run.undo" (defScope s_Run_undo) f cdv A outer s H E) (fun cls d _ H => E cls d H) := takes_of rfl rfl rfl rfl
  exact jss_cons (js_asg (je_var 1) (jg_tup rfl (jgs_cons (jg_name 2 sc_Run_undo.nd) (jgs_cons (jg_name 3 sc_Run_undo.nd) (jgs_cons (jg_name 4 sc_Run_undo.nd) (jgs_cons (jg_name 5 sc_Run_undo.nd) (jgs_cons (jg_name 6 sc_Run_undo.nd) (jgs_nil)))))))) (jss_cons (js_asg2 (je_tup (ja_cons (je_bl) (ja_cons (je_int) (ja_cons (je_var 4) (ja_nil))))) (jg2_tup rfl (jgs2_cons (jg2_putL (W := W0) (je_ix (je_fld Fx.k_Run Fx.n_Run_done (je_var 0)) (je_var 2)) (je_var 3)) (jgs2_cons (jg2_putL (W := W0) (je_ix (je_fld Fx.k_Run Fx.n_Run_taken (je_var 0)) (je_var 2)) (je_var 3)) (jgs2_cons (jg2_putL (W := W0) (je_fld Fx.k_Run Fx.n_Run_ends (je_var 0)) (je_var 2)) (jgs2_nil)))))) (jss_one (js_if (jt_cmp oj_isnot (je_var 5) (je_non)) (jss_one (js_setIx (je_var 6) (je_fld Fx.k_Run Fx.n_Run_cells (je_var 0)) (je_var 5))) (jss_nil))))
abbrev s_Run_outcome : Stmt := mst 71 11
def b_Run_outcome : GS := sSeq (sAsg (gLstM (gaNil)) (dName 1)) (sSeq (sFor (dName 2) (gRange1 (gaCons (gF (f1 fLen) (gaCons (gFld 50 "program" (gVar 0)) (gaNil))) (gaNil))) (sSeq (sPar 4 5 (gaCons (gOp2 fIdx (gFld 50 "program" (gVar 0)) (gVar 2)) (gaCons (gLstM (gaCons (gC (.int 0)) (gaCons (gC (.int 0)) (gaNil)))) (gaNil)))) (sSeq (sFor (dName 3) (gRange1 (gaCons (gF (f1 fLen) (gaCons (gVar 4) (gaNil))) (gaNil))) (sIf (gAnd (gB (gOp2 fEq (gOp2 fIdx (gOp2 fIdx (gVar 4) (gVar 3)) (gC (.int 0))) (gC (.str (PySem.Str.ofString "read"))))) (gB (gOp2 fIdx (gOp2 fIdx (gFld 50 "done" (gVar 0)) (gVar 2)) (gVar 3)))) (sSetIx (gOp2 fIdx (gOp2 fIdx (gFld 50 "taken" (gVar 0)) (gVar 2)) (gVar 3)) (gVar 5) (gOp2 fIdx (gOp2 fIdx (gVar 4) (gVar 3)) (gC (.int 1)))) (sNext))) (sExpr (gApp (gVar 1) (gF (f1 fTuple) (gaCons (gVar 5) (gaNil)))))))) (sRet (gTup (gaCons (gF (f1 fTuple) (gaCons (gVar 1) (gaNil))) (gaCons (gF (f1 fTuple) (gaCons (gFld 50 "cells" (gVar 0)) (gaNil))) (gaNil))))))
def F_Run_outcome : List D → S → R D := runF 6 b_Run_outcome
theorem sc_Run_outcome : FnScope ["self", "found", "core", "place", "instructions", "words"] ["self"] (defScope s_Run_outcome) := ⟨rfl, rfl, rfl, by decide +kernel, rfl, by decide +kernel, by decide +kernel⟩
theorem j_Run_outcome (Fx : Fx P w K mg ca) : JMeth P w K mg base ca 1 50 "outcome" 0 F_Run_outcome := by
  obtain ⟨f, fd, hm, F⟩ := Fx.m_Run_outcome
  refine ⟨⟨f, fd, ["self"], hm, F.bindsN (fun _ _ _ _ _ _ us hl => match us, hl with | [_], _ => rfl), rfl, fnJD F sc_Run_outcome fun cdv A outer s H E hr => ?_⟩⟩
  have tk : Takes (cxOf (L2.CX P w) P w K mg base ["self", "found", "core", "place", "instructions", "words"] "Run.outcome" (defScope s_Run_outcome) f cdv A outer s H E) (fun cls d _ H => E cls d H) := takes_of rfl rfl rfl rfl
  exact jss_cons (js_set 1 sc_Run_outcome.nd (je_lstM (ja_nil))) (jss_cons (js_for (passes_of rfl) rfl (ji_range1 Fx.bi_range (ja_cons (je_B cj_len Fx.bi_len bt_len (ja_cons (je_fld Fx.k_Run Fx.n_Run_program (je_var 0)) (ja_nil))) (ja_nil))) (jg_name 2 sc_Run_outcome.nd) (jss_cons (js_par 4 5 rfl sc_Run_outcome.nd (ja_cons (je_ix (je_fld Fx.k_Run Fx.n_Run_program (je_var 0)) (je_var 2)) (ja_cons (je_lstM (ja_cons (je_int) (ja_cons (je_int) (ja_nil)))) (ja_nil)))) (jss_cons (js_for (passes_of rfl) rfl (ji_range1 Fx.bi_range (ja_cons (je_B cj_len Fx.bi_len bt_len (ja_cons (je_var 4) (ja_nil))) (ja_nil))) (jg_name 3 sc_Run_outcome.nd) (jss_one (js_if (jw_t (jw_and (jt_cmp (oj_eq hr.units) (je_ix (je_ix (je_var 4) (je_var 3)) (je_int)) (je_str)) (jw_and1 (jt_val (je_ix (je_ix (je_fld Fx.k_Run Fx.n_Run_done (je_var 0)) (je_var 2)) (je_var 3)))))) (jss_one (js_setIx (je_ix (je_ix (je_fld Fx.k_Run Fx.n_Run_taken (je_var 0)) (je_var 2)) (je_var 3)) (je_var 5) (je_ix (je_ix (je_var 4) (je_var 3)) (je_int)))) (jss_nil)))) (jss_one (js_expr (je_append (je_var 1) (je_Ty cj_tuple Fx.bi_tuple bt_tuple (ja_cons (je_var 5) (ja_nil))))))))) (jss_one (js_ret (je_tup (ja_cons (je_Ty cj_tuple Fx.bi_tuple bt_tuple (ja_cons (je_var 1) (ja_nil))) (ja_cons (je_Ty cj_tuple Fx.bi_tuple bt_tuple (ja_cons (je_fld Fx.k_Run Fx.n_Run_cells (je_var 0)) (ja_nil))) (ja_nil)))))))
abbrev s_is_event : Stmt := top 73
def b_is_event : GS := sSeq (sIf (gOr (gNot (gB (gCall 3 (F_is_list) (gaCons (gVar 1) (gaCons (gC (.int 2)) (gaCons (gC (.int 2)) (gaNil))))))) (gNot (gB (gCall 3 (F_is_in) (gaCons (gOp2 fIdx (gVar 1) (gC (.int 0))) (gaCons (gC (.int 0)) (gaCons (gOp2 fSub (gF (f1 fLen) (gaCons (gVar 0) (gaNil))) (gC (.int 1))) (gaNil)))))))) (sRet (gC (.bl false))) (sNext)) (sRet (gCall 3 (F_is_in) (gaCons (gOp2 fIdx (gVar 1) (gC (.int 1))) (gaCons (gC (.int 0)) (gaCons (gOp2 fSub (gF (f1 fLen) (gaCons (gOp2 fIdx (gVar 0) (gOp2 fIdx (gVar 1) (gC (.int 0)))) (gaNil))) (gC (.int 1))) (gaNil))))))
def F_is_event : List D → S → R D := runF 2 b_is_event
theorem sc_is_event : FnScope ["program", "value"] ["program", "value"] (defScope s_is_event) := ⟨rfl, rfl, rfl, by decide +kernel, rfl, by decide +kernel, by decide +kernel⟩
theorem j_is_event (Fx : Fx P w K mg ca) : JFn P w K mg base ca 3 "is_event" 2 F_is_event := by
  obtain ⟨f, fd, hm, F⟩ := Fx.d_is_event
  refine ⟨⟨f, fd, ["program", "value"], hm, F.kp, F.bindsN (fun _ _ _ _ _ _ us hl => match us, hl with | [_, _], _ => rfl), rfl, fnJD F sc_is_event fun cdv A outer s H E hr => ?_⟩⟩
  have tk : Takes (cxOf (L2.CX P w) P w K mg base ["program", "value"] "is_event" (defScope s_is_event) f cdv A outer s H E) (fun cls d _ H => E cls d H) := takes_of rfl rfl rfl rfl
  exact jss_cons (js_if (jw_t (jw_or (jt_not (jt_val (je_call (j_is_list Fx) (hr.mono (by decide)) tk (ja_cons (je_var 1) (ja_cons (je_int) (ja_cons (je_int) (ja_nil))))))) (jw_or1 (jt_not (jt_val (je_call (j_is_in Fx) (hr.mono (by decide)) tk (ja_cons (je_ix (je_var 1) (je_int)) (ja_cons (je_int) (ja_cons (je_op oj_sub (je_B cj_len Fx.bi_len bt_len (ja_cons (je_var 0) (ja_nil))) (je_int)) (ja_nil)))))))))) (jss_one (js_ret (je_bl))) (jss_nil)) (jss_one (js_ret (je_call (j_is_in Fx) (hr.mono (by decide)) tk (ja_cons (je_ix (je_var 1) (je_int)) (ja_cons (je_int) (ja_cons (je_op oj_sub (je_B cj_len Fx.bi_len bt_len (ja_cons (je_ix (je_var 0) (je_ix (je_var 1) (je_int))) (ja_nil))) (je_int)) (ja_nil)))))))
abbrev s_need_run : Stmt := top 72
def b_need_run : GS := sSeq (sExpr (gCall 1 (F_need_design) (gaCons (gVar 0) (gaNil)))) (sSeq (sExpr (gCall 1 (F_need_program) (gaCons (gVar 1) (gaNil)))) (sSeq (sIf (gNot (gB (gCall 3 (F_is_list) (gaCons (gVar 2) (gaCons (gC (.int 0)) (gaCons (gC c_MOST_PROGRAM) (gaNil))))))) (sNever) (sNext)) (sSeq (sAsg (gMake 50 2 (F_Run___init__) (gaCons (gVar 0) (gaCons (gVar 1) (gaNil)))) (dName 3)) (sSeq (sFor (dName 4) (gRange1 (gaCons (gF (f1 fLen) (gaCons (gVar 2) (gaNil))) (gaNil))) (sSeq (sIf (gOr (gNot (gB (gCall 2 (F_is_event) (gaCons (gVar 1) (gaCons (gOp2 fIdx (gVar 2) (gVar 4)) (gaNil)))))) (gNot (gB (gMeth 50 2 "can" (F_Run_can) (gVar 3) (gaCons (gOp2 fIdx (gOp2 fIdx (gVar 2) (gVar 4)) (gC (.int 0))) (gaCons (gOp2 fIdx (gOp2 fIdx (gVar 2) (gVar 4)) (gC (.int 1))) (gaNil))))))) (sNever) (sNext)) (sExpr (gMeth 50 1 "do" (F_Run_do) (gVar 3) (gaCons (gOp2 fIdx (gVar 2) (gVar 4)) (gaNil)))))) (sRet (gVar 3))))))
def F_need_run : List D → S → R D := runF 5 b_need_run
theorem sc_need_run : FnScope ["design", "program", "row", "run", "index"] ["design", "program", "row"] (defScope s_need_run) := ⟨rfl, rfl, rfl, by decide +kernel, rfl, by decide +kernel, by decide +kernel⟩
theorem j_need_run (Fx : Fx P w K mg ca) : JFn P w K mg base ca 7 "need_run" 3 F_need_run := by
  obtain ⟨f, fd, hm, F⟩ := Fx.d_need_run
  refine ⟨⟨f, fd, ["design", "program", "row"], hm, F.kp, F.bindsN (fun _ _ _ _ _ _ us hl => match us, hl with | [_, _, _], _ => rfl), rfl, fnJD F sc_need_run fun cdv A outer s H E hr => ?_⟩⟩
  have tk : Takes (cxOf (L2.CX P w) P w K mg base ["design", "program", "row", "run", "index"] "need_run" (defScope s_need_run) f cdv A outer s H E) (fun cls d _ H => E cls d H) := takes_of rfl rfl rfl rfl
  exact jss_cons (js_expr (je_call (j_need_design Fx) (hr.mono (by decide)) tk (ja_cons (je_var 0) (ja_nil)))) (jss_cons (js_expr (je_call (j_need_program Fx) (hr.mono (by decide)) tk (ja_cons (je_var 1) (ja_nil)))) (jss_cons (js_if (jt_not (jt_val (je_call (j_is_list Fx) (hr.mono (by decide)) tk (ja_cons (je_var 2) (ja_cons (je_int) (ja_cons (je_k Fx.c_MOST_PROGRAM) (ja_nil))))))) (jss_one (js_never)) (jss_nil)) (jss_cons (js_set 3 sc_need_run.nd (je_make (jm_Run Fx) (hr.mono (by decide)) (fun _ _ _ _ _ _ _ z => by obtain ⟨_, _, _, _, _, _, _, _, _, _, _, _, q⟩ := z; exact q.elim) (ja_cons (je_var 0) (ja_cons (je_var 1) (ja_nil))))) (jss_cons (js_for (passes_of rfl) rfl (ji_range1 Fx.bi_range (ja_cons (je_B cj_len Fx.bi_len bt_len (ja_cons (je_var 2) (ja_nil))) (ja_nil))) (jg_name 4 sc_need_run.nd) (jss_cons (js_if (jw_t (jw_or (jt_not (jt_val (je_call (j_is_event Fx) (hr.mono (by decide)) tk (ja_cons (je_var 1) (ja_cons (je_ix (je_var 2) (je_var 4)) (ja_nil)))))) (jw_or1 (jt_not (jt_val (je_meth Fx.k_Run (j_Run_can Fx) (hr.mono (by decide)) tk (je_var 3) (ja_cons (je_ix (je_ix (je_var 2) (je_var 4)) (je_int)) (ja_cons (je_ix (je_ix (je_var 2) (je_var 4)) (je_int)) (ja_nil))))))))) (jss_one (js_never)) (jss_nil)) (jss_one (js_expr (je_meth Fx.k_Run (j_Run_do Fx) (hr.mono (by decide)) tk (je_var 3) (ja_cons (je_ix (je_var 2) (je_var 4)) (ja_nil))))))) (jss_one (js_ret (je_var 3)))))))
abbrev s_events_behind : Stmt := top 74
def b_events_behind : GS := sRet (gF (f1 fTuple) (gaCons (gMeth 50 0 "events" (F_Run_events) (gCall 3 (F_need_run) (gaCons (gVar 0) (gaCons (gVar 1) (gaCons (gVar 2) (gaNil))))) gaNil) (gaNil)))
def F_events_behind : List D → S → R D := runF 3 b_events_behind
theorem sc_events_behind : FnScope ["design", "program", "row"] ["design", "program", "row"] (defScope s_events_behind) := ⟨rfl, rfl, rfl, by decide +kernel, rfl, by decide +kernel, by decide +kernel⟩
theorem j_events_behind (Fx : Fx P w K mg ca) : JFn P w K mg base ca 8 "events_behind" 3 F_events_behind := by
  obtain ⟨f, fd, hm, F⟩ := Fx.d_events_behind
  refine ⟨⟨f, fd, ["design", "program", "row"], hm, F.kp, F.bindsN (fun _ _ _ _ _ _ us hl => match us, hl with | [_, _, _], _ => rfl), rfl, fnJD F sc_events_behind fun cdv A outer s H E hr => ?_⟩⟩
  have tk : Takes (cxOf (L2.CX P w) P w K mg base ["design", "program", "row"] "events_behind" (defScope s_events_behind) f cdv A outer s H E) (fun cls d _ H => E cls d H) := takes_of rfl rfl rfl rfl
  exact jss_one (js_ret (je_Ty cj_tuple Fx.bi_tuple bt_tuple (ja_cons (je_meth0 Fx.k_Run (j_Run_events Fx) (hr.mono (by decide)) tk (je_call (j_need_run Fx) (hr.mono (by decide)) tk (ja_cons (je_var 0) (ja_cons (je_var 1) (ja_cons (je_var 2) (ja_nil)))))) (ja_nil))))
abbrev s_told_by : Stmt := top 75
def b_told_by : GS := sSeq (sAsg (gCall 3 (F_need_run) (gaCons (gVar 0) (gaCons (gVar 1) (gaCons (gVar 2) (gaNil))))) (dName 3)) (sSeq (sIf (gNot (gB (gMeth 50 0 "has_ended" (F_Run_has_ended) (gVar 3) gaNil))) (sNever) (sNext)) (sRet (gMeth 50 0 "outcome" (F_Run_outcome) (gVar 3) gaNil)))
def F_told_by : List D → S → R D := runF 4 b_told_by
theorem sc_told_by : FnScope ["design", "program", "row", "run"] ["design", "program", "row"] (defScope s_told_by) := ⟨rfl, rfl, rfl, by decide +kernel, rfl, by decide +kernel, by decide +kernel⟩
theorem j_told_by (Fx : Fx P w K mg ca) : JFn P w K mg base ca 8 "told_by" 3 F_told_by := by
  obtain ⟨f, fd, hm, F⟩ := Fx.d_told_by
  refine ⟨⟨f, fd, ["design", "program", "row"], hm, F.kp, F.bindsN (fun _ _ _ _ _ _ us hl => match us, hl with | [_, _, _], _ => rfl), rfl, fnJD F sc_told_by fun cdv A outer s H E hr => ?_⟩⟩
  have tk : Takes (cxOf (L2.CX P w) P w K mg base ["design", "program", "row", "run"] "told_by" (defScope s_told_by) f cdv A outer s H E) (fun cls d _ H => E cls d H) := takes_of rfl rfl rfl rfl
  exact jss_cons (js_set 3 sc_told_by.nd (je_call (j_need_run Fx) (hr.mono (by decide)) tk (ja_cons (je_var 0) (ja_cons (je_var 1) (ja_cons (je_var 2) (ja_nil)))))) (jss_cons (js_if (jt_not (jt_val (je_meth0 Fx.k_Run (j_Run_has_ended Fx) (hr.mono (by decide)) tk (je_var 3)))) (jss_one (js_never)) (jss_nil)) (jss_one (js_ret (je_meth0 Fx.k_Run (j_Run_outcome Fx) (hr.mono (by decide)) tk (je_var 3)))))
abbrev s_is_plainly : Stmt := top 83
def b_is_plainly (R : List D → S → R D) : GS := sSeq (sIf (gB (gF (fIsi) (gaCons (gVar 0) (gaCons (gC (.ty "tuple")) (gaNil))))) (sRet (gF (f1 fAll) (gaCons (gLc [1] (gItems (gVar 0)) (dName 1) (gYes) (gCall 1 (R) (gaCons (gVar 1) (gaNil)))) (gaNil)))) (sNext)) (sRet (gAndV (gF (fIsi) (gaCons (gVar 0) (gaCons (gC (.ty "int")) (gaNil)))) (gNotV (gF (fIsi) (gaCons (gVar 0) (gaCons (gC (.ty "bool")) (gaNil)))))))
def F_is_plainly : Nat → List D → S → R D
  | 0 => fun _ _ => .no
  | n + 1 => runF 2 (b_is_plainly (F_is_plainly n))
theorem sc_is_plainly : FnScope ["value", "one"] ["value"] (defScope s_is_plainly) := ⟨rfl, rfl, rfl, by decide +kernel, rfl, by decide +kernel, by decide +kernel⟩
theorem j_is_plainly (Fx : Fx P w K mg ca) : ∀ n : Nat, JFn P w K mg base ca (n) "is_plainly" 1 (F_is_plainly n)
  | 0 => by
    obtain ⟨f, fd, hm, F⟩ := Fx.d_is_plainly
    refine ⟨⟨f, fd, ["value"], hm, F.kp, F.bindsN (fun _ _ _ _ _ _ us hl => match us, hl with | [_], _ => rfl), rfl, ⟨fun vs H Q E ⟨ι, ds, s, hr, hm, hl, h⟩ => h.elim, fun A outer s H args us vs Q E _ _ _ _ ⟨ι, ds, s, hr, hm, hl, h⟩ => h.elim⟩⟩⟩
  | n + 1 => by
    have IH : JFn P w K mg base ca (n) "is_plainly" 1 (F_is_plainly n) := j_is_plainly Fx n
    show JFn P w K mg base ca (n + 1) "is_plainly" 1 (F_is_plainly (n + 1))
    obtain ⟨f, fd, hm, F⟩ := Fx.d_is_plainly
    refine ⟨⟨f, fd, ["value"], hm, F.kp, F.bindsN (fun _ _ _ _ _ _ us hl => match us, hl with | [_], _ => rfl), rfl, fnJD F sc_is_plainly fun cdv A outer s H E hr => ?_⟩⟩
    have tk : Takes (cxOf (L2.CX P w) P w K mg base ["value", "one"] "is_plainly" (defScope s_is_plainly) f cdv A outer s H E) (fun cls d _ H => E cls d H) := takes_of rfl rfl rfl rfl
    exact jss_cons (js_if (jt_val (je_B cj_isinstance Fx.bi_isinstance bt_isinstance (ja_cons (je_var 0) (ja_cons (je_ty Fx.bi_tuple bt_tuple) (ja_nil))))) (jss_one (js_ret (je_B (cj_all rfl) Fx.bi_all bt_all (ja_cons (je_lc rfl sc_is_plainly.nd (ji_seq (je_var 0)) (blkOk_by (N := ["value", "one"]) (sc := defScope s_is_plainly) (by decide +kernel)) (fun _ _ _ _ _ => pg_name (i := 1) sc_is_plainly.nd rfl (by first | exact Or.inl rfl | exact Or.inr rfl)) (fun _ _ _ _ _ => jts_nil) (fun _ _ _ _ _ => je_call IH hr takes0 (ja_cons (je_var 1) (ja_nil)))) (ja_nil))))) (jss_nil)) (jss_one (js_ret (je_and (je_B cj_isinstance Fx.bi_isinstance bt_isinstance (ja_cons (je_var 0) (ja_cons (je_ty Fx.bi_int bt_int) (ja_nil)))) (je_one (je_not (je_B cj_isinstance Fx.bi_isinstance bt_isinstance (ja_cons (je_var 0) (ja_cons (je_ty Fx.bi_bool bt_bool) (ja_nil)))))))))
abbrev s_reached : Stmt := top 77
def b_reached (R : List D → S → R D) : GS := sSeq (sAsg (gMeth 50 0 "stand" (F_Run_stand) (gVar 0) gaNil) (dName 2)) (sSeq (sIf (gB (gOp2 fNotInN (gVar 2) (gVar 1))) (sSeq (sAsg (gIf (gB (gMeth 50 0 "has_ended" (F_Run_has_ended) (gVar 0) gaNil)) (gDicN1 (gMeth 50 0 "outcome" (F_Run_outcome) (gVar 0) gaNil) (gC (.bl true))) (gDicN)) (dName 3)) (sSeq (sForM (dName 4) (gMeth 50 0 "events" (F_Run_events) (gVar 0) gaNil) (sSeq (sAsg (gMeth 50 1 "do" (F_Run_do) (gVar 0) (gaCons (gVar 4) (gaNil))) (dName 5)) (sSeq (sExpr (gUpdN (gVar 3) (gCall 2 (R) (gaCons (gVar 0) (gaCons (gVar 1) (gaNil)))))) (sExpr (gMeth 50 1 "undo" (F_Run_undo) (gVar 0) (gaCons (gVar 5) (gaNil))))))) (sDPutN (gVar 3) (gVar 1) (gVar 2)))) (sNext)) (sRet (gOp2 fGetN (gVar 1) (gVar 2))))
def F_reached : Nat → List D → S → R D
  | 0 => fun _ _ => .no
  | n + 1 => runF 6 (b_reached (F_reached n))
theorem sc_reached : FnScope ["run", "known", "spot", "found", "event", "back"] ["run", "known"] (defScope s_reached) := ⟨rfl, rfl, rfl, by decide +kernel, rfl, by decide +kernel, by decide +kernel⟩
theorem j_reached (Fx : Fx P w K mg ca) : ∀ n : Nat, JFn P w K mg base ca (5 + n) "reached" 2 (F_reached n)
  | 0 => by
    obtain ⟨f, fd, hm, F⟩ := Fx.d_reached
    refine ⟨⟨f, fd, ["run", "known"], hm, F.kp, F.bindsN (fun _ _ _ _ _ _ us hl => match us, hl with | [_, _], _ => rfl), rfl, ⟨fun vs H Q E ⟨ι, ds, s, hr, hm, hl, h⟩ => h.elim, fun A outer s H args us vs Q E _ _ _ _ ⟨ι, ds, s, hr, hm, hl, h⟩ => h.elim⟩⟩⟩
  | n + 1 => by
    have IH : JFn P w K mg base ca (5 + n) "reached" 2 (F_reached n) := j_reached Fx n
    show JFn P w K mg base ca (5 + n + 1) "reached" 2 (F_reached (n + 1))
    obtain ⟨f, fd, hm, F⟩ := Fx.d_reached
    refine ⟨⟨f, fd, ["run", "known"], hm, F.kp, F.bindsN (fun _ _ _ _ _ _ us hl => match us, hl with | [_, _], _ => rfl), rfl, fnJD F sc_reached fun cdv A outer s H E hr => ?_⟩⟩
    have tk : Takes (cxOf (L2.CX P w) P w K mg base ["run", "known", "spot", "found", "event", "back"] "reached" (defScope s_reached) f cdv A outer s H E) (fun cls d _ H => E cls d H) := takes_of rfl rfl rfl rfl
    exact jss_cons (js_set 2 sc_reached.nd (je_meth0 Fx.k_Run (j_Run_stand Fx) (hr.mono (by omega)) tk (je_var 0))) (jss_cons (js_if (jt_cmp (oj_notinN (PwJ.mk Fx.pP Fx.pw) hr) (je_var 2) (je_var 1)) (jss_cons (js_set 3 sc_reached.nd (je_if (jt_val (je_meth0 Fx.k_Run (j_Run_has_ended Fx) (hr.mono (by omega)) tk (je_var 0))) (je_dicN1 (PwJ.mk Fx.pP Fx.pw) hr (je_meth0 Fx.k_Run (j_Run_outcome Fx) (hr.mono (by omega)) tk (je_var 0)) (je_bl)) (je_dicN (PwJ.mk Fx.pP Fx.pw)))) (jss_cons (js_forM (passes_of rfl) rfl (je_meth0 Fx.k_Run (j_Run_events Fx) (hr.mono (by omega)) tk (je_var 0)) (jg_name 4 sc_reached.nd) (jss_cons (js_set 5 sc_reached.nd (je_meth Fx.k_Run (j_Run_do Fx) (hr.mono (by omega)) tk (je_var 0) (ja_cons (je_var 4) (ja_nil)))) (jss_cons (js_expr (je_updN (PwJ.mk Fx.pP Fx.pw) hr (je_var 3) (je_call IH hr tk (ja_cons (je_var 0) (ja_cons (je_var 1) (ja_nil)))))) (jss_one (js_expr (je_meth Fx.k_Run (j_Run_undo Fx) (hr.mono (by omega)) tk (je_var 0) (ja_cons (je_var 5) (ja_nil)))))))) (jss_one (js_dputN (PwJ.mk Fx.pP Fx.pw) hr (je_var 3) (je_var 1) (je_var 2))))) (jss_nil)) (jss_one (js_ret (je_getN (PwJ.mk Fx.pP Fx.pw) hr (je_var 1) (je_var 2)))))
abbrev s_outcomes_in : Stmt := top 78
def b_outcomes_in : GS := sRet (gF (f1 fSortDN) (gaCons (gCall 2 (F_reached 11) (gaCons (gMake 50 2 (F_Run___init__) (gaCons (gVar 0) (gaCons (gVar 1) (gaNil)))) (gaCons (gDicN) (gaNil)))) (gaNil)))
def F_outcomes_in : List D → S → R D := runF 2 b_outcomes_in
theorem sc_outcomes_in : FnScope ["design", "program"] ["design", "program"] (defScope s_outcomes_in) := ⟨rfl, rfl, rfl, by decide +kernel, rfl, by decide +kernel, by decide +kernel⟩
theorem j_outcomes_in (Fx : Fx P w K mg ca) : JFn P w K mg base ca 17 "outcomes_in" 2 F_outcomes_in := by
  obtain ⟨f, fd, hm, F⟩ := Fx.d_outcomes_in
  refine ⟨⟨f, fd, ["design", "program"], hm, F.kp, F.bindsN (fun _ _ _ _ _ _ us hl => match us, hl with | [_, _], _ => rfl), rfl, fnJD F sc_outcomes_in fun cdv A outer s H E hr => ?_⟩⟩
  have tk : Takes (cxOf (L2.CX P w) P w K mg base ["design", "program"] "outcomes_in" (defScope s_outcomes_in) f cdv A outer s H E) (fun cls d _ H => E cls d H) := takes_of rfl rfl rfl rfl
  exact jss_one (js_ret (je_B (cj_sortDN (PwJ.mk Fx.pP Fx.pw) hr rfl) Fx.bi_sorted bt_sorted (ja_cons (je_call (j_reached Fx 11) (hr.mono (by decide)) tk (ja_cons (je_make (jm_Run Fx) (hr.mono (by decide)) (fun _ _ _ _ _ _ _ z => by obtain ⟨_, _, _, _, _, _, _, _, _, _, _, _, q⟩ := z; exact q.elim) (ja_cons (je_var 0) (ja_cons (je_var 1) (ja_nil)))) (ja_cons (je_dicN (PwJ.mk Fx.pP Fx.pw)) (ja_nil)))) (ja_nil))))
abbrev s_counted : Stmt := top 80
def b_counted (R : List D → S → R D) : GS := sSeq (sAsg (gMeth 50 0 "stand" (F_Run_stand) (gVar 0) gaNil) (dName 2)) (sSeq (sIf (gB (gOp2 fNotInN (gVar 2) (gVar 1))) (sSeq (sAsg (gIf (gB (gMeth 50 0 "has_ended" (F_Run_has_ended) (gVar 0) gaNil)) (gC (.int 1)) (gC (.int 0))) (dName 3)) (sSeq (sForM (dName 4) (gMeth 50 0 "events" (F_Run_events) (gVar 0) gaNil) (sSeq (sAsg (gMeth 50 1 "do" (F_Run_do) (gVar 0) (gaCons (gVar 4) (gaNil))) (dName 5)) (sSeq (sAugAdd 3 (gCall 2 (R) (gaCons (gVar 0) (gaCons (gVar 1) (gaNil))))) (sExpr (gMeth 50 1 "undo" (F_Run_undo) (gVar 0) (gaCons (gVar 5) (gaNil))))))) (sDPutN (gVar 3) (gVar 1) (gVar 2)))) (sNext)) (sRet (gOp2 fGetN (gVar 1) (gVar 2))))
def F_counted : Nat → List D → S → R D
  | 0 => fun _ _ => .no
  | n + 1 => runF 6 (b_counted (F_counted n))
theorem sc_counted : FnScope ["run", "known", "spot", "found", "event", "back"] ["run", "known"] (defScope s_counted) := ⟨rfl, rfl, rfl, by decide +kernel, rfl, by decide +kernel, by decide +kernel⟩
theorem j_counted (Fx : Fx P w K mg ca) : ∀ n : Nat, JFn P w K mg base ca (5 + n) "counted" 2 (F_counted n)
  | 0 => by
    obtain ⟨f, fd, hm, F⟩ := Fx.d_counted
    refine ⟨⟨f, fd, ["run", "known"], hm, F.kp, F.bindsN (fun _ _ _ _ _ _ us hl => match us, hl with | [_, _], _ => rfl), rfl, ⟨fun vs H Q E ⟨ι, ds, s, hr, hm, hl, h⟩ => h.elim, fun A outer s H args us vs Q E _ _ _ _ ⟨ι, ds, s, hr, hm, hl, h⟩ => h.elim⟩⟩⟩
  | n + 1 => by
    have IH : JFn P w K mg base ca (5 + n) "counted" 2 (F_counted n) := j_counted Fx n
    show JFn P w K mg base ca (5 + n + 1) "counted" 2 (F_counted (n + 1))
    obtain ⟨f, fd, hm, F⟩ := Fx.d_counted
    refine ⟨⟨f, fd, ["run", "known"], hm, F.kp, F.bindsN (fun _ _ _ _ _ _ us hl => match us, hl with | [_, _], _ => rfl), rfl, fnJD F sc_counted fun cdv A outer s H E hr => ?_⟩⟩
    have tk : Takes (cxOf (L2.CX P w) P w K mg base ["run", "known", "spot", "found", "event", "back"] "counted" (defScope s_counted) f cdv A outer s H E) (fun cls d _ H => E cls d H) := takes_of rfl rfl rfl rfl
    exact jss_cons (js_set 2 sc_counted.nd (je_meth0 Fx.k_Run (j_Run_stand Fx) (hr.mono (by omega)) tk (je_var 0))) (jss_cons (js_if (jt_cmp (oj_notinN (PwJ.mk Fx.pP Fx.pw) hr) (je_var 2) (je_var 1)) (jss_cons (js_set 3 sc_counted.nd (je_if (jt_val (je_meth0 Fx.k_Run (j_Run_has_ended Fx) (hr.mono (by omega)) tk (je_var 0))) (je_int) (je_int))) (jss_cons (js_forM (passes_of rfl) rfl (je_meth0 Fx.k_Run (j_Run_events Fx) (hr.mono (by omega)) tk (je_var 0)) (jg_name 4 sc_counted.nd) (jss_cons (js_set 5 sc_counted.nd (je_meth Fx.k_Run (j_Run_do Fx) (hr.mono (by omega)) tk (je_var 0) (ja_cons (je_var 4) (ja_nil)))) (jss_cons (js_augAdd 3 sc_counted.nd (je_call IH hr tk (ja_cons (je_var 0) (ja_cons (je_var 1) (ja_nil))))) (jss_one (js_expr (je_meth Fx.k_Run (j_Run_undo Fx) (hr.mono (by omega)) tk (je_var 0) (ja_cons (je_var 5) (ja_nil)))))))) (jss_one (js_dputN (PwJ.mk Fx.pP Fx.pw) hr (je_var 3) (je_var 1) (je_var 2))))) (jss_nil)) (jss_one (js_ret (je_getN (PwJ.mk Fx.pP Fx.pw) hr (je_var 1) (je_var 2)))))
abbrev s_plain_in : Stmt := top 79
def b_plain_in : GS := sRet (gFor (gCall 2 (F_outcomes_in) (gaCons (gC c_PLAIN) (gaCons (gVar 0) (gaNil)))))
def F_plain_in : List D → S → R D := runF 1 b_plain_in
theorem sc_plain_in : FnScope ["program"] ["program"] (defScope s_plain_in) := ⟨rfl, rfl, rfl, by decide +kernel, rfl, by decide +kernel, by decide +kernel⟩
theorem j_plain_in (Fx : Fx P w K mg ca) : JFn P w K mg base ca 18 "plain_in" 1 F_plain_in := by
  obtain ⟨f, fd, hm, F⟩ := Fx.d_plain_in
  refine ⟨⟨f, fd, ["program"], hm, F.kp, F.bindsN (fun _ _ _ _ _ _ us hl => match us, hl with | [_], _ => rfl), rfl, fnJD F sc_plain_in fun cdv A outer s H E hr => ?_⟩⟩
  have tk : Takes (cxOf (L2.CX P w) P w K mg base ["program"] "plain_in" (defScope s_plain_in) f cdv A outer s H E) (fun cls d _ H => E cls d H) := takes_of rfl rfl rfl rfl
  exact jss_one (js_ret (je_for (je_call (j_outcomes_in Fx) (hr.mono (by decide)) tk (ja_cons (je_k Fx.c_PLAIN) (ja_cons (je_var 0) (ja_nil))))))
abbrev s_outcomes : Stmt := top 81
def b_outcomes : GS := sSeq (sExpr (gCall 1 (F_need_design) (gaCons (gVar 0) (gaNil)))) (sSeq (sExpr (gCall 1 (F_need_program) (gaCons (gVar 1) (gaNil)))) (sRet (gF (f1 fTuple) (gaCons (gFor (gCall 2 (F_outcomes_in) (gaCons (gVar 0) (gaCons (gVar 1) (gaNil))))) (gaNil)))))
def F_outcomes : List D → S → R D := runF 2 b_outcomes
theorem sc_outcomes : FnScope ["design", "program"] ["design", "program"] (defScope s_outcomes) := ⟨rfl, rfl, rfl, by decide +kernel, rfl, by decide +kernel, by decide +kernel⟩
theorem j_outcomes (Fx : Fx P w K mg ca) : JFn P w K mg base ca 18 "outcomes" 2 F_outcomes := by
  obtain ⟨f, fd, hm, F⟩ := Fx.d_outcomes
  refine ⟨⟨f, fd, ["design", "program"], hm, F.kp, F.bindsN (fun _ _ _ _ _ _ us hl => match us, hl with | [_, _], _ => rfl), rfl, fnJD F sc_outcomes fun cdv A outer s H E hr => ?_⟩⟩
  have tk : Takes (cxOf (L2.CX P w) P w K mg base ["design", "program"] "outcomes" (defScope s_outcomes) f cdv A outer s H E) (fun cls d _ H => E cls d H) := takes_of rfl rfl rfl rfl
  exact jss_cons (js_expr (je_call (j_need_design Fx) (hr.mono (by decide)) tk (ja_cons (je_var 0) (ja_nil)))) (jss_cons (js_expr (je_call (j_need_program Fx) (hr.mono (by decide)) tk (ja_cons (je_var 1) (ja_nil)))) (jss_one (js_ret (je_Ty cj_tuple Fx.bi_tuple bt_tuple (ja_cons (je_for (je_call (j_outcomes_in Fx) (hr.mono (by decide)) tk (ja_cons (je_var 0) (ja_cons (je_var 1) (ja_nil))))) (ja_nil))))))
abbrev s_plain_outcomes : Stmt := top 85
def b_plain_outcomes : GS := sSeq (sExpr (gCall 1 (F_need_program) (gaCons (gVar 0) (gaNil)))) (sRet (gF (f1 fTuple) (gaCons (gFor (gCall 1 (F_plain_in) (gaCons (gVar 0) (gaNil)))) (gaNil))))
def F_plain_outcomes : List D → S → R D := runF 1 b_plain_outcomes
theorem sc_plain_outcomes : FnScope ["program"] ["program"] (defScope s_plain_outcomes) := ⟨rfl, rfl, rfl, by decide +kernel, rfl, by decide +kernel, by decide +kernel⟩
theorem j_plain_outcomes (Fx : Fx P w K mg ca) : JFn P w K mg base ca 19 "plain_outcomes" 1 F_plain_outcomes := by
  obtain ⟨f, fd, hm, F⟩ := Fx.d_plain_outcomes
  refine ⟨⟨f, fd, ["program"], hm, F.kp, F.bindsN (fun _ _ _ _ _ _ us hl => match us, hl with | [_], _ => rfl), rfl, fnJD F sc_plain_outcomes fun cdv A outer s H E hr => ?_⟩⟩
  have tk : Takes (cxOf (L2.CX P w) P w K mg base ["program"] "plain_outcomes" (defScope s_plain_outcomes) f cdv A outer s H E) (fun cls d _ H => E cls d H) := takes_of rfl rfl rfl rfl
  exact jss_cons (js_expr (je_call (j_need_program Fx) (hr.mono (by decide)) tk (ja_cons (je_var 0) (ja_nil)))) (jss_one (js_ret (je_Ty cj_tuple Fx.bi_tuple bt_tuple (ja_cons (je_for (je_call (j_plain_in Fx) (hr.mono (by decide)) tk (ja_cons (je_var 0) (ja_nil)))) (ja_nil)))))
abbrev s_count_rows : Stmt := top 84
def b_count_rows : GS := sSeq (sExpr (gCall 1 (F_need_design) (gaCons (gVar 0) (gaNil)))) (sSeq (sExpr (gCall 1 (F_need_program) (gaCons (gVar 1) (gaNil)))) (sRet (gCall 2 (F_counted 7) (gaCons (gMake 50 2 (F_Run___init__) (gaCons (gVar 0) (gaCons (gVar 1) (gaNil)))) (gaCons (gDicN) (gaNil))))))
def F_count_rows : List D → S → R D := runF 2 b_count_rows
theorem sc_count_rows : FnScope ["design", "program"] ["design", "program"] (defScope s_count_rows) := ⟨rfl, rfl, rfl, by decide +kernel, rfl, by decide +kernel, by decide +kernel⟩
theorem j_count_rows (Fx : Fx P w K mg ca) : JFn P w K mg base ca 13 "count_rows" 2 F_count_rows := by
  obtain ⟨f, fd, hm, F⟩ := Fx.d_count_rows
  refine ⟨⟨f, fd, ["design", "program"], hm, F.kp, F.bindsN (fun _ _ _ _ _ _ us hl => match us, hl with | [_, _], _ => rfl), rfl, fnJD F sc_count_rows fun cdv A outer s H E hr => ?_⟩⟩
  have tk : Takes (cxOf (L2.CX P w) P w K mg base ["design", "program"] "count_rows" (defScope s_count_rows) f cdv A outer s H E) (fun cls d _ H => E cls d H) := takes_of rfl rfl rfl rfl
  exact jss_cons (js_expr (je_call (j_need_design Fx) (hr.mono (by decide)) tk (ja_cons (je_var 0) (ja_nil)))) (jss_cons (js_expr (je_call (j_need_program Fx) (hr.mono (by decide)) tk (ja_cons (je_var 1) (ja_nil)))) (jss_one (js_ret (je_call (j_counted Fx 7) (hr.mono (by decide)) tk (ja_cons (je_make (jm_Run Fx) (hr.mono (by decide)) (fun _ _ _ _ _ _ _ z => by obtain ⟨_, _, _, _, _, _, _, _, _, _, _, _, q⟩ := z; exact q.elim) (ja_cons (je_var 0) (ja_cons (je_var 1) (ja_nil)))) (ja_cons (je_dicN (PwJ.mk Fx.pP Fx.pw)) (ja_nil)))))))
abbrev s_row_for : Stmt := top 82
def b_row_for : GS := sSeq (sExpr (gCall 1 (F_need_design) (gaCons (gVar 0) (gaNil)))) (sSeq (sExpr (gCall 1 (F_need_program) (gaCons (gVar 1) (gaNil)))) (sSeq (sPar3 3 4 5 (gaCons (gMake 50 2 (F_Run___init__) (gaCons (gVar 0) (gaCons (gVar 1) (gaNil)))) (gaCons (gDicN) (gaCons (gLstM (gaNil)) (gaNil))))) (sSeq (sIf (gOr (gNot (gB (gCall 1 (F_is_plainly 4) (gaCons (gVar 2) (gaNil))))) (gB (gOp2 fNotInN (gVar 2) (gCall 2 (F_reached 11) (gaCons (gVar 3) (gaCons (gVar 4) (gaNil))))))) (sNever) (sNext)) (sSeq (sWhile 20 (gNot (gB (gMeth 50 0 "has_ended" (F_Run_has_ended) (gVar 3) gaNil))) (sForM (dName 6) (gMeth 50 0 "events" (F_Run_events) (gVar 3) gaNil) (sSeq (sAsg (gMeth 50 1 "do" (F_Run_do) (gVar 3) (gaCons (gVar 6) (gaNil))) (dName 7)) (sSeq (sIf (gB (gOp2 fInN (gVar 2) (gCall 2 (F_reached 11) (gaCons (gVar 3) (gaCons (gVar 4) (gaNil)))))) (sSeq (sExpr (gApp (gVar 5) (gVar 6))) (sBreak)) (sNext)) (sExpr (gMeth 50 1 "undo" (F_Run_undo) (gVar 3) (gaCons (gVar 7) (gaNil)))))))) (sRet (gF (f1 fTuple) (gaCons (gVar 5) (gaNil))))))))
def F_row_for : List D → S → R D := runF 8 b_row_for
theorem sc_row_for : FnScope ["design", "program", "outcome", "run", "known", "row", "event", "back"] ["design", "program", "outcome"] (defScope s_row_for) := ⟨rfl, rfl, rfl, by decide +kernel, rfl, by decide +kernel, by decide +kernel⟩
theorem j_row_for (Fx : Fx P w K mg ca) : JFn P w K mg base ca 17 "row_for" 3 F_row_for := by
  obtain ⟨f, fd, hm, F⟩ := Fx.d_row_for
  refine ⟨⟨f, fd, ["design", "program", "outcome"], hm, F.kp, F.bindsN (fun _ _ _ _ _ _ us hl => match us, hl with | [_, _, _], _ => rfl), rfl, fnJD F sc_row_for fun cdv A outer s H E hr => ?_⟩⟩
  have tk : Takes (cxOf (L2.CX P w) P w K mg base ["design", "program", "outcome", "run", "known", "row", "event", "back"] "row_for" (defScope s_row_for) f cdv A outer s H E) (fun cls d _ H => E cls d H) := takes_of rfl rfl rfl rfl
  exact jss_cons (js_expr (je_call (j_need_design Fx) (hr.mono (by decide)) tk (ja_cons (je_var 0) (ja_nil)))) (jss_cons (js_expr (je_call (j_need_program Fx) (hr.mono (by decide)) tk (ja_cons (je_var 1) (ja_nil)))) (jss_cons (js_par3 3 4 5 rfl sc_row_for.nd (ja_cons (je_make (jm_Run Fx) (hr.mono (by decide)) (fun _ _ _ _ _ _ _ z => by obtain ⟨_, _, _, _, _, _, _, _, _, _, _, _, q⟩ := z; exact q.elim) (ja_cons (je_var 0) (ja_cons (je_var 1) (ja_nil)))) (ja_cons (je_dicN (PwJ.mk Fx.pP Fx.pw)) (ja_cons (je_lstM (ja_nil)) (ja_nil))))) (jss_cons (js_if (jw_t (jw_or (jt_not (jt_val (je_call (j_is_plainly Fx 4) (hr.mono (by decide)) tk (ja_cons (je_var 2) (ja_nil))))) (jw_or1 (jt_cmp (oj_notinN (PwJ.mk Fx.pP Fx.pw) hr) (je_var 2) (je_call (j_reached Fx 11) (hr.mono (by decide)) tk (ja_cons (je_var 3) (ja_cons (je_var 4) (ja_nil)))))))) (jss_one (js_never)) (jss_nil)) (jss_cons (js_while 20 (passes_of rfl) (jt_not (jt_val (je_meth0 Fx.k_Run (j_Run_has_ended Fx) (hr.mono (by decide)) tk (je_var 3)))) (jss_one (js_forM (passes_of rfl) rfl (je_meth0 Fx.k_Run (j_Run_events Fx) (hr.mono (by decide)) tk (je_var 3)) (jg_name 6 sc_row_for.nd) (jss_cons (js_set 7 sc_row_for.nd (je_meth Fx.k_Run (j_Run_do Fx) (hr.mono (by decide)) tk (je_var 3) (ja_cons (je_var 6) (ja_nil)))) (jss_cons (js_if (jt_cmp (oj_inN (PwJ.mk Fx.pP Fx.pw) hr) (je_var 2) (je_call (j_reached Fx 11) (hr.mono (by decide)) tk (ja_cons (je_var 3) (ja_cons (je_var 4) (ja_nil))))) (jss_cons (js_expr (je_append (je_var 5) (je_var 6))) (jss_one (js_break))) (jss_nil)) (jss_one (js_expr (je_meth Fx.k_Run (j_Run_undo Fx) (hr.mono (by decide)) tk (je_var 3) (ja_cons (je_var 7) (ja_nil)))))))))) (jss_one (js_ret (je_Ty cj_tuple Fx.bi_tuple bt_tuple (ja_cons (je_var 5) (ja_nil)))))))))
abbrev s_must_be_done : Stmt := top 41
def b_must_be_done : GS := sSeq (sExpr (gCall 1 (F_need_design) (gaCons (gVar 0) (gaNil)))) (sSeq (sIf (gNot (gB (gCall 1 (F_is_core) (gaCons (gVar 1) (gaNil))))) (sNever) (sNext)) (sSeq (sIf (gNot (gB (gCall 3 (F_is_in) (gaCons (gVar 2) (gaCons (gC (.int 0)) (gaCons (gOp2 fSub (gF (f1 fLen) (gaCons (gVar 1) (gaNil))) (gC (.int 1))) (gaNil))))))) (sNever) (sNext)) (sSeq (sIf (gNot (gB (gCall 3 (F_is_in) (gaCons (gVar 3) (gaCons (gOp2 fAdd (gVar 2) (gC (.int 1))) (gaCons (gOp2 fSub (gF (f1 fLen) (gaCons (gVar 1) (gaNil))) (gC (.int 1))) (gaNil))))))) (sNever) (sNext)) (sRet (gCall 4 (F_keeps) (gaCons (gVar 0) (gaCons (gVar 1) (gaCons (gVar 2) (gaCons (gVar 3) (gaNil))))))))))
def F_must_be_done : List D → S → R D := runF 4 b_must_be_done
theorem sc_must_be_done : FnScope ["design", "core", "first", "second"] ["design", "core", "first", "second"] (defScope s_must_be_done) := ⟨rfl, rfl, rfl, by decide +kernel, rfl, by decide +kernel, by decide +kernel⟩
theorem j_must_be_done (Fx : Fx P w K mg ca) : JFn P w K mg base ca 5 "must_be_done" 4 F_must_be_done := by
  obtain ⟨f, fd, hm, F⟩ := Fx.d_must_be_done
  refine ⟨⟨f, fd, ["design", "core", "first", "second"], hm, F.kp, F.bindsN (fun _ _ _ _ _ _ us hl => match us, hl with | [_, _, _, _], _ => rfl), rfl, fnJD F sc_must_be_done fun cdv A outer s H E hr => ?_⟩⟩
  have tk : Takes (cxOf (L2.CX P w) P w K mg base ["design", "core", "first", "second"] "must_be_done" (defScope s_must_be_done) f cdv A outer s H E) (fun cls d _ H => E cls d H) := takes_of rfl rfl rfl rfl
  exact jss_cons (js_expr (je_call (j_need_design Fx) (hr.mono (by decide)) tk (ja_cons (je_var 0) (ja_nil)))) (jss_cons (js_if (jt_not (jt_val (je_call (j_is_core Fx) (hr.mono (by decide)) tk (ja_cons (je_var 1) (ja_nil))))) (jss_one (js_never)) (jss_nil)) (jss_cons (js_if (jt_not (jt_val (je_call (j_is_in Fx) (hr.mono (by decide)) tk (ja_cons (je_var 2) (ja_cons (je_int) (ja_cons (je_op oj_sub (je_B cj_len Fx.bi_len bt_len (ja_cons (je_var 1) (ja_nil))) (je_int)) (ja_nil))))))) (jss_one (js_never)) (jss_nil)) (jss_cons (js_if (jt_not (jt_val (je_call (j_is_in Fx) (hr.mono (by decide)) tk (ja_cons (je_var 3) (ja_cons (je_op oj_add (je_var 2) (je_int)) (ja_cons (je_op oj_sub (je_B cj_len Fx.bi_len bt_len (ja_cons (je_var 1) (ja_nil))) (je_int)) (ja_nil))))))) (jss_one (js_never)) (jss_nil)) (jss_one (js_ret (je_call (j_keeps Fx) (hr.mono (by decide)) tk (ja_cons (je_var 0) (ja_cons (je_var 1) (ja_cons (je_var 2) (ja_cons (je_var 3) (ja_nil)))))))))))
abbrev s_all_designs : Stmt := top 40
def b_all_designs : GS := sSeq (sAsg (gLst (gaCons (gTup (gaNil)) (gaNil))) (dName 0)) (sSeq (sFor (dName 1) (gItems (gC c_NAMES)) (sAsg (gOp2 fAdd (gVar 0) (gLc [2] (gItems (gVar 0)) (dName 2) (gYes) (gOp2 fAdd (gVar 2) (gTup (gaCons (gVar 1) (gaNil)))))) (dName 0))) (sRet (gF (f1 fTuple) (gaCons (gF (f1 fSortT) (gaCons (gVar 0) (gaNil))) (gaNil)))))
def F_all_designs : List D → S → R D := runF 3 b_all_designs
theorem sc_all_designs : FnScope ["found", "name", "design"] [] (defScope s_all_designs) := ⟨rfl, rfl, rfl, by decide +kernel, rfl, by decide +kernel, by decide +kernel⟩
theorem j_all_designs (Fx : Fx P w K mg ca) : JFn P w K mg base ca 1 "all_designs" 0 F_all_designs := by
  obtain ⟨f, fd, hm, F⟩ := Fx.d_all_designs
  refine ⟨⟨f, fd, [], hm, F.kp, F.bindsN (fun _ _ _ _ _ _ us hl => match us, hl with | [], _ => rfl), rfl, fnJD F sc_all_designs fun cdv A outer s H E hr => ?_⟩⟩
  have tk : Takes (cxOf (L2.CX P w) P w K mg base ["found", "name", "design"] "all_designs" (defScope s_all_designs) f cdv A outer s H E) (fun cls d _ H => E cls d H) := takes_of rfl rfl rfl rfl
  exact jss_cons (js_set 0 sc_all_designs.nd (je_lst (ja_cons (je_tup (ja_nil)) (ja_nil)))) (jss_cons (js_for (passes_of rfl) rfl (ji_seq (je_k Fx.c_NAMES)) (jg_name 1 sc_all_designs.nd) (jss_one (js_set 0 sc_all_designs.nd (je_op oj_add (je_var 0) (je_lc rfl sc_all_designs.nd (ji_seq (je_var 0)) (blkOk_by (N := ["found", "name", "design"]) (sc := defScope s_all_designs) (by decide +kernel)) (fun _ _ _ _ _ => pg_name (i := 2) sc_all_designs.nd rfl (by first | exact Or.inl rfl | exact Or.inr rfl)) (fun _ _ _ _ _ => jts_nil) (fun _ _ _ _ _ => je_op oj_add (je_var 2) (je_tup (ja_cons (je_var 1) (ja_nil))))))))) (jss_one (js_ret (je_Ty cj_tuple Fx.bi_tuple bt_tuple (ja_cons (je_B (cj_sortT hr) Fx.bi_sorted bt_sorted (ja_cons (je_var 0) (ja_nil))) (ja_nil))))))
abbrev s_strange_in : Stmt := top 90
def b_strange_in : GS := sSeq (sAsg (gFor (gCall 1 (F_plain_in) (gaCons (gVar 1) (gaNil)))) (dName 2)) (sRet (gLc [3] (gItems (gFor (gCall 2 (F_outcomes_in) (gaCons (gVar 0) (gaCons (gVar 1) (gaNil)))))) (dName 3) (gB (gOp2 fNotIn (gVar 3) (gVar 2))) (gVar 3)))
def F_strange_in : List D → S → R D := runF 4 b_strange_in
theorem sc_strange_in : FnScope ["design", "program", "plain", "one"] ["design", "program"] (defScope s_strange_in) := ⟨rfl, rfl, rfl, by decide +kernel, rfl, by decide +kernel, by decide +kernel⟩
theorem j_strange_in (Fx : Fx P w K mg ca) : JFn P w K mg base ca 19 "strange_in" 2 F_strange_in := by
  obtain ⟨f, fd, hm, F⟩ := Fx.d_strange_in
  refine ⟨⟨f, fd, ["design", "program"], hm, F.kp, F.bindsN (fun _ _ _ _ _ _ us hl => match us, hl with | [_, _], _ => rfl), rfl, fnJD F sc_strange_in fun cdv A outer s H E hr => ?_⟩⟩
  have tk : Takes (cxOf (L2.CX P w) P w K mg base ["design", "program", "plain", "one"] "strange_in" (defScope s_strange_in) f cdv A outer s H E) (fun cls d _ H => E cls d H) := takes_of rfl rfl rfl rfl
  exact jss_cons (js_set 2 sc_strange_in.nd (je_for (je_call (j_plain_in Fx) (hr.mono (by decide)) tk (ja_cons (je_var 1) (ja_nil))))) (jss_one (js_ret (je_lc rfl sc_strange_in.nd (ji_seq (je_for (je_call (j_outcomes_in Fx) (hr.mono (by decide)) tk (ja_cons (je_var 0) (ja_cons (je_var 1) (ja_nil)))))) (blkOk_by (N := ["design", "program", "plain", "one"]) (sc := defScope s_strange_in) (by decide +kernel)) (fun _ _ _ _ _ => pg_name (i := 3) sc_strange_in.nd rfl (by first | exact Or.inl rfl | exact Or.inr rfl)) (fun _ _ _ _ _ => jts_one (jt_cmp (oj_notin (J.Room.u65 hr)) (je_var 3) (je_var 2))) (fun _ _ _ _ _ => je_var 3))))
abbrev s_is_plain : Stmt := top 91
def b_is_plain : GS := sSeq (sExpr (gCall 1 (F_need_design) (gaCons (gVar 0) (gaNil)))) (sSeq (sExpr (gCall 1 (F_need_program) (gaCons (gVar 1) (gaNil)))) (sRet (gOp2 fEq (gFor (gCall 2 (F_strange_in) (gaCons (gVar 0) (gaCons (gVar 1) (gaNil))))) (gLst (gaNil)))))
def F_is_plain : List D → S → R D := runF 2 b_is_plain
theorem sc_is_plain : FnScope ["design", "program"] ["design", "program"] (defScope s_is_plain) := ⟨rfl, rfl, rfl, by decide +kernel, rfl, by decide +kernel, by decide +kernel⟩
theorem j_is_plain (Fx : Fx P w K mg ca) : JFn P w K mg base ca 20 "is_plain" 2 F_is_plain := by
  obtain ⟨f, fd, hm, F⟩ := Fx.d_is_plain
  refine ⟨⟨f, fd, ["design", "program"], hm, F.kp, F.bindsN (fun _ _ _ _ _ _ us hl => match us, hl with | [_, _], _ => rfl), rfl, fnJD F sc_is_plain fun cdv A outer s H E hr => ?_⟩⟩
  have tk : Takes (cxOf (L2.CX P w) P w K mg base ["design", "program"] "is_plain" (defScope s_is_plain) f cdv A outer s H E) (fun cls d _ H => E cls d H) := takes_of rfl rfl rfl rfl
  exact jss_cons (js_expr (je_call (j_need_design Fx) (hr.mono (by decide)) tk (ja_cons (je_var 0) (ja_nil)))) (jss_cons (js_expr (je_call (j_need_program Fx) (hr.mono (by decide)) tk (ja_cons (je_var 1) (ja_nil)))) (jss_one (js_ret (je_cmp (oj_eq hr.units) (je_for (je_call (j_strange_in Fx) (hr.mono (by decide)) tk (ja_cons (je_var 0) (ja_cons (je_var 1) (ja_nil))))) (je_lst (ja_nil))))))
abbrev s_strange : Stmt := top 92
def b_strange : GS := sSeq (sExpr (gCall 1 (F_need_design) (gaCons (gVar 0) (gaNil)))) (sSeq (sExpr (gCall 1 (F_need_program) (gaCons (gVar 1) (gaNil)))) (sSeq (sAsg (gFor (gCall 2 (F_strange_in) (gaCons (gVar 0) (gaCons (gVar 1) (gaNil))))) (dName 2)) (sRet (gIf (gB (gOp2 fNe (gVar 2) (gLst (gaNil)))) (gOp2 fIdx (gVar 2) (gC (.int 0))) (gC .non)))))
def F_strange : List D → S → R D := runF 3 b_strange
theorem sc_strange : FnScope ["design", "program", "some"] ["design", "program"] (defScope s_strange) := ⟨rfl, rfl, rfl, by decide +kernel, rfl, by decide +kernel, by decide +kernel⟩
theorem j_strange (Fx : Fx P w K mg ca) : JFn P w K mg base ca 20 "strange" 2 F_strange := by
  obtain ⟨f, fd, hm, F⟩ := Fx.d_strange
  refine ⟨⟨f, fd, ["design", "program"], hm, F.kp, F.bindsN (fun _ _ _ _ _ _ us hl => match us, hl with | [_, _], _ => rfl), rfl, fnJD F sc_strange fun cdv A outer s H E hr => ?_⟩⟩
  have tk : Takes (cxOf (L2.CX P w) P w K mg base ["design", "program", "some"] "strange" (defScope s_strange) f cdv A outer s H E) (fun cls d _ H => E cls d H) := takes_of rfl rfl rfl rfl
  exact jss_cons (js_expr (je_call (j_need_design Fx) (hr.mono (by decide)) tk (ja_cons (je_var 0) (ja_nil)))) (jss_cons (js_expr (je_call (j_need_program Fx) (hr.mono (by decide)) tk (ja_cons (je_var 1) (ja_nil)))) (jss_cons (js_set 2 sc_strange.nd (je_for (je_call (j_strange_in Fx) (hr.mono (by decide)) tk (ja_cons (je_var 0) (ja_cons (je_var 1) (ja_nil)))))) (jss_one (js_ret (je_if (jt_cmp (oj_ne hr.units) (je_var 2) (je_lst (ja_nil))) (je_ix (je_var 2) (je_int)) (je_non))))))
abbrev s_gaps_of : Stmt := top 87
def b_gaps_of : GS := sRet (gLc2 [1, 2] (gRange1 (gaCons (gF (f1 fLen) (gaCons (gVar 0) (gaNil))) (gaNil))) (dName 1) (gYes) (gRange2 (gaCons (gC (.int 1)) (gaCons (gF (f1 fLen) (gaCons (gOp2 fIdx (gVar 0) (gVar 1)) (gaNil))) (gaNil)))) [2] (dName 2) (gYes) (gTup (gaCons (gVar 1) (gaCons (gVar 2) (gaNil)))))
def F_gaps_of : List D → S → R D := runF 3 b_gaps_of
theorem sc_gaps_of : FnScope ["program", "core", "place"] ["program"] (defScope s_gaps_of) := ⟨rfl, rfl, rfl, by decide +kernel, rfl, by decide +kernel, by decide +kernel⟩
theorem j_gaps_of (Fx : Fx P w K mg ca) : JFn P w K mg base ca 1 "gaps_of" 1 F_gaps_of := by
  obtain ⟨f, fd, hm, F⟩ := Fx.d_gaps_of
  refine ⟨⟨f, fd, ["program"], hm, F.kp, F.bindsN (fun _ _ _ _ _ _ us hl => match us, hl with | [_], _ => rfl), rfl, fnJD F sc_gaps_of fun cdv A outer s H E hr => ?_⟩⟩
  have tk : Takes (cxOf (L2.CX P w) P w K mg base ["program", "core", "place"] "gaps_of" (defScope s_gaps_of) f cdv A outer s H E) (fun cls d _ H => E cls d H) := takes_of rfl rfl rfl rfl
  exact jss_one (js_ret (je_lc2 rfl sc_gaps_of.nd (ji_range1 Fx.bi_range (ja_cons (je_B cj_len Fx.bi_len bt_len (ja_cons (je_var 0) (ja_nil))) (ja_nil))) (blkOk_by (N := ["program", "core", "place"]) (sc := defScope s_gaps_of) (by decide +kernel)) (fun _ _ _ _ _ => pg_name (i := 1) sc_gaps_of.nd rfl (by first | exact Or.inl rfl | exact Or.inr rfl)) (fun _ _ _ _ _ => jts_nil) (fun _ _ _ _ _ => jis_range2 Fx.bi_range (ja_cons (je_int) (ja_cons (je_B cj_len Fx.bi_len bt_len (ja_cons (je_ix (je_var 0) (je_var 1)) (ja_nil))) (ja_nil)))) (fun _ _ _ _ _ => pg_name (i := 2) sc_gaps_of.nd rfl (by first | exact Or.inl rfl | exact Or.inr rfl)) (fun _ _ _ _ _ => jts_nil) (fun _ _ _ _ _ => je_tup (ja_cons (je_var 1) (ja_cons (je_var 2) (ja_nil))))))
abbrev s_with_fences : Stmt := top 88
def b_with_fences : GS := sSeq (sAsg (gLstM (gaNil)) (dName 2)) (sSeq (sFor (dName 3) (gRange1 (gaCons (gF (f1 fLen) (gaCons (gVar 0) (gaNil))) (gaNil))) (sSeq (sAsg (gLstM (gaNil)) (dName 4)) (sSeq (sFor (dName 5) (gRange1 (gaCons (gF (f1 fLen) (gaCons (gOp2 fIdx (gVar 0) (gVar 3)) (gaNil))) (gaNil))) (sSeq (sExpr (gExt (gVar 4) (gIf (gB (gOp2 fIn (gTup (gaCons (gVar 3) (gaCons (gVar 5) (gaNil)))) (gVar 1))) (gLst (gaCons (gC c_FENCE_programs) (gaNil))) (gLst (gaNil))))) (sExpr (gApp (gVar 4) (gOp2 fIdx (gOp2 fIdx (gVar 0) (gVar 3)) (gVar 5)))))) (sExpr (gApp (gVar 2) (gF (f1 fTuple) (gaCons (gVar 4) (gaNil)))))))) (sRet (gF (f1 fTuple) (gaCons (gVar 2) (gaNil)))))
def F_with_fences : List D → S → R D := runF 6 b_with_fences
theorem sc_with_fences : FnScope ["program", "places", "found", "core", "row", "place"] ["program", "places"] (defScope s_with_fences) := ⟨rfl, rfl, rfl, by decide +kernel, rfl, by decide +kernel, by decide +kernel⟩
theorem j_with_fences (Fx : Fx P w K mg ca) : JFn P w K mg base ca 1 "with_fences" 2 F_with_fences := by
  obtain ⟨f, fd, hm, F⟩ := Fx.d_with_fences
  refine ⟨⟨f, fd, ["program", "places"], hm, F.kp, F.bindsN (fun _ _ _ _ _ _ us hl => match us, hl with | [_, _], _ => rfl), rfl, fnJD F sc_with_fences fun cdv A outer s H E hr => ?_⟩⟩
  have tk : Takes (cxOf (L2.CX P w) P w K mg base ["program", "places", "found", "core", "row", "place"] "with_fences" (defScope s_with_fences) f cdv A outer s H E) (fun cls d _ H => E cls d H) := takes_of rfl rfl rfl rfl
  exact jss_cons (js_set 2 sc_with_fences.nd (je_lstM (ja_nil))) (jss_cons (js_for (passes_of rfl) rfl (ji_range1 Fx.bi_range (ja_cons (je_B cj_len Fx.bi_len bt_len (ja_cons (je_var 0) (ja_nil))) (ja_nil))) (jg_name 3 sc_with_fences.nd) (jss_cons (js_set 4 sc_with_fences.nd (je_lstM (ja_nil))) (jss_cons (js_for (passes_of rfl) rfl (ji_range1 Fx.bi_range (ja_cons (je_B cj_len Fx.bi_len bt_len (ja_cons (je_ix (je_var 0) (je_var 3)) (ja_nil))) (ja_nil))) (jg_name 5 sc_with_fences.nd) (jss_cons (js_expr (je_extend (je_var 4) (je_if (jt_cmp (oj_in (J.Room.u65 hr)) (je_tup (ja_cons (je_var 3) (ja_cons (je_var 5) (ja_nil)))) (je_var 1)) (je_lst (ja_cons (je_k Fx.c_FENCE_programs) (ja_nil))) (je_lst (ja_nil))))) (jss_one (js_expr (je_append (je_var 4) (je_ix (je_ix (je_var 0) (je_var 3)) (je_var 5))))))) (jss_one (js_expr (je_append (je_var 2) (je_Ty cj_tuple Fx.bi_tuple bt_tuple (ja_cons (je_var 4) (ja_nil))))))))) (jss_one (js_ret (je_Ty cj_tuple Fx.bi_tuple bt_tuple (ja_cons (je_var 2) (ja_nil))))))
abbrev s_is_program : Stmt := top 26
def b_is_program : GS := sRet (gAndV (gF (f1 fAll) (gaCons (gLc [1] (gItems (gVar 0)) (dName 1) (gYes) (gOp2 fLe (gF (f1 fLen) (gaCons (gVar 1) (gaNil))) (gC c_MOST_CORE))) (gaNil))) (gOp2 fLe (gF (f1 fSum) (gaCons (gLc [1] (gItems (gVar 0)) (dName 1) (gYes) (gF (f1 fLen) (gaCons (gVar 1) (gaNil)))) (gaNil))) (gC c_MOST_PROGRAM)))
def F_is_program : List D → S → R D := runF 2 b_is_program
theorem sc_is_program : FnScope ["program", "core"] ["program"] (defScope s_is_program) := ⟨rfl, rfl, rfl, by decide +kernel, rfl, by decide +kernel, by decide +kernel⟩
theorem j_is_program (Fx : Fx P w K mg ca) : JFn P w K mg base ca 1 "is_program" 1 F_is_program := by
  obtain ⟨f, fd, hm, F⟩ := Fx.d_is_program
  refine ⟨⟨f, fd, ["program"], hm, F.kp, F.bindsN (fun _ _ _ _ _ _ us hl => match us, hl with | [_], _ => rfl), rfl, fnJD F sc_is_program fun cdv A outer s H E hr => ?_⟩⟩
  have tk : Takes (cxOf (L2.CX P w) P w K mg base ["program", "core"] "is_program" (defScope s_is_program) f cdv A outer s H E) (fun cls d _ H => E cls d H) := takes_of rfl rfl rfl rfl
  exact jss_one (js_ret (je_and (je_B (cj_all rfl) Fx.bi_all bt_all (ja_cons (je_lc rfl sc_is_program.nd (ji_seq (je_var 0)) (blkOk_by (N := ["program", "core"]) (sc := defScope s_is_program) (by decide +kernel)) (fun _ _ _ _ _ => pg_name (i := 1) sc_is_program.nd rfl (by first | exact Or.inl rfl | exact Or.inr rfl)) (fun _ _ _ _ _ => jts_nil) (fun _ _ _ _ _ => je_cmp oj_le (je_B cj_len Fx.bi_len bt_len (ja_cons (je_var 1) (ja_nil))) (je_k Fx.c_MOST_CORE))) (ja_nil))) (je_one (je_cmp oj_le (je_B (cj_sum rfl) Fx.bi_sum bt_sum (ja_cons (je_lc rfl sc_is_program.nd (ji_seq (je_var 0)) (blkOk_by (N := ["program", "core"]) (sc := defScope s_is_program) (by decide +kernel)) (fun _ _ _ _ _ => pg_name (i := 1) sc_is_program.nd rfl (by first | exact Or.inl rfl | exact Or.inr rfl)) (fun _ _ _ _ _ => jts_nil) (fun _ _ _ _ _ => je_B cj_len Fx.bi_len bt_len (ja_cons (je_var 1) (ja_nil)))) (ja_nil))) (je_k Fx.c_MOST_PROGRAM)))))
abbrev s_need_places : Stmt := top 89
def b_need_places : GS := sSeq (sIf (gOr (gNot (gB (gF (fIsi) (gaCons (gVar 1) (gaCons (gC (.ty "tuple")) (gaNil)))))) (gNot (gB (gF (f1 fAll) (gaCons (gLc [5] (gItems (gVar 1)) (dName 5) (gYes) (gCall 3 (F_is_list) (gaCons (gVar 5) (gaCons (gC (.int 2)) (gaCons (gC (.int 2)) (gaNil)))))) (gaNil)))))) (sNever) (sNext)) (sSeq (sFor (dTup 2 (dsCons (dName 2) (dsCons (dName 3) (dsNil)))) (gItems (gVar 1)) (sIf (gOr (gNot (gB (gCall 3 (F_is_in) (gaCons (gVar 2) (gaCons (gC (.int 0)) (gaCons (gOp2 fSub (gF (f1 fLen) (gaCons (gVar 0) (gaNil))) (gC (.int 1))) (gaNil))))))) (gNot (gB (gCall 3 (F_is_in) (gaCons (gVar 3) (gaCons (gC (.int 1)) (gaCons (gOp2 fSub (gF (f1 fLen) (gaCons (gOp2 fIdx (gVar 0) (gVar 2)) (gaNil))) (gC (.int 1))) (gaNil)))))))) (sNever) (sNext))) (sIf (gNot (gB (gF (f1 fAll) (gaCons (gLc [4] (gRange2 (gaCons (gC (.int 1)) (gaCons (gF (f1 fLen) (gaCons (gVar 1) (gaNil))) (gaNil)))) (dName 4) (gYes) (gOp2 fLtT (gOp2 fIdx (gVar 1) (gOp2 fSub (gVar 4) (gC (.int 1)))) (gOp2 fIdx (gVar 1) (gVar 4)))) (gaNil))))) (sNever) (sNext)))
def F_need_places : List D → S → R D := runF 6 b_need_places
theorem sc_need_places : FnScope ["program", "places", "core", "place", "index", "one"] ["program", "places"] (defScope s_need_places) := ⟨rfl, rfl, rfl, by decide +kernel, rfl, by decide +kernel, by decide +kernel⟩
theorem j_need_places (Fx : Fx P w K mg ca) : JFn P w K mg base ca 3 "need_places" 2 F_need_places := by
  obtain ⟨f, fd, hm, F⟩ := Fx.d_need_places
  refine ⟨⟨f, fd, ["program", "places"], hm, F.kp, F.bindsN (fun _ _ _ _ _ _ us hl => match us, hl with | [_, _], _ => rfl), rfl, fnJD F sc_need_places fun cdv A outer s H E hr => ?_⟩⟩
  have tk : Takes (cxOf (L2.CX P w) P w K mg base ["program", "places", "core", "place", "index", "one"] "need_places" (defScope s_need_places) f cdv A outer s H E) (fun cls d _ H => E cls d H) := takes_of rfl rfl rfl rfl
  exact jss_cons (js_if (jw_t (jw_or (jt_not (jt_val (je_B cj_isinstance Fx.bi_isinstance bt_isinstance (ja_cons (je_var 1) (ja_cons (je_ty Fx.bi_tuple bt_tuple) (ja_nil)))))) (jw_or1 (jt_not (jt_val (je_B (cj_all rfl) Fx.bi_all bt_all (ja_cons (je_lc rfl sc_need_places.nd (ji_seq (je_var 1)) (blkOk_by (N := ["program", "places", "core", "place", "index", "one"]) (sc := defScope s_need_places) (by decide +kernel)) (fun _ _ _ _ _ => pg_name (i := 5) sc_need_places.nd rfl (by first | exact Or.inl rfl | exact Or.inr rfl)) (fun _ _ _ _ _ => jts_nil) (fun _ _ _ _ _ => je_call (j_is_list Fx) (hr.mono (by decide)) takes0 (ja_cons (je_var 5) (ja_cons (je_int) (ja_cons (je_int) (ja_nil)))))) (ja_nil)))))))) (jss_one (js_never)) (jss_nil)) (jss_cons (js_for (passes_of rfl) rfl (ji_seq (je_var 1)) (jg_tup rfl (jgs_cons (jg_name 2 sc_need_places.nd) (jgs_cons (jg_name 3 sc_need_places.nd) (jgs_nil)))) (jss_one (js_if (jw_t (jw_or (jt_not (jt_val (je_call (j_is_in Fx) (hr.mono (by decide)) tk (ja_cons (je_var 2) (ja_cons (je_int) (ja_cons (je_op oj_sub (je_B cj_len Fx.bi_len bt_len (ja_cons (je_var 0) (ja_nil))) (je_int)) (ja_nil))))))) (jw_or1 (jt_not (jt_val (je_call (j_is_in Fx) (hr.mono (by decide)) tk (ja_cons (je_var 3) (ja_cons (je_int) (ja_cons (je_op oj_sub (je_B cj_len Fx.bi_len bt_len (ja_cons (je_ix (je_var 0) (je_var 2)) (ja_nil))) (je_int)) (ja_nil)))))))))) (jss_one (js_never)) (jss_nil)))) (jss_one (js_if (jt_not (jt_val (je_B (cj_all rfl) Fx.bi_all bt_all (ja_cons (je_lc rfl sc_need_places.nd (ji_range2 Fx.bi_range (ja_cons (je_int) (ja_cons (je_B cj_len Fx.bi_len bt_len (ja_cons (je_var 1) (ja_nil))) (ja_nil)))) (blkOk_by (N := ["program", "places", "core", "place", "index", "one"]) (sc := defScope s_need_places) (by decide +kernel)) (fun _ _ _ _ _ => pg_name (i := 4) sc_need_places.nd rfl (by first | exact Or.inl rfl | exact Or.inr rfl)) (fun _ _ _ _ _ => jts_nil) (fun _ _ _ _ _ => je_cmp (oj_ltT (J.Room.u0 hr)) (je_ix (je_var 1) (je_op oj_sub (je_var 4) (je_int))) (je_ix (je_var 1) (je_var 4)))) (ja_nil))))) (jss_one (js_never)) (jss_nil))))
abbrev s_fenced : Stmt := top 93
def b_fenced : GS := sSeq (sExpr (gCall 1 (F_need_program) (gaCons (gVar 0) (gaNil)))) (sSeq (sExpr (gCall 2 (F_need_places) (gaCons (gVar 0) (gaCons (gVar 1) (gaNil))))) (sSeq (sAsg (gFor (gCall 2 (F_with_fences) (gaCons (gVar 0) (gaCons (gVar 1) (gaNil))))) (dName 2)) (sSeq (sIf (gNot (gB (gCall 1 (F_is_program) (gaCons (gVar 2) (gaNil))))) (sNever) (sNext)) (sRet (gVar 2)))))
def F_fenced : List D → S → R D := runF 3 b_fenced
theorem sc_fenced : FnScope ["program", "places", "found"] ["program", "places"] (defScope s_fenced) := ⟨rfl, rfl, rfl, by decide +kernel, rfl, by decide +kernel, by decide +kernel⟩
theorem j_fenced (Fx : Fx P w K mg ca) : JFn P w K mg base ca 6 "fenced" 2 F_fenced := by
  obtain ⟨f, fd, hm, F⟩ := Fx.d_fenced
  refine ⟨⟨f, fd, ["program", "places"], hm, F.kp, F.bindsN (fun _ _ _ _ _ _ us hl => match us, hl with | [_, _], _ => rfl), rfl, fnJD F sc_fenced fun cdv A outer s H E hr => ?_⟩⟩
  have tk : Takes (cxOf (L2.CX P w) P w K mg base ["program", "places", "found"] "fenced" (defScope s_fenced) f cdv A outer s H E) (fun cls d _ H => E cls d H) := takes_of rfl rfl rfl rfl
  exact jss_cons (js_expr (je_call (j_need_program Fx) (hr.mono (by decide)) tk (ja_cons (je_var 0) (ja_nil)))) (jss_cons (js_expr (je_call (j_need_places Fx) (hr.mono (by decide)) tk (ja_cons (je_var 0) (ja_cons (je_var 1) (ja_nil))))) (jss_cons (js_set 2 sc_fenced.nd (je_for (je_call (j_with_fences Fx) (hr.mono (by decide)) tk (ja_cons (je_var 0) (ja_cons (je_var 1) (ja_nil)))))) (jss_cons (js_if (jt_not (jt_val (je_call (j_is_program Fx) (hr.mono (by decide)) tk (ja_cons (je_var 2) (ja_nil))))) (jss_one (js_never)) (jss_nil)) (jss_one (js_ret (je_var 2))))))
abbrev s_fewest_fences : Stmt := top 94
def b_fewest_fences : GS := sSeq (sExpr (gCall 1 (F_need_design) (gaCons (gVar 0) (gaNil)))) (sSeq (sExpr (gCall 1 (F_need_program) (gaCons (gVar 1) (gaNil)))) (sSeq (sAsg (gLst (gaCons (gTup (gaNil)) (gaNil))) (dName 2)) (sSeq (sFor (dName 3) (gItems (gCall 1 (F_gaps_of) (gaCons (gVar 1) (gaNil)))) (sAsg (gOp2 fAdd (gVar 2) (gLc [5] (gItems (gVar 2)) (dName 5) (gYes) (gOp2 fAdd (gVar 5) (gTup (gaCons (gVar 3) (gaNil)))))) (dName 2))) (sSeq (sFor (dTup 2 (dsCons (dName 4) (dsCons (dName 5) (dsNil)))) (gItems (gF (f1 fSortT) (gaCons (gLc [5] (gItems (gVar 2)) (dName 5) (gYes) (gTup (gaCons (gF (f1 fLen) (gaCons (gVar 5) (gaNil))) (gaCons (gVar 5) (gaNil))))) (gaNil)))) (sSeq (sAsg (gFor (gCall 2 (F_with_fences) (gaCons (gVar 1) (gaCons (gVar 5) (gaNil))))) (dName 6)) (sIf (gAnd (gB (gCall 1 (F_is_program) (gaCons (gVar 6) (gaNil)))) (gB (gOp2 fEq (gFor (gCall 2 (F_strange_in) (gaCons (gVar 0) (gaCons (gVar 6) (gaNil))))) (gLst (gaNil))))) (sRet (gVar 5)) (sNext)))) (sNever)))))
def F_fewest_fences : List D → S → R D := runF 7 b_fewest_fences
theorem sc_fewest_fences : FnScope ["design", "program", "groups", "gap", "many", "group", "made"] ["design", "program"] (defScope s_fewest_fences) := ⟨rfl, rfl, rfl, by decide +kernel, rfl, by decide +kernel, by decide +kernel⟩
theorem j_fewest_fences (Fx : Fx P w K mg ca) : JFn P w K mg base ca 20 "fewest_fences" 2 F_fewest_fences := by
  obtain ⟨f, fd, hm, F⟩ := Fx.d_fewest_fences
  refine ⟨⟨f, fd, ["design", "program"], hm, F.kp, F.bindsN (fun _ _ _ _ _ _ us hl => match us, hl with | [_, _], _ => rfl), rfl, fnJD F sc_fewest_fences fun cdv A outer s H E hr => ?_⟩⟩
  have tk : Takes (cxOf (L2.CX P w) P w K mg base ["design", "program", "groups", "gap", "many", "group", "made"] "fewest_fences" (defScope s_fewest_fences) f cdv A outer s H E) (fun cls d _ H => E cls d H) := takes_of rfl rfl rfl rfl
  exact jss_cons (js_expr (je_call (j_need_design Fx) (hr.mono (by decide)) tk (ja_cons (je_var 0) (ja_nil)))) (jss_cons (js_expr (je_call (j_need_program Fx) (hr.mono (by decide)) tk (ja_cons (je_var 1) (ja_nil)))) (jss_cons (js_set 2 sc_fewest_fences.nd (je_lst (ja_cons (je_tup (ja_nil)) (ja_nil)))) (jss_cons (js_for (passes_of rfl) rfl (ji_seq (je_call (j_gaps_of Fx) (hr.mono (by decide)) tk (ja_cons (je_var 1) (ja_nil)))) (jg_name 3 sc_fewest_fences.nd) (jss_one (js_set 2 sc_fewest_fences.nd (je_op oj_add (je_var 2) (je_lc rfl sc_fewest_fences.nd (ji_seq (je_var 2)) (blkOk_by (N := ["design", "program", "groups", "gap", "many", "group", "made"]) (sc := defScope s_fewest_fences) (by decide +kernel)) (fun _ _ _ _ _ => pg_name (i := 5) sc_fewest_fences.nd rfl (by first | exact Or.inl rfl | exact Or.inr rfl)) (fun _ _ _ _ _ => jts_nil) (fun _ _ _ _ _ => je_op oj_add (je_var 5) (je_tup (ja_cons (je_var 3) (ja_nil))))))))) (jss_cons (js_for (passes_of rfl) rfl (ji_seq (je_B (cj_sortT hr) Fx.bi_sorted bt_sorted (ja_cons (je_lc rfl sc_fewest_fences.nd (ji_seq (je_var 2)) (blkOk_by (N := ["design", "program", "groups", "gap", "many", "group", "made"]) (sc := defScope s_fewest_fences) (by decide +kernel)) (fun _ _ _ _ _ => pg_name (i := 5) sc_fewest_fences.nd rfl (by first | exact Or.inl rfl | exact Or.inr rfl)) (fun _ _ _ _ _ => jts_nil) (fun _ _ _ _ _ => je_tup (ja_cons (je_B cj_len Fx.bi_len bt_len (ja_cons (je_var 5) (ja_nil))) (ja_cons (je_var 5) (ja_nil))))) (ja_nil)))) (jg_tup rfl (jgs_cons (jg_name 4 sc_fewest_fences.nd) (jgs_cons (jg_name 5 sc_fewest_fences.nd) (jgs_nil)))) (jss_cons (js_set 6 sc_fewest_fences.nd (je_for (je_call (j_with_fences Fx) (hr.mono (by decide)) tk (ja_cons (je_var 1) (ja_cons (je_var 5) (ja_nil)))))) (jss_one (js_if (jw_t (jw_and (jt_val (je_call (j_is_program Fx) (hr.mono (by decide)) tk (ja_cons (je_var 6) (ja_nil)))) (jw_and1 (jt_cmp (oj_eq hr.units) (je_for (je_call (j_strange_in Fx) (hr.mono (by decide)) tk (ja_cons (je_var 0) (ja_cons (je_var 6) (ja_nil))))) (je_lst (ja_nil)))))) (jss_one (js_ret (je_var 5))) (jss_nil))))) (jss_one (js_never))))))
abbrev s_told_tests : Stmt := top 58
def b_told_tests : GS := sRet (gLst (gaCons (gTup (gaCons (gC (.str (PySem.Str.ofString "rr"))) (gaCons (gTup (gaCons (gC c_READ_X) (gaCons (gC c_READ_Y) (gaNil)))) (gaCons (gC c_WRITES) (gaCons (gC c_SECOND) (gaCons (gC c_TWO) (gaNil))))))) (gaCons (gTup (gaCons (gC (.str (PySem.Str.ofString "rw"))) (gaCons (gTup (gaCons (gC c_READ_X) (gaCons (gC c_WRITE_Y) (gaNil)))) (gaCons (gC c_TURNS) (gaCons (gC c_BOTH) (gaCons (gC c_TWO) (gaNil))))))) (gaCons (gTup (gaCons (gC (.str (PySem.Str.ofString "wr"))) (gaCons (gTup (gaCons (gC c_WRITE_X) (gaCons (gTup (gaCons (gC (.str (PySem.Str.ofString "read"))) (gaCons (gC (.int 0)) (gaCons (gC (.int 1)) (gaNil))))) (gaNil)))) (gaCons (gC c_LOOKS) (gaCons (gTup (gaCons (gTup (gaCons (gC (.int 0)) (gaCons (gC (.int 0)) (gaNil)))) (gaCons (gTup (gaCons (gC (.int 0)) (gaCons (gC (.int 0)) (gaNil)))) (gaNil)))) (gaCons (gC c_TWO) (gaNil))))))) (gaCons (gTup (gaCons (gC (.str (PySem.Str.ofString "ww"))) (gaCons (gTup (gaCons (gC c_WRITE_X) (gaCons (gC c_WRITE_Y) (gaNil)))) (gaCons (gC c_SEES) (gaCons (gTup (gaCons (gTup (gaCons (gC (.int 0)) (gaCons (gC (.int 0)) (gaNil)))) (gaCons (gTup (gaCons (gC (.int 1)) (gaCons (gC (.int 0)) (gaNil)))) (gaNil)))) (gaCons (gC c_TWO) (gaNil))))))) (gaCons (gTup (gaCons (gC (.str (PySem.Str.ofString "ss"))) (gaCons (gTup (gaCons (gC c_READ_X) (gaCons (gTup (gaCons (gC (.str (PySem.Str.ofString "read"))) (gaCons (gC (.int 1)) (gaCons (gC (.int 0)) (gaNil))))) (gaNil)))) (gaCons (gC c_ONE) (gaCons (gC c_SECOND) (gaCons (gTup (gaCons (gC (.int 1)) (gaCons (gC (.int 0)) (gaCons (gC (.int 0)) (gaNil))))) (gaNil))))))) (gaCons (gTup (gaCons (gC (.str (PySem.Str.ofString "gw"))) (gaCons (gTup (gaCons (gC c_READ_X) (gaCons (gC c_GUARD) (gaCons (gC c_WRITE_Y) (gaNil))))) (gaCons (gC c_TURNS) (gaCons (gC c_BOTH) (gaCons (gC c_TWO) (gaNil))))))) (gaCons (gTup (gaCons (gC (.str (PySem.Str.ofString "gr"))) (gaCons (gTup (gaCons (gC c_READ_X) (gaCons (gC c_GUARD) (gaCons (gC c_READ_Y) (gaNil))))) (gaCons (gC c_WRITES) (gaCons (gC c_SECOND) (gaCons (gC c_TWO) (gaNil))))))) (gaCons (gTup (gaCons (gC (.str (PySem.Str.ofString "gr same"))) (gaCons (gTup (gaCons (gC c_READ_X) (gaCons (gC c_GUARD) (gaCons (gTup (gaCons (gC (.str (PySem.Str.ofString "read"))) (gaCons (gC (.int 1)) (gaCons (gC (.int 0)) (gaNil))))) (gaNil))))) (gaCons (gC c_ONE) (gaCons (gC c_SECOND) (gaCons (gTup (gaCons (gC (.int 1)) (gaCons (gC (.int 0)) (gaCons (gC (.int 0)) (gaNil))))) (gaNil))))))) (gaCons (gTup (gaCons (gC (.str (PySem.Str.ofString "own copy"))) (gaCons (gTup (gaCons (gC c_WRITE_X) (gaCons (gC c_READ_X) (gaCons (gTup (gaCons (gC (.str (PySem.Str.ofString "copy"))) (gaCons (gC (.int 1)) (gaCons (gC (.int 0)) (gaNil))))) (gaNil))))) (gaCons (gC c_SEES) (gaCons (gC c_BOTH) (gaCons (gC c_TWO) (gaNil))))))) (gaCons (gTup (gaCons (gC (.str (PySem.Str.ofString "own rr"))) (gaCons (gTup (gaCons (gC c_WRITE_X) (gaCons (gC c_READ_X) (gaCons (gC c_READ_Y) (gaNil))))) (gaCons (gC c_LOOKS) (gaCons (gC c_SECOND) (gaCons (gC c_TWO) (gaNil))))))) (gaCons (gTup (gaCons (gC (.str (PySem.Str.ofString "own gr"))) (gaCons (gTup (gaCons (gC c_WRITE_X) (gaCons (gC c_READ_X) (gaCons (gC c_GUARD) (gaCons (gC c_READ_Y) (gaNil)))))) (gaCons (gC c_LOOKS) (gaCons (gC c_SECOND) (gaCons (gC c_TWO) (gaNil))))))) (gaNil)))))))))))))
def F_told_tests : List D → S → R D := runF 0 b_told_tests
theorem sc_told_tests : FnScope [] [] (defScope s_told_tests) := ⟨rfl, rfl, rfl, by decide +kernel, rfl, by decide +kernel, by decide +kernel⟩
theorem j_told_tests (Fx : Fx P w K mg ca) : JFn P w K mg base ca 1 "told_tests" 0 F_told_tests := by
  obtain ⟨f, fd, hm, F⟩ := Fx.d_told_tests
  refine ⟨⟨f, fd, [], hm, F.kp, F.bindsN (fun _ _ _ _ _ _ us hl => match us, hl with | [], _ => rfl), rfl, fnJD F sc_told_tests fun cdv A outer s H E hr => ?_⟩⟩
  have tk : Takes (cxOf (L2.CX P w) P w K mg base [] "told_tests" (defScope s_told_tests) f cdv A outer s H E) (fun cls d _ H => E cls d H) := takes_of rfl rfl rfl rfl
  exact jss_one (js_ret (je_lst (ja_cons (je_tup (ja_cons (je_str) (ja_cons (je_tup (ja_cons (je_k Fx.c_READ_X) (ja_cons (je_k Fx.c_READ_Y) (ja_nil)))) (ja_cons (je_k Fx.c_WRITES) (ja_cons (je_k Fx.c_SECOND) (ja_cons (je_k Fx.c_TWO) (ja_nil))))))) (ja_cons (je_tup (ja_cons (je_str) (ja_cons (je_tup (ja_cons (je_k Fx.c_READ_X) (ja_cons (je_k Fx.c_WRITE_Y) (ja_nil)))) (ja_cons (je_k Fx.c_TURNS) (ja_cons (je_k Fx.c_BOTH) (ja_cons (je_k Fx.c_TWO) (ja_nil))))))) (ja_cons (je_tup (ja_cons (je_str) (ja_cons (je_tup (ja_cons (je_k Fx.c_WRITE_X) (ja_cons (je_tup (ja_cons (je_str) (ja_cons (je_int) (ja_cons (je_int) (ja_nil))))) (ja_nil)))) (ja_cons (je_k Fx.c_LOOKS) (ja_cons (je_tup (ja_cons (je_tup (ja_cons (je_int) (ja_cons (je_int) (ja_nil)))) (ja_cons (je_tup (ja_cons (je_int) (ja_cons (je_int) (ja_nil)))) (ja_nil)))) (ja_cons (je_k Fx.c_TWO) (ja_nil))))))) (ja_cons (je_tup (ja_cons (je_str) (ja_cons (je_tup (ja_cons (je_k Fx.c_WRITE_X) (ja_cons (je_k Fx.c_WRITE_Y) (ja_nil)))) (ja_cons (je_k Fx.c_SEES) (ja_cons (je_tup (ja_cons (je_tup (ja_cons (je_int) (ja_cons (je_int) (ja_nil)))) (ja_cons (je_tup (ja_cons (je_int) (ja_cons (je_int) (ja_nil)))) (ja_nil)))) (ja_cons (je_k Fx.c_TWO) (ja_nil))))))) (ja_cons (je_tup (ja_cons (je_str) (ja_cons (je_tup (ja_cons (je_k Fx.c_READ_X) (ja_cons (je_tup (ja_cons (je_str) (ja_cons (je_int) (ja_cons (je_int) (ja_nil))))) (ja_nil)))) (ja_cons (je_k Fx.c_ONE) (ja_cons (je_k Fx.c_SECOND) (ja_cons (je_tup (ja_cons (je_int) (ja_cons (je_int) (ja_cons (je_int) (ja_nil))))) (ja_nil))))))) (ja_cons (je_tup (ja_cons (je_str) (ja_cons (je_tup (ja_cons (je_k Fx.c_READ_X) (ja_cons (je_k Fx.c_GUARD) (ja_cons (je_k Fx.c_WRITE_Y) (ja_nil))))) (ja_cons (je_k Fx.c_TURNS) (ja_cons (je_k Fx.c_BOTH) (ja_cons (je_k Fx.c_TWO) (ja_nil))))))) (ja_cons (je_tup (ja_cons (je_str) (ja_cons (je_tup (ja_cons (je_k Fx.c_READ_X) (ja_cons (je_k Fx.c_GUARD) (ja_cons (je_k Fx.c_READ_Y) (ja_nil))))) (ja_cons (je_k Fx.c_WRITES) (ja_cons (je_k Fx.c_SECOND) (ja_cons (je_k Fx.c_TWO) (ja_nil))))))) (ja_cons (je_tup (ja_cons (je_str) (ja_cons (je_tup (ja_cons (je_k Fx.c_READ_X) (ja_cons (je_k Fx.c_GUARD) (ja_cons (je_tup (ja_cons (je_str) (ja_cons (je_int) (ja_cons (je_int) (ja_nil))))) (ja_nil))))) (ja_cons (je_k Fx.c_ONE) (ja_cons (je_k Fx.c_SECOND) (ja_cons (je_tup (ja_cons (je_int) (ja_cons (je_int) (ja_cons (je_int) (ja_nil))))) (ja_nil))))))) (ja_cons (je_tup (ja_cons (je_str) (ja_cons (je_tup (ja_cons (je_k Fx.c_WRITE_X) (ja_cons (je_k Fx.c_READ_X) (ja_cons (je_tup (ja_cons (je_str) (ja_cons (je_int) (ja_cons (je_int) (ja_nil))))) (ja_nil))))) (ja_cons (je_k Fx.c_SEES) (ja_cons (je_k Fx.c_BOTH) (ja_cons (je_k Fx.c_TWO) (ja_nil))))))) (ja_cons (je_tup (ja_cons (je_str) (ja_cons (je_tup (ja_cons (je_k Fx.c_WRITE_X) (ja_cons (je_k Fx.c_READ_X) (ja_cons (je_k Fx.c_READ_Y) (ja_nil))))) (ja_cons (je_k Fx.c_LOOKS) (ja_cons (je_k Fx.c_SECOND) (ja_cons (je_k Fx.c_TWO) (ja_nil))))))) (ja_cons (je_tup (ja_cons (je_str) (ja_cons (je_tup (ja_cons (je_k Fx.c_WRITE_X) (ja_cons (je_k Fx.c_READ_X) (ja_cons (je_k Fx.c_GUARD) (ja_cons (je_k Fx.c_READ_Y) (ja_nil)))))) (ja_cons (je_k Fx.c_LOOKS) (ja_cons (je_k Fx.c_SECOND) (ja_cons (je_k Fx.c_TWO) (ja_nil))))))) (ja_nil))))))))))))))
abbrev s_lacks : Stmt := top 59
def b_lacks : GS := sRet (gNotV (gF (f1 fAny) (gaCons (gLc [2] (gItems (gVar 1)) (dName 2) (gYes) (gOp2 fIn (gVar 2) (gVar 0))) (gaNil))))
def F_lacks : List D → S → R D := runF 3 b_lacks
theorem sc_lacks : FnScope ["design", "words", "one"] ["design", "words"] (defScope s_lacks) := ⟨rfl, rfl, rfl, by decide +kernel, rfl, by decide +kernel, by decide +kernel⟩
theorem j_lacks (Fx : Fx P w K mg ca) : JFn P w K mg base ca 1 "lacks" 2 F_lacks := by
  obtain ⟨f, fd, hm, F⟩ := Fx.d_lacks
  refine ⟨⟨f, fd, ["design", "words"], hm, F.kp, F.bindsN (fun _ _ _ _ _ _ us hl => match us, hl with | [_, _], _ => rfl), rfl, fnJD F sc_lacks fun cdv A outer s H E hr => ?_⟩⟩
  have tk : Takes (cxOf (L2.CX P w) P w K mg base ["design", "words", "one"] "lacks" (defScope s_lacks) f cdv A outer s H E) (fun cls d _ H => E cls d H) := takes_of rfl rfl rfl rfl
  exact jss_one (js_ret (je_not (je_B (cj_any rfl) Fx.bi_any bt_any (ja_cons (je_lc rfl sc_lacks.nd (ji_seq (je_var 1)) (blkOk_by (N := ["design", "words", "one"]) (sc := defScope s_lacks) (by decide +kernel)) (fun _ _ _ _ _ => pg_name (i := 2) sc_lacks.nd rfl (by first | exact Or.inl rfl | exact Or.inr rfl)) (fun _ _ _ _ _ => jts_nil) (fun _ _ _ _ _ => je_cmp (oj_in (J.Room.u65 hr)) (je_var 2) (je_var 0))) (ja_nil)))))
abbrev s_shown_by : Stmt := top 60
def b_shown_by : GS := sSeq (sIf (gB (gOp2 fIn (gVar 1) (gC c_PLAINS))) (sRet (gOp2 fNotIn (gVar 1) (gVar 0))) (sNext)) (sSeq (sIf (gB (gOp2 fEq (gVar 1) (gC (.str (PySem.Str.ofString "own copy"))))) (sRet (gAndV (gOp2 fIn (gC (.str (PySem.Str.ofString "own"))) (gVar 0)) (gOp2 fNotIn (gC (.str (PySem.Str.ofString "ww"))) (gVar 0)))) (sNext)) (sSeq (sIf (gB (gOp2 fEq (gVar 1) (gC (.str (PySem.Str.ofString "own rr"))))) (sRet (gAndV (gOp2 fNotIn (gC (.str (PySem.Str.ofString "wr"))) (gVar 0)) (gOrV (gOp2 fIn (gC (.str (PySem.Str.ofString "own"))) (gVar 0)) (gOp2 fNotIn (gC (.str (PySem.Str.ofString "rr"))) (gVar 0))))) (sNext)) (sSeq (sIf (gB (gOp2 fEq (gVar 1) (gC (.str (PySem.Str.ofString "own gr"))))) (sRet (gAndV (gOp2 fNotIn (gC (.str (PySem.Str.ofString "wr"))) (gVar 0)) (gOrV (gOp2 fIn (gC (.str (PySem.Str.ofString "own"))) (gVar 0)) (gCall 2 (F_lacks) (gaCons (gVar 0) (gaCons (gTup (gaCons (gC (.str (PySem.Str.ofString "rr"))) (gaCons (gC (.str (PySem.Str.ofString "gr"))) (gaNil)))) (gaNil))))))) (sNext)) (sRet (gCall 2 (F_lacks) (gaCons (gVar 0) (gaCons (gOp2 fDGet (gDisp [((PySem.Str.ofString "gw"), gTup (gaCons (gC (.str (PySem.Str.ofString "gw"))) (gaCons (gC (.str (PySem.Str.ofString "rw"))) (gaNil)))), ((PySem.Str.ofString "gr"), gTup (gaCons (gC (.str (PySem.Str.ofString "gr"))) (gaCons (gC (.str (PySem.Str.ofString "rr"))) (gaNil)))), ((PySem.Str.ofString "gr same"), gTup (gaCons (gC (.str (PySem.Str.ofString "gr"))) (gaCons (gC (.str (PySem.Str.ofString "ss"))) (gaNil))))]) (gVar 1)) (gaNil))))))))
def F_shown_by : List D → S → R D := runF 2 b_shown_by
theorem sc_shown_by : FnScope ["design", "name"] ["design", "name"] (defScope s_shown_by) := ⟨rfl, rfl, rfl, by decide +kernel, rfl, by decide +kernel, by decide +kernel⟩
theorem j_shown_by (Fx : Fx P w K mg ca) : JFn P w K mg base ca 2 "shown_by" 2 F_shown_by := by
  obtain ⟨f, fd, hm, F⟩ := Fx.d_shown_by
  refine ⟨⟨f, fd, ["design", "name"], hm, F.kp, F.bindsN (fun _ _ _ _ _ _ us hl => match us, hl with | [_, _], _ => rfl), rfl, fnJD F sc_shown_by fun cdv A outer s H E hr => ?_⟩⟩
  have tk : Takes (cxOf (L2.CX P w) P w K mg base ["design", "name"] "shown_by" (defScope s_shown_by) f cdv A outer s H E) (fun cls d _ H => E cls d H) := takes_of rfl rfl rfl rfl
  exact jss_cons (js_if (jt_cmp (oj_in (J.Room.u65 hr)) (je_var 1) (je_k Fx.c_PLAINS)) (jss_one (js_ret (je_cmp (oj_notin (J.Room.u65 hr)) (je_var 1) (je_var 0)))) (jss_nil)) (jss_cons (js_if (jt_cmp (oj_eq hr.units) (je_var 1) (je_str)) (jss_one (js_ret (je_and (je_cmp (oj_in (J.Room.u65 hr)) (je_str) (je_var 0)) (je_one (je_cmp (oj_notin (J.Room.u65 hr)) (je_str) (je_var 0)))))) (jss_nil)) (jss_cons (js_if (jt_cmp (oj_eq hr.units) (je_var 1) (je_str)) (jss_one (js_ret (je_and (je_cmp (oj_notin (J.Room.u65 hr)) (je_str) (je_var 0)) (je_one (je_or (je_cmp (oj_in (J.Room.u65 hr)) (je_str) (je_var 0)) (je_one (je_cmp (oj_notin (J.Room.u65 hr)) (je_str) (je_var 0)))))))) (jss_nil)) (jss_cons (js_if (jt_cmp (oj_eq hr.units) (je_var 1) (je_str)) (jss_one (js_ret (je_and (je_cmp (oj_notin (J.Room.u65 hr)) (je_str) (je_var 0)) (je_one (je_or (je_cmp (oj_in (J.Room.u65 hr)) (je_str) (je_var 0)) (je_one (je_call (j_lacks Fx) (hr.mono (by decide)) tk (ja_cons (je_var 0) (ja_cons (je_tup (ja_cons (je_str) (ja_cons (je_str) (ja_nil)))) (ja_nil)))))))))) (jss_nil)) (jss_one (js_ret (je_call (j_lacks Fx) (hr.mono (by decide)) tk (ja_cons (je_var 0) (ja_cons (je_dget hr (je_disp (kgs := [((PySem.Str.ofString "gw"), gTup (gaCons (gC (.str (PySem.Str.ofString "gw"))) (gaCons (gC (.str (PySem.Str.ofString "rw"))) (gaNil)))), ((PySem.Str.ofString "gr"), gTup (gaCons (gC (.str (PySem.Str.ofString "gr"))) (gaCons (gC (.str (PySem.Str.ofString "rr"))) (gaNil)))), ((PySem.Str.ofString "gr same"), gTup (gaCons (gC (.str (PySem.Str.ofString "gr"))) (gaCons (gC (.str (PySem.Str.ofString "ss"))) (gaNil))))]) (pps_cons pe_str (je_tup (ja_cons (je_str) (ja_cons (je_str) (ja_nil)))) (pps_cons pe_str (je_tup (ja_cons (je_str) (ja_cons (je_str) (ja_nil)))) (pps_cons pe_str (je_tup (ja_cons (je_str) (ja_cons (je_str) (ja_nil)))) (pps_nil))))) (je_var 1)) (ja_nil)))))))))
abbrev s_is_below : Stmt := top 61
def b_is_below : GS := sSeq (sIf (gB (gF (f1 fAny) (gaCons (gLc [2] (gItems (gC c_PLAINS)) (dName 2) (gYes) (gAndV (gOp2 fIn (gVar 2) (gVar 1)) (gOp2 fNotIn (gVar 2) (gVar 0)))) (gaNil)))) (sRet (gC (.bl false))) (sNext)) (sSeq (sIf (gAnd (gB (gOp2 fIn (gC (.str (PySem.Str.ofString "gw"))) (gVar 1))) (gB (gCall 2 (F_lacks) (gaCons (gVar 0) (gaCons (gTup (gaCons (gC (.str (PySem.Str.ofString "gw"))) (gaCons (gC (.str (PySem.Str.ofString "rw"))) (gaNil)))) (gaNil)))))) (sRet (gC (.bl false))) (sNext)) (sSeq (sIf (gAnd (gB (gOp2 fIn (gC (.str (PySem.Str.ofString "gr"))) (gVar 1))) (gAnd (gB (gOp2 fNotIn (gC (.str (PySem.Str.ofString "gr"))) (gVar 0))) (gNot (gAnd (gB (gOp2 fIn (gC (.str (PySem.Str.ofString "rr"))) (gVar 0))) (gB (gOp2 fIn (gC (.str (PySem.Str.ofString "ss"))) (gVar 0))))))) (sRet (gC (.bl false))) (sNext)) (sSeq (sIf (gOr (gB (gOp2 fNotIn (gC (.str (PySem.Str.ofString "own"))) (gVar 0))) (gB (gOp2 fIn (gC (.str (PySem.Str.ofString "own"))) (gVar 1)))) (sRet (gC (.bl true))) (sNext)) (sRet (gAndV (gOp2 fIn (gC (.str (PySem.Str.ofString "ww"))) (gVar 0)) (gOrV (gOp2 fIn (gC (.str (PySem.Str.ofString "wr"))) (gVar 0)) (gCall 2 (F_lacks) (gaCons (gVar 1) (gaCons (gTup (gaCons (gC (.str (PySem.Str.ofString "rr"))) (gaCons (gC (.str (PySem.Str.ofString "gr"))) (gaNil)))) (gaNil))))))))))
def F_is_below : List D → S → R D := runF 3 b_is_below
theorem sc_is_below : FnScope ["one", "other", "name"] ["one", "other"] (defScope s_is_below) := ⟨rfl, rfl, rfl, by decide +kernel, rfl, by decide +kernel, by decide +kernel⟩
theorem j_is_below (Fx : Fx P w K mg ca) : JFn P w K mg base ca 2 "is_below" 2 F_is_below := by
  obtain ⟨f, fd, hm, F⟩ := Fx.d_is_below
  refine ⟨⟨f, fd, ["one", "other"], hm, F.kp, F.bindsN (fun _ _ _ _ _ _ us hl => match us, hl with | [_, _], _ => rfl), rfl, fnJD F sc_is_below fun cdv A outer s H E hr => ?_⟩⟩
  have tk : Takes (cxOf (L2.CX P w) P w K mg base ["one", "other", "name"] "is_below" (defScope s_is_below) f cdv A outer s H E) (fun cls d _ H => E cls d H) := takes_of rfl rfl rfl rfl
  exact jss_cons (js_if (jt_val (je_B (cj_any rfl) Fx.bi_any bt_any (ja_cons (je_lc rfl sc_is_below.nd (ji_seq (je_k Fx.c_PLAINS)) (blkOk_by (N := ["one", "other", "name"]) (sc := defScope s_is_below) (by decide +kernel)) (fun _ _ _ _ _ => pg_name (i := 2) sc_is_below.nd rfl (by first | exact Or.inl rfl | exact Or.inr rfl)) (fun _ _ _ _ _ => jts_nil) (fun _ _ _ _ _ => je_and (je_cmp (oj_in (J.Room.u65 hr)) (je_var 2) (je_var 1)) (je_one (je_cmp (oj_notin (J.Room.u65 hr)) (je_var 2) (je_var 0))))) (ja_nil)))) (jss_one (js_ret (je_bl))) (jss_nil)) (jss_cons (js_if (jw_t (jw_and (jt_cmp (oj_in (J.Room.u65 hr)) (je_str) (je_var 1)) (jw_and1 (jt_val (je_call (j_lacks Fx) (hr.mono (by decide)) tk (ja_cons (je_var 0) (ja_cons (je_tup (ja_cons (je_str) (ja_cons (je_str) (ja_nil)))) (ja_nil)))))))) (jss_one (js_ret (je_bl))) (jss_nil)) (jss_cons (js_if (jw_t (jw_and (jt_cmp (oj_in (J.Room.u65 hr)) (je_str) (je_var 1)) (jw_and (jt_cmp (oj_notin (J.Room.u65 hr)) (je_str) (je_var 0)) (jw_and1 (jt_not (jw_t (jw_and (jt_cmp (oj_in (J.Room.u65 hr)) (je_str) (je_var 0)) (jw_and1 (jt_cmp (oj_in (J.Room.u65 hr)) (je_str) (je_var 0)))))))))) (jss_one (js_ret (je_bl))) (jss_nil)) (jss_cons (js_if (jw_t (jw_or (jt_cmp (oj_notin (J.Room.u65 hr)) (je_str) (je_var 0)) (jw_or1 (jt_cmp (oj_in (J.Room.u65 hr)) (je_str) (je_var 1))))) (jss_one (js_ret (je_bl))) (jss_nil)) (jss_one (js_ret (je_and (je_cmp (oj_in (J.Room.u65 hr)) (je_str) (je_var 0)) (je_one (je_or (je_cmp (oj_in (J.Room.u65 hr)) (je_str) (je_var 0)) (je_one (je_call (j_lacks Fx) (hr.mono (by decide)) tk (ja_cons (je_var 1) (ja_cons (je_tup (ja_cons (je_str) (ja_cons (je_str) (ja_nil)))) (ja_nil)))))))))))))
abbrev s_below : Stmt := top 63
def b_below : GS := sSeq (sExpr (gCall 1 (F_need_design) (gaCons (gVar 0) (gaNil)))) (sSeq (sExpr (gCall 1 (F_need_design) (gaCons (gVar 1) (gaNil)))) (sRet (gCall 2 (F_is_below) (gaCons (gVar 0) (gaCons (gVar 1) (gaNil))))))
def F_below : List D → S → R D := runF 2 b_below
theorem sc_below : FnScope ["one", "other"] ["one", "other"] (defScope s_below) := ⟨rfl, rfl, rfl, by decide +kernel, rfl, by decide +kernel, by decide +kernel⟩
theorem j_below (Fx : Fx P w K mg ca) : JFn P w K mg base ca 3 "below" 2 F_below := by
  obtain ⟨f, fd, hm, F⟩ := Fx.d_below
  refine ⟨⟨f, fd, ["one", "other"], hm, F.kp, F.bindsN (fun _ _ _ _ _ _ us hl => match us, hl with | [_, _], _ => rfl), rfl, fnJD F sc_below fun cdv A outer s H E hr => ?_⟩⟩
  have tk : Takes (cxOf (L2.CX P w) P w K mg base ["one", "other"] "below" (defScope s_below) f cdv A outer s H E) (fun cls d _ H => E cls d H) := takes_of rfl rfl rfl rfl
  exact jss_cons (js_expr (je_call (j_need_design Fx) (hr.mono (by decide)) tk (ja_cons (je_var 0) (ja_nil)))) (jss_cons (js_expr (je_call (j_need_design Fx) (hr.mono (by decide)) tk (ja_cons (je_var 1) (ja_nil)))) (jss_one (js_ret (je_call (j_is_below Fx) (hr.mono (by decide)) tk (ja_cons (je_var 0) (ja_cons (je_var 1) (ja_nil)))))))
abbrev s_alike : Stmt := top 67
def b_alike : GS := sSeq (sExpr (gCall 1 (F_need_design) (gaCons (gVar 0) (gaNil)))) (sSeq (sExpr (gCall 1 (F_need_design) (gaCons (gVar 1) (gaNil)))) (sRet (gAndV (gCall 2 (F_is_below) (gaCons (gVar 0) (gaCons (gVar 1) (gaNil)))) (gCall 2 (F_is_below) (gaCons (gVar 1) (gaCons (gVar 0) (gaNil)))))))
def F_alike : List D → S → R D := runF 2 b_alike
theorem sc_alike : FnScope ["one", "other"] ["one", "other"] (defScope s_alike) := ⟨rfl, rfl, rfl, by decide +kernel, rfl, by decide +kernel, by decide +kernel⟩
theorem j_alike (Fx : Fx P w K mg ca) : JFn P w K mg base ca 3 "alike" 2 F_alike := by
  obtain ⟨f, fd, hm, F⟩ := Fx.d_alike
  refine ⟨⟨f, fd, ["one", "other"], hm, F.kp, F.bindsN (fun _ _ _ _ _ _ us hl => match us, hl with | [_, _], _ => rfl), rfl, fnJD F sc_alike fun cdv A outer s H E hr => ?_⟩⟩
  have tk : Takes (cxOf (L2.CX P w) P w K mg base ["one", "other"] "alike" (defScope s_alike) f cdv A outer s H E) (fun cls d _ H => E cls d H) := takes_of rfl rfl rfl rfl
  exact jss_cons (js_expr (je_call (j_need_design Fx) (hr.mono (by decide)) tk (ja_cons (je_var 0) (ja_nil)))) (jss_cons (js_expr (je_call (j_need_design Fx) (hr.mono (by decide)) tk (ja_cons (je_var 1) (ja_nil)))) (jss_one (js_ret (je_and (je_call (j_is_below Fx) (hr.mono (by decide)) tk (ja_cons (je_var 0) (ja_cons (je_var 1) (ja_nil)))) (je_one (je_call (j_is_below Fx) (hr.mono (by decide)) tk (ja_cons (je_var 1) (ja_cons (je_var 0) (ja_nil)))))))))
abbrev s_tests : Stmt := top 64
def b_tests : GS := sRet (gF (f1 fTuple) (gaCons (gLc [0, 1, 2, 3, 4] (gItems (gCall 0 (F_told_tests) gaNil)) (dTup 5 (dsNames [0, 1, 2, 3, 4])) (gYes) (gTup (gaCons (gVar 0) (gaCons (gTup (gaCons (gVar 1) (gaCons (gVar 2) (gaNil)))) (gaCons (gTup (gaCons (gVar 3) (gaCons (gVar 4) (gaNil)))) (gaNil)))))) (gaNil)))
def F_tests : List D → S → R D := runF 5 b_tests
theorem sc_tests : FnScope ["name", "first", "second", "regs", "cells"] [] (defScope s_tests) := ⟨rfl, rfl, rfl, by decide +kernel, rfl, by decide +kernel, by decide +kernel⟩
theorem j_tests (Fx : Fx P w K mg ca) : JFn P w K mg base ca 2 "tests" 0 F_tests := by
  obtain ⟨f, fd, hm, F⟩ := Fx.d_tests
  refine ⟨⟨f, fd, [], hm, F.kp, F.bindsN (fun _ _ _ _ _ _ us hl => match us, hl with | [], _ => rfl), rfl, fnJD F sc_tests fun cdv A outer s H E hr => ?_⟩⟩
  have tk : Takes (cxOf (L2.CX P w) P w K mg base ["name", "first", "second", "regs", "cells"] "tests" (defScope s_tests) f cdv A outer s H E) (fun cls d _ H => E cls d H) := takes_of rfl rfl rfl rfl
  exact jss_one (js_ret (je_Ty cj_tuple Fx.bi_tuple bt_tuple (ja_cons (je_lcT (own := [(("name" : Str), 0), (("first" : Str), 1), (("second" : Str), 2), (("regs" : Str), 3), (("cells" : Str), 4)]) rfl sc_tests.nd (ji_seq (je_call0 (j_told_tests Fx) (hr.mono (by decide)) tk)) (blkOk_by (N := ["name", "first", "second", "regs", "cells"]) (sc := defScope s_tests) (by decide +kernel)) (fun _ _ _ _ _ => pg_tup rfl (pgs_cons (pg_name (i := 0) sc_tests.nd rfl (by first | exact Or.inl rfl | exact Or.inr rfl)) (pgs_cons (pg_name (i := 1) sc_tests.nd rfl (by first | exact Or.inl rfl | exact Or.inr rfl)) (pgs_cons (pg_name (i := 2) sc_tests.nd rfl (by first | exact Or.inl rfl | exact Or.inr rfl)) (pgs_cons (pg_name (i := 3) sc_tests.nd rfl (by first | exact Or.inl rfl | exact Or.inr rfl)) (pgs_cons (pg_name (i := 4) sc_tests.nd rfl (by first | exact Or.inl rfl | exact Or.inr rfl)) (pgs_nil))))))) (fun _ _ _ _ _ => jts_nil) (fun _ _ _ _ _ => je_tup (ja_cons (je_var 0) (ja_cons (je_tup (ja_cons (je_var 1) (ja_cons (je_var 2) (ja_nil)))) (ja_cons (je_tup (ja_cons (je_var 3) (ja_cons (je_var 4) (ja_nil)))) (ja_nil)))))) (ja_nil))))
abbrev s_shows : Stmt := top 65
def b_shows : GS := sSeq (sExpr (gCall 1 (F_need_design) (gaCons (gVar 0) (gaNil)))) (sSeq (sIf (gOr (gNot (gB (gF (fIsi) (gaCons (gVar 1) (gaCons (gC (.ty "str")) (gaNil)))))) (gB (gOp2 fNotIn (gVar 1) (gLc [2] (gItems (gCall 0 (F_told_tests) gaNil)) (dName 2) (gYes) (gOp2 fIdx (gVar 2) (gC (.int 0))))))) (sNever) (sNext)) (sRet (gCall 2 (F_shown_by) (gaCons (gVar 0) (gaCons (gVar 1) (gaNil))))))
def F_shows : List D → S → R D := runF 3 b_shows
theorem sc_shows : FnScope ["design", "name", "one"] ["design", "name"] (defScope s_shows) := ⟨rfl, rfl, rfl, by decide +kernel, rfl, by decide +kernel, by decide +kernel⟩
theorem j_shows (Fx : Fx P w K mg ca) : JFn P w K mg base ca 3 "shows" 2 F_shows := by
  obtain ⟨f, fd, hm, F⟩ := Fx.d_shows
  refine ⟨⟨f, fd, ["design", "name"], hm, F.kp, F.bindsN (fun _ _ _ _ _ _ us hl => match us, hl with | [_, _], _ => rfl), rfl, fnJD F sc_shows fun cdv A outer s H E hr => ?_⟩⟩
  have tk : Takes (cxOf (L2.CX P w) P w K mg base ["design", "name", "one"] "shows" (defScope s_shows) f cdv A outer s H E) (fun cls d _ H => E cls d H) := takes_of rfl rfl rfl rfl
  exact jss_cons (js_expr (je_call (j_need_design Fx) (hr.mono (by decide)) tk (ja_cons (je_var 0) (ja_nil)))) (jss_cons (js_if (jw_t (jw_or (jt_not (jt_val (je_B cj_isinstance Fx.bi_isinstance bt_isinstance (ja_cons (je_var 1) (ja_cons (je_ty Fx.bi_str bt_str) (ja_nil)))))) (jw_or1 (jt_cmp (oj_notin (J.Room.u65 hr)) (je_var 1) (je_lc rfl sc_shows.nd (ji_seq (je_call0 (j_told_tests Fx) (hr.mono (by decide)) tk)) (blkOk_by (N := ["design", "name", "one"]) (sc := defScope s_shows) (by decide +kernel)) (fun _ _ _ _ _ => pg_name (i := 2) sc_shows.nd rfl (by first | exact Or.inl rfl | exact Or.inr rfl)) (fun _ _ _ _ _ => jts_nil) (fun _ _ _ _ _ => je_ix (je_var 2) (je_int))))))) (jss_one (js_never)) (jss_nil)) (jss_one (js_ret (je_call (j_shown_by Fx) (hr.mono (by decide)) tk (ja_cons (je_var 0) (ja_cons (je_var 1) (ja_nil)))))))
abbrev s_first_test : Stmt := top 66
def b_first_test : GS := sSeq (sExpr (gCall 1 (F_need_design) (gaCons (gVar 0) (gaNil)))) (sSeq (sExpr (gCall 1 (F_need_design) (gaCons (gVar 1) (gaNil)))) (sSeq (sFor (dName 2) (gItems (gCall 0 (F_told_tests) gaNil)) (sIf (gAnd (gB (gCall 2 (F_shown_by) (gaCons (gVar 0) (gaCons (gOp2 fIdx (gVar 2) (gC (.int 0))) (gaNil))))) (gNot (gB (gCall 2 (F_shown_by) (gaCons (gVar 1) (gaCons (gOp2 fIdx (gVar 2) (gC (.int 0))) (gaNil))))))) (sRet (gOp2 fIdx (gVar 2) (gC (.int 0)))) (sNext))) (sRet (gC .non))))
def F_first_test : List D → S → R D := runF 3 b_first_test
theorem sc_first_test : FnScope ["one", "other", "test"] ["one", "other"] (defScope s_first_test) := ⟨rfl, rfl, rfl, by decide +kernel, rfl, by decide +kernel, by decide +kernel⟩
theorem j_first_test (Fx : Fx P w K mg ca) : JFn P w K mg base ca 3 "first_test" 2 F_first_test := by
  obtain ⟨f, fd, hm, F⟩ := Fx.d_first_test
  refine ⟨⟨f, fd, ["one", "other"], hm, F.kp, F.bindsN (fun _ _ _ _ _ _ us hl => match us, hl with | [_, _], _ => rfl), rfl, fnJD F sc_first_test fun cdv A outer s H E hr => ?_⟩⟩
  have tk : Takes (cxOf (L2.CX P w) P w K mg base ["one", "other", "test"] "first_test" (defScope s_first_test) f cdv A outer s H E) (fun cls d _ H => E cls d H) := takes_of rfl rfl rfl rfl
  exact jss_cons (js_expr (je_call (j_need_design Fx) (hr.mono (by decide)) tk (ja_cons (je_var 0) (ja_nil)))) (jss_cons (js_expr (je_call (j_need_design Fx) (hr.mono (by decide)) tk (ja_cons (je_var 1) (ja_nil)))) (jss_cons (js_for (passes_of rfl) rfl (ji_seq (je_call0 (j_told_tests Fx) (hr.mono (by decide)) tk)) (jg_name 2 sc_first_test.nd) (jss_one (js_if (jw_t (jw_and (jt_val (je_call (j_shown_by Fx) (hr.mono (by decide)) tk (ja_cons (je_var 0) (ja_cons (je_ix (je_var 2) (je_int)) (ja_nil))))) (jw_and1 (jt_not (jt_val (je_call (j_shown_by Fx) (hr.mono (by decide)) tk (ja_cons (je_var 1) (ja_cons (je_ix (je_var 2) (je_int)) (ja_nil))))))))) (jss_one (js_ret (je_ix (je_var 2) (je_int)))) (jss_nil)))) (jss_one (js_ret (je_non)))))
abbrev s_normal_of : Stmt := top 62
def b_normal_of : GS := sSeq (sAsg (gFN fDictP (gaCons (gLc [2] (gItems (gVar 0)) (dName 2) (gYes) (gTup (gaCons (gVar 2) (gaCons (gC (.bl true)) (gaNil))))) (gaNil))) (dName 1)) (sSeq (sIf (gB (gDIn (gC (.str (PySem.Str.ofString "rw"))) (gVar 1))) (sDPutJ (gC (.bl true)) (gVar 1) (gC (.str (PySem.Str.ofString "gw")))) (sNext)) (sSeq (sIf (gAnd (gB (gDIn (gC (.str (PySem.Str.ofString "rr"))) (gVar 1))) (gB (gDIn (gC (.str (PySem.Str.ofString "ss"))) (gVar 1)))) (sDPutJ (gC (.bl true)) (gVar 1) (gC (.str (PySem.Str.ofString "gr")))) (sNext)) (sSeq (sIf (gAnd (gB (gDIn (gC (.str (PySem.Str.ofString "ww"))) (gVar 1))) (gOr (gB (gDIn (gC (.str (PySem.Str.ofString "wr"))) (gVar 1))) (gB (gCall 2 (F_lacks) (gaCons (gVar 0) (gaCons (gTup (gaCons (gC (.str (PySem.Str.ofString "rr"))) (gaCons (gC (.str (PySem.Str.ofString "gr"))) (gaNil)))) (gaNil))))))) (sExpr (gDPop2 (gVar 1) (gC (.str (PySem.Str.ofString "own"))) (gC .non))) (sNext)) (sRet (gF (f1 fTuple) (gaCons (gF (f1 fSortDk) (gaCons (gVar 1) (gaNil))) (gaNil)))))))
def F_normal_of : List D → S → R D := runF 3 b_normal_of
theorem sc_normal_of : FnScope ["design", "held", "name"] ["design"] (defScope s_normal_of) := ⟨rfl, rfl, rfl, by decide +kernel, rfl, by decide +kernel, by decide +kernel⟩
theorem j_normal_of (Fx : Fx P w K mg ca) : JFn P w K mg base ca 2 "normal_of" 1 F_normal_of := by
  obtain ⟨f, fd, hm, F⟩ := Fx.d_normal_of
  refine ⟨⟨f, fd, ["design"], hm, F.kp, F.bindsN (fun _ _ _ _ _ _ us hl => match us, hl with | [_], _ => rfl), rfl, fnJD F sc_normal_of fun cdv A outer s H E hr => ?_⟩⟩
  have tk : Takes (cxOf (L2.CX P w) P w K mg base ["design", "held", "name"] "normal_of" (defScope s_normal_of) f cdv A outer s H E) (fun cls d _ H => E cls d H) := takes_of rfl rfl rfl rfl
  exact jss_cons (js_set 1 sc_normal_of.nd (je_TyN (cn_dictP rfl) Fx.bi_dict bt_dict (ja_cons (je_lc rfl sc_normal_of.nd (ji_seq (je_var 0)) (blkOk_by (N := ["design", "held", "name"]) (sc := defScope s_normal_of) (by decide +kernel)) (fun _ _ _ _ _ => pg_name (i := 2) sc_normal_of.nd rfl (by first | exact Or.inl rfl | exact Or.inr rfl)) (fun _ _ _ _ _ => jts_nil) (fun _ _ _ _ _ => je_tup (ja_cons (je_var 2) (ja_cons (je_bl) (ja_nil))))) (ja_nil)))) (jss_cons (js_if (jt_din hr (je_str) (je_var 1)) (jss_one (js_dput hr (je_bl) (je_var 1) (je_str))) (jss_nil)) (jss_cons (js_if (jw_t (jw_and (jt_din hr (je_str) (je_var 1)) (jw_and1 (jt_din hr (je_str) (je_var 1))))) (jss_one (js_dput hr (je_bl) (je_var 1) (je_str))) (jss_nil)) (jss_cons (js_if (jw_t (jw_and (jt_din hr (je_str) (je_var 1)) (jw_and1 (jw_t (jw_or (jt_din hr (je_str) (je_var 1)) (jw_or1 (jt_val (je_call (j_lacks Fx) (hr.mono (by decide)) tk (ja_cons (je_var 0) (ja_cons (je_tup (ja_cons (je_str) (ja_cons (je_str) (ja_nil)))) (ja_nil))))))))))) (jss_one (js_expr (je_dpop2 (je_var 1) (je_str) (je_non)))) (jss_nil)) (jss_one (js_ret (je_Ty cj_tuple Fx.bi_tuple bt_tuple (ja_cons (je_B (cj_sortDk rfl) Fx.bi_sorted bt_sorted (ja_cons (je_var 1) (ja_nil))) (ja_nil))))))))
abbrev s_normal : Stmt := top 68
def b_normal : GS := sSeq (sExpr (gCall 1 (F_need_design) (gaCons (gVar 0) (gaNil)))) (sRet (gCall 1 (F_normal_of) (gaCons (gVar 0) (gaNil))))
def F_normal : List D → S → R D := runF 1 b_normal
theorem sc_normal : FnScope ["design"] ["design"] (defScope s_normal) := ⟨rfl, rfl, rfl, by decide +kernel, rfl, by decide +kernel, by decide +kernel⟩
theorem j_normal (Fx : Fx P w K mg ca) : JFn P w K mg base ca 3 "normal" 1 F_normal := by
  obtain ⟨f, fd, hm, F⟩ := Fx.d_normal
  refine ⟨⟨f, fd, ["design"], hm, F.kp, F.bindsN (fun _ _ _ _ _ _ us hl => match us, hl with | [_], _ => rfl), rfl, fnJD F sc_normal fun cdv A outer s H E hr => ?_⟩⟩
  have tk : Takes (cxOf (L2.CX P w) P w K mg base ["design"] "normal" (defScope s_normal) f cdv A outer s H E) (fun cls d _ H => E cls d H) := takes_of rfl rfl rfl rfl
  exact jss_cons (js_expr (je_call (j_need_design Fx) (hr.mono (by decide)) tk (ja_cons (je_var 0) (ja_nil)))) (jss_one (js_ret (je_call (j_normal_of Fx) (hr.mono (by decide)) tk (ja_cons (je_var 0) (ja_nil)))))
abbrev s_normals : Stmt := top 69
def b_normals : GS := sRet (gF (f1 fTuple) (gaCons (gLc [0] (gItems (gCall 0 (F_all_designs) gaNil)) (dName 0) (gB (gOp2 fEq (gCall 1 (F_normal_of) (gaCons (gVar 0) (gaNil))) (gVar 0))) (gVar 0)) (gaNil)))
def F_normals : List D → S → R D := runF 1 b_normals
theorem sc_normals : FnScope ["design"] [] (defScope s_normals) := ⟨rfl, rfl, rfl, by decide +kernel, rfl, by decide +kernel, by decide +kernel⟩
theorem j_normals (Fx : Fx P w K mg ca) : JFn P w K mg base ca 3 "normals" 0 F_normals := by
  obtain ⟨f, fd, hm, F⟩ := Fx.d_normals
  refine ⟨⟨f, fd, [], hm, F.kp, F.bindsN (fun _ _ _ _ _ _ us hl => match us, hl with | [], _ => rfl), rfl, fnJD F sc_normals fun cdv A outer s H E hr => ?_⟩⟩
  have tk : Takes (cxOf (L2.CX P w) P w K mg base ["design"] "normals" (defScope s_normals) f cdv A outer s H E) (fun cls d _ H => E cls d H) := takes_of rfl rfl rfl rfl
  exact jss_one (js_ret (je_Ty cj_tuple Fx.bi_tuple bt_tuple (ja_cons (je_lc rfl sc_normals.nd (ji_seq (je_call0 (j_all_designs Fx) (hr.mono (by decide)) tk)) (blkOk_by (N := ["design"]) (sc := defScope s_normals) (by decide +kernel)) (fun _ _ _ _ _ => pg_name (i := 0) sc_normals.nd rfl (by first | exact Or.inl rfl | exact Or.inr rfl)) (fun _ _ _ _ _ => jts_one (jt_cmp (oj_eq hr.units) (je_call (j_normal_of Fx) (hr.mono (by decide)) takes0 (ja_cons (je_var 0) (ja_nil))) (je_var 0))) (fun _ _ _ _ _ => je_var 0)) (ja_nil))))
abbrev s_law_taken : Stmt := top 96
def b_law_taken : GS := sSeq (sIf (gB (gOp2 fGt (gOp2 fIdx (gVar 0) (gC (.int 3))) (gC (.int 0)))) (sSeq (sAsg (gOp2 fMod (gF (f1 fInt) (gaCons (gOp2 fIdx (gVar 0) (gC (.int 3))) (gaNil))) (gVar 1)) (dName 3)) (sSeq (sSetIx (gOp2 fDiv (gOp2 fIdx (gVar 0) (gC (.int 3))) (gVar 1)) (gVar 0) (gC (.int 3))) (sRet (gVar 3)))) (sNext)) (sSeq (sSetIx (gOp2 fAdd (gOp2 fIdx (gVar 0) (gC (.int 1))) (gC (.int 1))) (gVar 0) (gC (.int 1))) (sSeq (sIf (gB (gOp2 fGt (gOp2 fIdx (gVar 0) (gC (.int 1))) (gF (f1 fLen) (gaCons (gOp2 fIdx (gVar 0) (gC (.int 0))) (gaNil))))) (sSeq (sSetIx (gOp2 fMod (gF (f1 fInt) (gaCons (gOp2 fAdd (gOp2 fMul (gOp2 fIdx (gVar 0) (gC (.int 2))) (gC (.int 48271))) (gC (.int 11))) (gaNil))) (gC (.int 2147483647))) (gVar 0) (gC (.int 2))) (sRet (gOp2 fMod (gF (f1 fInt) (gaCons (gOp2 fDiv (gOp2 fIdx (gVar 0) (gC (.int 2))) (gC (.int 7))) (gaNil))) (gVar 1)))) (sNext)) (sSeq (sAsg (gOp2 fIdx (gOp2 fIdx (gVar 0) (gC (.int 0))) (gOp2 fSub (gOp2 fIdx (gVar 0) (gC (.int 1))) (gC (.int 1)))) (dName 2)) (sSeq (sSetIx (gOp2 fMod (gF (f1 fInt) (gaCons (gOp2 fAdd (gOp2 fAdd (gOp2 fMul (gOp2 fIdx (gVar 0) (gC (.int 2))) (gC (.int 48271))) (gVar 2)) (gC (.int 11))) (gaNil))) (gC (.int 2147483647))) (gVar 0) (gC (.int 2))) (sSeq (sIf (gB (gOp2 fGe (gVar 2) (gOp2 fPow (gC (.int 10)) (gC (.int 18))))) (sSetIx (gOp2 fDiv (gVar 2) (gVar 1)) (gVar 0) (gC (.int 3))) (sNext)) (sRet (gOp2 fMod (gF (f1 fInt) (gaCons (gVar 2) (gaNil))) (gVar 1))))))))
def F_law_taken : List D → S → R D := runF 4 b_law_taken
theorem sc_law_taken : FnScope ["_law_row", "_law_many", "_law_cell", "_law_found"] ["_law_row", "_law_many"] (defScope s_law_taken) := ⟨rfl, rfl, rfl, by decide +kernel, rfl, by decide +kernel, by decide +kernel⟩
theorem j_law_taken (Fx : Fx P w K mg ca) : JFn P w K mg base ca 1 "_law_taken" 2 F_law_taken := by
  obtain ⟨f, fd, hm, F⟩ := Fx.d_law_taken
  refine ⟨⟨f, fd, ["_law_row", "_law_many"], hm, F.kp, F.bindsN (fun _ _ _ _ _ _ us hl => match us, hl with | [_, _], _ => rfl), rfl, fnJD F sc_law_taken fun cdv A outer s H E hr => ?_⟩⟩
  have tk : Takes (cxOf (L2.CX P w) P w K mg base ["_law_row", "_law_many", "_law_cell", "_law_found"] "_law_taken" (defScope s_law_taken) f cdv A outer s H E) (fun cls d _ H => E cls d H) := takes_of rfl rfl rfl rfl
  exact jss_cons (js_if (jt_cmp oj_gt (je_ix (je_var 0) (je_int)) (je_int)) (jss_cons (js_set 3 sc_law_taken.nd (je_op oj_mod (je_Ty cj_int Fx.bi_int bt_int (ja_cons (je_ix (je_var 0) (je_int)) (ja_nil))) (je_var 1))) (jss_cons (js_setIx (je_op oj_div (je_ix (je_var 0) (je_int)) (je_var 1)) (je_var 0) (je_int)) (jss_one (js_ret (je_var 3))))) (jss_nil)) (jss_cons (js_setIx (je_op oj_add (je_ix (je_var 0) (je_int)) (je_int)) (je_var 0) (je_int)) (jss_cons (js_if (jt_cmp oj_gt (je_ix (je_var 0) (je_int)) (je_B cj_len Fx.bi_len bt_len (ja_cons (je_ix (je_var 0) (je_int)) (ja_nil)))) (jss_cons (js_setIx (je_op oj_mod (je_Ty cj_int Fx.bi_int bt_int (ja_cons (je_op oj_add (je_op oj_mul (je_ix (je_var 0) (je_int)) (je_int)) (je_int)) (ja_nil))) (je_int)) (je_var 0) (je_int)) (jss_one (js_ret (je_op oj_mod (je_Ty cj_int Fx.bi_int bt_int (ja_cons (je_op oj_div (je_ix (je_var 0) (je_int)) (je_int)) (ja_nil))) (je_var 1))))) (jss_nil)) (jss_cons (js_set 2 sc_law_taken.nd (je_ix (je_ix (je_var 0) (je_int)) (je_op oj_sub (je_ix (je_var 0) (je_int)) (je_int)))) (jss_cons (js_setIx (je_op oj_mod (je_Ty cj_int Fx.bi_int bt_int (ja_cons (je_op oj_add (je_op oj_add (je_op oj_mul (je_ix (je_var 0) (je_int)) (je_int)) (je_var 2)) (je_int)) (ja_nil))) (je_int)) (je_var 0) (je_int)) (jss_cons (js_if (jt_cmp oj_ge (je_var 2) (je_op oj_pow (je_int) (je_int))) (jss_one (js_setIx (je_op oj_div (je_var 2) (je_var 1)) (je_var 0) (je_int))) (jss_nil)) (jss_one (js_ret (je_op oj_mod (je_Ty cj_int Fx.bi_int bt_int (ja_cons (je_var 2) (ja_nil))) (je_var 1)))))))))
abbrev s_law : Stmt := top 97
def b_law : GS := sSeq (sAsg (gLstM (gaCons (gVar 0) (gaCons (gC (.int 0)) (gaCons (gC (.int 14253)) (gaCons (gC (.int 0)) (gaNil)))))) (dName 1)) (sSeq (sAsg (gOp2 fAdd (gC (.int 1)) (gCall 2 (F_law_taken) (gaCons (gVar 1) (gaCons (gC (.int 9)) (gaNil))))) (dName 2)) (sSeq (sAsg (gTup (gaCons (gC (.str (PySem.Str.ofString "own"))) (gaCons (gC (.str (PySem.Str.ofString "rr"))) (gaCons (gC (.str (PySem.Str.ofString "rw"))) (gaCons (gC (.str (PySem.Str.ofString "ss"))) (gaCons (gC (.str (PySem.Str.ofString "ww"))) (gaNil))))))) (dName 3)) (sSeq (sAsg (gTup (gaCons (gC (.str (PySem.Str.ofString "rr"))) (gaCons (gC (.str (PySem.Str.ofString "rw"))) (gaCons (gC (.str (PySem.Str.ofString "ss"))) (gaCons (gC (.str (PySem.Str.ofString "wr"))) (gaCons (gC (.str (PySem.Str.ofString "ww"))) (gaNil))))))) (dName 4)) (sSeq (sAsg (gTup (gaCons (gTup (gaCons (gTup (gaCons (gC (.str (PySem.Str.ofString "write"))) (gaCons (gC (.int 0)) (gaCons (gVar 2) (gaNil))))) (gaCons (gTup (gaCons (gC (.str (PySem.Str.ofString "read"))) (gaCons (gC (.int 0)) (gaCons (gC (.int 1)) (gaNil))))) (gaNil)))) (gaCons (gTup (gaCons (gTup (gaCons (gC (.str (PySem.Str.ofString "write"))) (gaCons (gC (.int 1)) (gaCons (gVar 2) (gaNil))))) (gaCons (gTup (gaCons (gC (.str (PySem.Str.ofString "read"))) (gaCons (gC (.int 0)) (gaCons (gC (.int 0)) (gaNil))))) (gaNil)))) (gaNil)))) (dName 5)) (sSeq (sAsg (gTup (gaCons (gTup (gaCons (gTup (gaCons (gC (.int 0)) (gaCons (gC (.int 0)) (gaNil)))) (gaCons (gTup (gaCons (gC (.int 0)) (gaCons (gC (.int 0)) (gaNil)))) (gaNil)))) (gaCons (gTup (gaCons (gVar 2) (gaCons (gVar 2) (gaCons (gC (.int 0)) (gaNil))))) (gaNil)))) (dName 6)) (sSeq (sIf (gOr (gB (gOp2 fNe (gFor (gCall 2 (F_strange) (gaCons (gVar 3) (gaCons (gVar 5) (gaNil))))) (gVar 6))) (gOr (gB (gOp2 fIsN (gFor (gCall 2 (F_is_plain) (gaCons (gVar 4) (gaCons (gVar 5) (gaNil))))) (gC (.bl true)))) (gB (gOp2 fNe (gF (f1 fLen) (gaCons (gFor (gCall 1 (F_plain_outcomes) (gaCons (gVar 5) (gaNil)))) (gaNil))) (gC (.int 3)))))) (sRet (gC (.bl false))) (sNext)) (sSeq (sIf (gOr (gB (gOp2 fNe (gF (f1 fLen) (gaCons (gFor (gCall 2 (F_outcomes) (gaCons (gVar 3) (gaCons (gVar 5) (gaNil))))) (gaNil))) (gC (.int 4)))) (gOr (gB (gOp2 fNe (gFor (gCall 2 (F_count_rows) (gaCons (gVar 4) (gaCons (gVar 5) (gaNil))))) (gC (.int 6)))) (gB (gOp2 fNe (gFor (gCall 2 (F_count_rows) (gaCons (gTup (gaNil)) (gaCons (gVar 5) (gaNil))))) (gC (.int 24)))))) (sRet (gC (.bl false))) (sNext)) (sSeq (sIf (gOr (gB (gOp2 fNe (gFor (gCall 3 (F_row_for) (gaCons (gVar 3) (gaCons (gVar 5) (gaCons (gVar 6) (gaNil)))))) (gTup (gaCons (gTup (gaCons (gC (.int 0)) (gaCons (gC (.int 1)) (gaNil)))) (gaCons (gTup (gaCons (gC (.int 1)) (gaCons (gC (.int 0)) (gaNil)))) (gaCons (gTup (gaCons (gC (.int 1)) (gaCons (gC (.int 1)) (gaNil)))) (gaCons (gTup (gaCons (gC (.int 0)) (gaCons (gC (.int 0)) (gaNil)))) (gaNil)))))))) (gB (gOp2 fNe (gFor (gCall 3 (F_told_by) (gaCons (gVar 3) (gaCons (gVar 5) (gaCons (gTup (gaCons (gTup (gaCons (gC (.int 0)) (gaCons (gC (.int 1)) (gaNil)))) (gaCons (gTup (gaCons (gC (.int 1)) (gaCons (gC (.int 1)) (gaNil)))) (gaCons (gTup (gaCons (gC (.int 1)) (gaCons (gC (.int 0)) (gaNil)))) (gaCons (gTup (gaCons (gC (.int 0)) (gaCons (gC (.int 0)) (gaNil)))) (gaNil)))))) (gaNil)))))) (gVar 6)))) (sRet (gC (.bl false))) (sNext)) (sSeq (sIf (gOr (gB (gOp2 fNe (gFor (gCall 2 (F_fewest_fences) (gaCons (gVar 3) (gaCons (gVar 5) (gaNil))))) (gTup (gaCons (gTup (gaCons (gC (.int 0)) (gaCons (gC (.int 1)) (gaNil)))) (gaCons (gTup (gaCons (gC (.int 1)) (gaCons (gC (.int 1)) (gaNil)))) (gaNil)))))) (gB (gOp2 fIsN (gFor (gCall 2 (F_is_plain) (gaCons (gVar 3) (gaCons (gFor (gCall 2 (F_fenced) (gaCons (gVar 5) (gaCons (gTup (gaCons (gTup (gaCons (gC (.int 0)) (gaCons (gC (.int 1)) (gaNil)))) (gaNil))) (gaNil))))) (gaNil))))) (gC (.bl false))))) (sRet (gC (.bl false))) (sNext)) (sSeq (sIf (gOr (gB (gOp2 fIsN (gFor (gCall 2 (F_below) (gaCons (gVar 4) (gaCons (gVar 3) (gaNil))))) (gC (.bl true)))) (gOr (gB (gOp2 fNe (gFor (gCall 2 (F_first_test) (gaCons (gVar 3) (gaCons (gVar 4) (gaNil))))) (gC (.str (PySem.Str.ofString "wr"))))) (gB (gOp2 fIsN (gFor (gCall 2 (F_first_test) (gaCons (gVar 4) (gaCons (gVar 3) (gaNil))))) (gC .non))))) (sRet (gC (.bl false))) (sNext)) (sSeq (sIf (gOr (gB (gOp2 fNe (gFor (gCall 1 (F_normal) (gaCons (gVar 3) (gaNil)))) (gTup (gaCons (gC (.str (PySem.Str.ofString "gr"))) (gaCons (gC (.str (PySem.Str.ofString "gw"))) (gaCons (gC (.str (PySem.Str.ofString "own"))) (gaCons (gC (.str (PySem.Str.ofString "rr"))) (gaCons (gC (.str (PySem.Str.ofString "rw"))) (gaCons (gC (.str (PySem.Str.ofString "ss"))) (gaCons (gC (.str (PySem.Str.ofString "ww"))) (gaNil))))))))))) (gOr (gB (gOp2 fIsN (gFor (gCall 2 (F_shows) (gaCons (gVar 3) (gaCons (gC (.str (PySem.Str.ofString "own rr"))) (gaNil))))) (gC (.bl true)))) (gB (gOp2 fIsN (gFor (gCall 2 (F_shows) (gaCons (gVar 3) (gaCons (gC (.str (PySem.Str.ofString "own copy"))) (gaNil))))) (gC (.bl false)))))) (sRet (gC (.bl false))) (sNext)) (sSeq (sIf (gOr (gB (gOp2 fNe (gFor (gCall 1 (F_normal) (gaCons (gVar 4) (gaNil)))) (gTup (gaCons (gC (.str (PySem.Str.ofString "gr"))) (gaCons (gC (.str (PySem.Str.ofString "gw"))) (gaCons (gC (.str (PySem.Str.ofString "rr"))) (gaCons (gC (.str (PySem.Str.ofString "rw"))) (gaCons (gC (.str (PySem.Str.ofString "ss"))) (gaCons (gC (.str (PySem.Str.ofString "wr"))) (gaCons (gC (.str (PySem.Str.ofString "ww"))) (gaNil))))))))))) (gOr (gB (gOp2 fIsN (gFor (gCall 2 (F_alike) (gaCons (gVar 4) (gaCons (gOp2 fAdd (gVar 4) (gTup (gaNil))) (gaNil))))) (gC (.bl true)))) (gB (gOp2 fNe (gF (f1 fLen) (gaCons (gFor (gCall 0 (F_normals) gaNil)) (gaNil))) (gC (.int 141)))))) (sRet (gC (.bl false))) (sNext)) (sSeq (sAsg (gTup (gaCons (gTup (gaCons (gC (.str (PySem.Str.ofString "read"))) (gaCons (gC (.int 0)) (gaCons (gC (.int 0)) (gaNil))))) (gaCons (gTup (gaCons (gC (.str (PySem.Str.ofString "guard"))) (gaCons (gC (.int 0)) (gaCons (gVar 2) (gaNil))))) (gaCons (gTup (gaCons (gC (.str (PySem.Str.ofString "write"))) (gaCons (gC (.int 1)) (gaCons (gVar 2) (gaNil))))) (gaNil))))) (dName 7)) (sSeq (sIf (gOr (gB (gOp2 fIsN (gFor (gCall 4 (F_must_be_done) (gaCons (gTup (gaNil)) (gaCons (gVar 7) (gaCons (gC (.int 0)) (gaCons (gC (.int 1)) (gaNil))))))) (gC (.bl true)))) (gOr (gB (gOp2 fIsN (gFor (gCall 4 (F_must_be_done) (gaCons (gTup (gaNil)) (gaCons (gVar 7) (gaCons (gC (.int 1)) (gaCons (gC (.int 2)) (gaNil))))))) (gC (.bl false)))) (gB (gOp2 fIsN (gFor (gCall 4 (F_must_be_done) (gaCons (gTup (gaCons (gC (.str (PySem.Str.ofString "gw"))) (gaNil))) (gaCons (gVar 7) (gaCons (gC (.int 1)) (gaCons (gC (.int 2)) (gaNil))))))) (gC (.bl true)))))) (sRet (gC (.bl false))) (sNext)) (sSeq (sIf (gOr (gB (gOp2 fNe (gFor (gCall 3 (F_events_behind) (gaCons (gTup (gaNil)) (gaCons (gTup (gaCons (gVar 7) (gaNil))) (gaCons (gTup (gaNil)) (gaNil)))))) (gTup (gaCons (gTup (gaCons (gC (.int 0)) (gaCons (gC (.int 0)) (gaNil)))) (gaCons (gTup (gaCons (gC (.int 0)) (gaCons (gC (.int 2)) (gaNil)))) (gaNil)))))) (gB (gOp2 fNe (gFor (gCall 2 (F_outcomes) (gaCons (gTup (gaNil)) (gaCons (gTup (gaCons (gVar 7) (gaNil))) (gaNil))))) (gTup (gaCons (gTup (gaCons (gTup (gaCons (gTup (gaCons (gC (.int 0)) (gaCons (gC (.int 0)) (gaNil)))) (gaNil))) (gaCons (gTup (gaCons (gC (.int 0)) (gaCons (gC (.int 0)) (gaCons (gC (.int 0)) (gaNil))))) (gaNil)))) (gaNil)))))) (sRet (gC (.bl false))) (sNext)) (sSeq (sIf (gOr (gB (gOp2 fNe (gFor (gCall 2 (F_count_rows) (gaCons (gTup (gaNil)) (gaCons (gTup (gaCons (gVar 7) (gaNil))) (gaNil))))) (gC (.int 1)))) (gB (gOp2 fNe (gF (f1 fLen) (gaCons (gFor (gCall 0 (F_tests) gaNil)) (gaNil))) (gC (.int 11))))) (sRet (gC (.bl false))) (sNext)) (sRet (gAndV (gOp2 fEq (gFor (gCall 2 (F_first_test) (gaCons (gTup (gaNil)) (gaCons (gTup (gaCons (gC (.str (PySem.Str.ofString "gr"))) (gaNil))) (gaNil))))) (gC (.str (PySem.Str.ofString "gr")))) (gAndV (gOp2 fEq (gFor (gCall 2 (F_first_test) (gaCons (gTup (gaCons (gC (.str (PySem.Str.ofString "rr"))) (gaNil))) (gaCons (gTup (gaCons (gC (.str (PySem.Str.ofString "gr"))) (gaCons (gC (.str (PySem.Str.ofString "rr"))) (gaNil)))) (gaNil))))) (gC (.str (PySem.Str.ofString "gr same")))) (gOp2 fEq (gFor (gCall 2 (F_first_test) (gaCons (gTup (gaCons (gC (.str (PySem.Str.ofString "own"))) (gaCons (gC (.str (PySem.Str.ofString "wr"))) (gaNil)))) (gaCons (gTup (gaCons (gC (.str (PySem.Str.ofString "wr"))) (gaNil))) (gaNil))))) (gC (.str (PySem.Str.ofString "own copy")))))))))))))))))))))))
def F_law : List D → S → R D := runF 8 b_law
theorem sc_law : FnScope ["_law_script", "_law_row", "_law_number", "_law_late", "_law_strict", "_law_program", "_law_odd", "_law_core"] ["_law_script"] (defScope s_law) := ⟨rfl, rfl, rfl, by decide +kernel, rfl, by decide +kernel, by decide +kernel⟩
theorem j_law (Fx : Fx P w K mg ca) {f c Pt : Addr} {fd : FuncData} (F : FunD K "law" "law" (defArgs s_law) (defBody s_law) (defScope s_law) [] [] f fd) (hf : He.fAd K ("law", none) = f) (hc : He.codeOf K ("law", none) = c) : FnOk P w K mg base (L2.CX P w) 21 f fd ["_law_script"] (spJ K ca 1 F_law) := by
  refine fnJL (k := 20) F sc_law hf hc fun cdv A outer s H E hcdv hr => ?_
  have tk : Takes (cxOf (L2.CX P w) P w K mg base ["_law_script", "_law_row", "_law_number", "_law_late", "_law_strict", "_law_program", "_law_odd", "_law_core"] "law" (defScope s_law) f cdv A outer s H E) (fun cls d _ H => E cls d H) := takes_of rfl rfl rfl rfl
  exact jss_cons (js_set 1 sc_law.nd (je_lstM (ja_cons (je_var 0) (ja_cons (je_int) (ja_cons (je_int) (ja_cons (je_int) (ja_nil))))))) (jss_cons (js_set 2 sc_law.nd (je_op oj_add (je_int) (je_call (j_law_taken Fx) (hr.mono (by decide)) tk (ja_cons (je_var 1) (ja_cons (je_int) (ja_nil)))))) (jss_cons (js_set 3 sc_law.nd (je_tup (ja_cons (je_str) (ja_cons (je_str) (ja_cons (je_str) (ja_cons (je_str) (ja_cons (je_str) (ja_nil)))))))) (jss_cons (js_set 4 sc_law.nd (je_tup (ja_cons (je_str) (ja_cons (je_str) (ja_cons (je_str) (ja_cons (je_str) (ja_cons (je_str) (ja_nil)))))))) (jss_cons (js_set 5 sc_law.nd (je_tup (ja_cons (je_tup (ja_cons (je_tup (ja_cons (je_str) (ja_cons (je_int) (ja_cons (je_var 2) (ja_nil))))) (ja_cons (je_tup (ja_cons (je_str) (ja_cons (je_int) (ja_cons (je_int) (ja_nil))))) (ja_nil)))) (ja_cons (je_tup (ja_cons (je_tup (ja_cons (je_str) (ja_cons (je_int) (ja_cons (je_var 2) (ja_nil))))) (ja_cons (je_tup (ja_cons (je_str) (ja_cons (je_int) (ja_cons (je_int) (ja_nil))))) (ja_nil)))) (ja_nil))))) (jss_cons (js_set 6 sc_law.nd (je_tup (ja_cons (je_tup (ja_cons (je_tup (ja_cons (je_int) (ja_cons (je_int) (ja_nil)))) (ja_cons (je_tup (ja_cons (je_int) (ja_cons (je_int) (ja_nil)))) (ja_nil)))) (ja_cons (je_tup (ja_cons (je_var 2) (ja_cons (je_var 2) (ja_cons (je_int) (ja_nil))))) (ja_nil))))) (jss_cons (js_if (jw_t (jw_or (jt_cmp (oj_ne hr.units) (je_for (je_call (j_strange Fx) (hr.mono (by decide)) tk (ja_cons (je_var 3) (ja_cons (je_var 5) (ja_nil))))) (je_var 6)) (jw_or (jt_cmp oj_isnot (je_for (je_call (j_is_plain Fx) (hr.mono (by decide)) tk (ja_cons (je_var 4) (ja_cons (je_var 5) (ja_nil))))) (je_bl)) (jw_or1 (jt_cmp (oj_ne hr.units) (je_B cj_len Fx.bi_len bt_len (ja_cons (je_for (je_call (j_plain_outcomes Fx) (hr.mono (by decide)) tk (ja_cons (je_var 5) (ja_nil)))) (ja_nil))) (je_int)))))) (jss_one (js_ret (je_bl))) (jss_nil)) (jss_cons (js_if (jw_t (jw_or (jt_cmp (oj_ne hr.units) (je_B cj_len Fx.bi_len bt_len (ja_cons (je_for (je_call (j_outcomes Fx) (hr.mono (by decide)) tk (ja_cons (je_var 3) (ja_cons (je_var 5) (ja_nil))))) (ja_nil))) (je_int)) (jw_or (jt_cmp (oj_ne hr.units) (je_for (je_call (j_count_rows Fx) (hr.mono (by decide)) tk (ja_cons (je_var 4) (ja_cons (je_var 5) (ja_nil))))) (je_int)) (jw_or1 (jt_cmp (oj_ne hr.units) (je_for (je_call (j_count_rows Fx) (hr.mono (by decide)) tk (ja_cons (je_tup (ja_nil)) (ja_cons (je_var 5) (ja_nil))))) (je_int)))))) (jss_one (js_ret (je_bl))) (jss_nil)) (jss_cons (js_if (jw_t (jw_or (jt_cmp (oj_ne hr.units) (je_for (je_call (j_row_for Fx) (hr.mono (by decide)) tk (ja_cons (je_var 3) (ja_cons (je_var 5) (ja_cons (je_var 6) (ja_nil)))))) (je_tup (ja_cons (je_tup (ja_cons (je_int) (ja_cons (je_int) (ja_nil)))) (ja_cons (je_tup (ja_cons (je_int) (ja_cons (je_int) (ja_nil)))) (ja_cons (je_tup (ja_cons (je_int) (ja_cons (je_int) (ja_nil)))) (ja_cons (je_tup (ja_cons (je_int) (ja_cons (je_int) (ja_nil)))) (ja_nil))))))) (jw_or1 (jt_cmp (oj_ne hr.units) (je_for (je_call (j_told_by Fx) (hr.mono (by decide)) tk (ja_cons (je_var 3) (ja_cons (je_var 5) (ja_cons (je_tup (ja_cons (je_tup (ja_cons (je_int) (ja_cons (je_int) (ja_nil)))) (ja_cons (je_tup (ja_cons (je_int) (ja_cons (je_int) (ja_nil)))) (ja_cons (je_tup (ja_cons (je_int) (ja_cons (je_int) (ja_nil)))) (ja_cons (je_tup (ja_cons (je_int) (ja_cons (je_int) (ja_nil)))) (ja_nil)))))) (ja_nil)))))) (je_var 6))))) (jss_one (js_ret (je_bl))) (jss_nil)) (jss_cons (js_if (jw_t (jw_or (jt_cmp (oj_ne hr.units) (je_for (je_call (j_fewest_fences Fx) (hr.mono (by decide)) tk (ja_cons (je_var 3) (ja_cons (je_var 5) (ja_nil))))) (je_tup (ja_cons (je_tup (ja_cons (je_int) (ja_cons (je_int) (ja_nil)))) (ja_cons (je_tup (ja_cons (je_int) (ja_cons (je_int) (ja_nil)))) (ja_nil))))) (jw_or1 (jt_cmp oj_isnot (je_for (je_call (j_is_plain Fx) (hr.mono (by decide)) tk (ja_cons (je_var 3) (ja_cons (je_for (je_call (j_fenced Fx) (hr.mono (by decide)) tk (ja_cons (je_var 5) (ja_cons (je_tup (ja_cons (je_tup (ja_cons (je_int) (ja_cons (je_int) (ja_nil)))) (ja_nil))) (ja_nil))))) (ja_nil))))) (je_bl))))) (jss_one (js_ret (je_bl))) (jss_nil)) (jss_cons (js_if (jw_t (jw_or (jt_cmp oj_isnot (je_for (je_call (j_below Fx) (hr.mono (by decide)) tk (ja_cons (je_var 4) (ja_cons (je_var 3) (ja_nil))))) (je_bl)) (jw_or (jt_cmp (oj_ne hr.units) (je_for (je_call (j_first_test Fx) (hr.mono (by decide)) tk (ja_cons (je_var 3) (ja_cons (je_var 4) (ja_nil))))) (je_str)) (jw_or1 (jt_cmp oj_isnot (je_for (je_call (j_first_test Fx) (hr.mono (by decide)) tk (ja_cons (je_var 4) (ja_cons (je_var 3) (ja_nil))))) (je_non)))))) (jss_one (js_ret (je_bl))) (jss_nil)) (jss_cons (js_if (jw_t (jw_or (jt_cmp (oj_ne hr.units) (je_for (je_call (j_normal Fx) (hr.mono (by decide)) tk (ja_cons (je_var 3) (ja_nil)))) (je_tup (ja_cons (je_str) (ja_cons (je_str) (ja_cons (je_str) (ja_cons (je_str) (ja_cons (je_str) (ja_cons (je_str) (ja_cons (je_str) (ja_nil)))))))))) (jw_or (jt_cmp oj_isnot (je_for (je_call (j_shows Fx) (hr.mono (by decide)) tk (ja_cons (je_var 3) (ja_cons (je_str) (ja_nil))))) (je_bl)) (jw_or1 (jt_cmp oj_isnot (je_for (je_call (j_shows Fx) (hr.mono (by decide)) tk (ja_cons (je_var 3) (ja_cons (je_str) (ja_nil))))) (je_bl)))))) (jss_one (js_ret (je_bl))) (jss_nil)) (jss_cons (js_if (jw_t (jw_or (jt_cmp (oj_ne hr.units) (je_for (je_call (j_normal Fx) (hr.mono (by decide)) tk (ja_cons (je_var 4) (ja_nil)))) (je_tup (ja_cons (je_str) (ja_cons (je_str) (ja_cons (je_str) (ja_cons (je_str) (ja_cons (je_str) (ja_cons (je_str) (ja_cons (je_str) (ja_nil)))))))))) (jw_or (jt_cmp oj_isnot (je_for (je_call (j_alike Fx) (hr.mono (by decide)) tk (ja_cons (je_var 4) (ja_cons (je_op oj_add (je_var 4) (je_tup (ja_nil))) (ja_nil))))) (je_bl)) (jw_or1 (jt_cmp (oj_ne hr.units) (je_B cj_len Fx.bi_len bt_len (ja_cons (je_for (je_call0 (j_normals Fx) (hr.mono (by decide)) tk)) (ja_nil))) (je_int)))))) (jss_one (js_ret (je_bl))) (jss_nil)) (jss_cons (js_set 7 sc_law.nd (je_tup (ja_cons (je_tup (ja_cons (je_str) (ja_cons (je_int) (ja_cons (je_int) (ja_nil))))) (ja_cons (je_tup (ja_cons (je_str) (ja_cons (je_int) (ja_cons (je_var 2) (ja_nil))))) (ja_cons (je_tup (ja_cons (je_str) (ja_cons (je_int) (ja_cons (je_var 2) (ja_nil))))) (ja_nil)))))) (jss_cons (js_if (jw_t (jw_or (jt_cmp oj_isnot (je_for (je_call (j_must_be_done Fx) (hr.mono (by decide)) tk (ja_cons (je_tup (ja_nil)) (ja_cons (je_var 7) (ja_cons (je_int) (ja_cons (je_int) (ja_nil))))))) (je_bl)) (jw_or (jt_cmp oj_isnot (je_for (je_call (j_must_be_done Fx) (hr.mono (by decide)) tk (ja_cons (je_tup (ja_nil)) (ja_cons (je_var 7) (ja_cons (je_int) (ja_cons (je_int) (ja_nil))))))) (je_bl)) (jw_or1 (jt_cmp oj_isnot (je_for (je_call (j_must_be_done Fx) (hr.mono (by decide)) tk (ja_cons (je_tup (ja_cons (je_str) (ja_nil))) (ja_cons (je_var 7) (ja_cons (je_int) (ja_cons (je_int) (ja_nil))))))) (je_bl)))))) (jss_one (js_ret (je_bl))) (jss_nil)) (jss_cons (js_if (jw_t (jw_or (jt_cmp (oj_ne hr.units) (je_for (je_call (j_events_behind Fx) (hr.mono (by decide)) tk (ja_cons (je_tup (ja_nil)) (ja_cons (je_tup (ja_cons (je_var 7) (ja_nil))) (ja_cons (je_tup (ja_nil)) (ja_nil)))))) (je_tup (ja_cons (je_tup (ja_cons (je_int) (ja_cons (je_int) (ja_nil)))) (ja_cons (je_tup (ja_cons (je_int) (ja_cons (je_int) (ja_nil)))) (ja_nil))))) (jw_or1 (jt_cmp (oj_ne hr.units) (je_for (je_call (j_outcomes Fx) (hr.mono (by decide)) tk (ja_cons (je_tup (ja_nil)) (ja_cons (je_tup (ja_cons (je_var 7) (ja_nil))) (ja_nil))))) (je_tup (ja_cons (je_tup (ja_cons (je_tup (ja_cons (je_tup (ja_cons (je_int) (ja_cons (je_int) (ja_nil)))) (ja_nil))) (ja_cons (je_tup (ja_cons (je_int) (ja_cons (je_int) (ja_cons (je_int) (ja_nil))))) (ja_nil)))) (ja_nil))))))) (jss_one (js_ret (je_bl))) (jss_nil)) (jss_cons (js_if (jw_t (jw_or (jt_cmp (oj_ne hr.units) (je_for (je_call (j_count_rows Fx) (hr.mono (by decide)) tk (ja_cons (je_tup (ja_nil)) (ja_cons (je_tup (ja_cons (je_var 7) (ja_nil))) (ja_nil))))) (je_int)) (jw_or1 (jt_cmp (oj_ne hr.units) (je_B cj_len Fx.bi_len bt_len (ja_cons (je_for (je_call0 (j_tests Fx) (hr.mono (by decide)) tk)) (ja_nil))) (je_int))))) (jss_one (js_ret (je_bl))) (jss_nil)) (jss_one (js_ret (je_and (je_cmp (oj_eq hr.units) (je_for (je_call (j_first_test Fx) (hr.mono (by decide)) tk (ja_cons (je_tup (ja_nil)) (ja_cons (je_tup (ja_cons (je_str) (ja_nil))) (ja_nil))))) (je_str)) (je_and (je_cmp (oj_eq hr.units) (je_for (je_call (j_first_test Fx) (hr.mono (by decide)) tk (ja_cons (je_tup (ja_cons (je_str) (ja_nil))) (ja_cons (je_tup (ja_cons (je_str) (ja_cons (je_str) (ja_nil)))) (ja_nil))))) (je_str)) (je_one (je_cmp (oj_eq hr.units) (je_for (je_call (j_first_test Fx) (hr.mono (by decide)) tk (ja_cons (je_tup (ja_cons (je_str) (ja_cons (je_str) (ja_nil)))) (ja_cons (je_tup (ja_cons (je_str) (ja_nil))) (ja_nil))))) (je_str)))))))))))))))))))))))
end
end G


set_option Elab.async false
set_option linter.all false
set_option maxRecDepth 100000
set_option maxHeartbeats 4000000
/-! J28: an own error whose __init__ hands its argument on by super() and keeps it as a field. -/
namespace J
open PySem PySem.Spec L2
open PySem.W (Frag Looks)

/-! ### the text of such an __init__ -/
def isNm (x : Str) : Expr → Bool
  | .Name y _ => decide (y = x)
  | _ => false
theorem isNm_ok {x : Str} {e : Expr} (h : isNm x e = true) : ∃ p, e = .Name x p := by
  cases e <;> simp only [isNm] at h <;> first | exact absurd h Bool.false_ne_true | skip
  rename_i y p
  exact ⟨p, by rw [of_decide_eq_true h]⟩
def supB (fld : Str) : Stmt → Bool
  | .Expr (.Call (.Attribute (.Call s [] [] _) i pa) [e] [] p3) _ => isNm "super" s && (decide (i = "__init__") && (isNm fld e && (pa.endLine == p3.line)))
  | _ => false
theorem supB_ok {fld : Str} {st : Stmt} (h : supB fld st = true) : ∃ p0 p1 pa p2 p3 p4, st = .Expr (.Call (.Attribute (.Call (.Name "super" p0) [] [] p1) "__init__" pa) [.Name fld p2] [] p3) p4 ∧ (pa.endLine == p3.line) = true := by
  unfold supB at h
  split at h
  · simp only [Bool.and_eq_true] at h
    obtain ⟨h1, h2, h3, h4⟩ := h
    obtain ⟨p0, rfl⟩ := isNm_ok h1
    obtain ⟨p2, rfl⟩ := isNm_ok h3
    have e := of_decide_eq_true h2
    subst e
    exact ⟨_, _, _, _, _, _, rfl, h4⟩
  · exact absurd h Bool.false_ne_true
def kepB (fld : Str) : Stmt → Bool
  | .Assign [.Attribute s f _] e _ => isNm "self" s && (decide (f = fld) && isNm fld e)
  | _ => false
theorem kepB_ok {fld : Str} {st : Stmt} (h : kepB fld st = true) : ∃ p0 p1 p2 p3, st = .Assign [.Attribute (.Name "self" p0) fld p1] (.Name fld p2) p3 := by
  unfold kepB at h
  split at h
  · simp only [Bool.and_eq_true] at h
    obtain ⟨h1, h2, h3⟩ := h
    obtain ⟨p0, rfl⟩ := isNm_ok h1
    obtain ⟨p2, rfl⟩ := isNm_ok h3
    have e := of_decide_eq_true h2
    subst e
    exact ⟨_, _, _, _, rfl⟩
  · exact absurd h Bool.false_ne_true
def parB (fld : Str) : Arguments → Bool
  | ⟨[], [⟨a, none, _⟩, ⟨b, none, _⟩], none, [], [], none, []⟩ => decide (a = "self") && decide (b = fld)
  | _ => false
theorem parB_ok {fld : Str} {ar : Arguments} (h : parB fld ar = true) : ∃ p q, ar = ⟨[], [⟨"self", none, p⟩, ⟨fld, none, q⟩], none, [], [], none, []⟩ := by
  unfold parB at h
  split at h
  · simp only [Bool.and_eq_true, decide_eq_true_eq] at h
    obtain ⟨rfl, rfl⟩ := h
    exact ⟨_, _, rfl⟩
  · exact absurd h Bool.false_ne_true
def bodB (fld : Str) : FuncBody → Bool
  | .stmts [a, b] => supB fld a && kepB fld b
  | _ => false
def scoB (fld : Str) (sc : Scope) : Bool :=
  decide (sc.kind = .function) && (!sc.isCoroutine && (!sc.isGenerator && (decide (sc.names.lookup ("super" : Str) = some .globalImplicit) && (decide (sc.names.lookup ("__class__" : Str) = some .free) && (decide (sc.names.lookup ("self" : Str) = some .local) &&
    (decide (sc.names.lookup fld = some .local) && sc.names.all fun y => !decide (y.2 = .cell)))))))
def celB (K : Frag) (C : Addr) (c : Addr) : Bool := match K.lookup c with
  | some ⟨_, _, .cell (some (.ref D)), _⟩ => decide (D = C)
  | _ => false
def filB (P : Program) (K : Frag) : Value → Bool
  | .ref c => (match K.lookup c with
    | some ⟨_, _, .fields vs, _⟩ => (match (vs[2]? : Option Value) with
      | some (Value.str file _) => (P.main.file : Str) == file
      | _ => false)
    | _ => false)
  | _ => false
def fdB (P : Program) (K : Frag) (C : Addr) (fld : Str) (fd : FuncData) : Bool :=
  parB fld fd.params && (decide (fd.defaults = .none) && (bodB fld fd.body && (scoB fld fd.scope && (decide (fd.globals = mainGlobals) && (decide (fd.builtins = builtinsNs) && (PySem.W.codeIn K fd.code fd.qualname && (filB P K fd.code &&
    (match fd.closure with | [(x, c)] => decide (x = "__class__") && celB K C c | _ => false))))))))
def initAt (K : Frag) (C : Addr) : Addr := match PySem.W.findIn K (.ref C) "__init__" with
  | some (some (.ref f)) => f
  | _ => 0
def clsB (K : Frag) (C : Addr) : Bool := match K.lookup C with
  | some ⟨.type "type", _, .cls cd, sl⟩ => (match cd.mro, sl.toList with
    | .ref C' :: bm, [_, _, _, _, some (.builtin n), _] => decide (C' = C) && (decide (n = "ValueError.__new__") && (!cd.hasDel && (cd.hasDict && PySem.HandSPX.refsVE bm)))
    | _, _ => false)
  | _ => false
/-- what the written part says of such a class -/
def errB (P : Program) (K : Frag) (C : Addr) (fld : Str) : Bool :=
  clsB K C && (decide (PySem.W.findIn K (.ref C) "__setattr__" = some (some (.builtin "object.__setattr__"))) && (decide (PySem.W.subIn K (.ref C) (.type "BaseException") = some true) && (decide (PySem.W.typeIn K (.ref C) = some (.type "type")) &&
    (PySem.W.keepIn K (.ref C) && (decide (PySem.W.findIn K (.ref C) "__init__" = some (some (.ref (initAt K C)))) && (decide (PySem.W.typeIn K (.ref (initAt K C)) = some (.type "function")) && (decide (PySem.W.findIn K (.ref C) fld = some none) &&
      (decide (PySem.W.ks_superIn K C C "__init__" = some (some (.builtin "ValueError.__init__"))) && (decide (PySem.W.subIn K (.ref C) (.type "ValueError") = some true) && (decide (PySem.W.mroIn K C (.ref C) = some true) && (decide (PySem.W.nsIn K mainGlobals "super" = some none) &&
        (decide (PySem.W.nsIn K cStatics "thirdparty.any" = some none) && (!(P.main.scope.names.lookup ("super" : Str)).isSome && (match K.lookup (initAt K C) with
          | some ⟨_, _, .func fd, _⟩ => fdB P K C fld fd
          | _ => false))))))))))))))
theorem clsB_ok {K : Frag} {C : Addr} (h : clsB K C = true) : ∃ nm q N bs bm sn sub ab col dd k0 k1 k2 k3 k5, K.lookup C = some (excClassObj nm q C N bs bm true sn sub ab col dd k0 k1 k2 k3 k5 "ValueError.__new__") ∧ PySem.HandSPX.refsVE bm = true := by
  unfold clsB at h
  split at h
  · rename_i dd cd sl ho
    split at h
    · rename_i C' bm k0 k1 k2 k3 n k5 hm hs
      simp only [Bool.and_eq_true, decide_eq_true_eq, Bool.not_eq_true'] at h
      obtain ⟨rfl, rfl, h1, h2, h3⟩ := h
      obtain ⟨nm, bs, mro, ns, qn, hd, sn, sub, ab, col, del⟩ := cd
      obtain ⟨l⟩ := sl
      dsimp only at hm hs h1 h2
      subst hm hs h1 h2
      exact ⟨_, _, _, _, bm, _, _, _, _, dd, k0, k1, k2, k3, k5, ho, h3⟩
    · exact absurd h Bool.false_ne_true
  · exact absurd h Bool.false_ne_true
end J


set_option Elab.async false
set_option linter.all false
set_option maxRecDepth 100000
set_option maxHeartbeats 4000000
/-! J29: such an __init__, run. -/
namespace J
open PySem PySem.Spec L2
open PySem.W (Frag Looks)
/-- what such an __init__ does -/
def spInit (C : Addr) (fld : Str) : Sp := fun vs H Q _ => ∃ a v, vs = [.ref a, v] ∧ H a = some (exo a C none) ∧ ∀ dx, H dx = none → dx ≠ a → Q .non (upd (upd H dx (exd dx [(fld, v)])) a (exo a C (some dx)))
/-- the bound __init__ of the base class, called: the args are laid anew -/
theorem mw_call {P : Program} {w : World} {A : Around} {E : Value → Shared → Prop} {h : Heap} {g : Array GenState} {d : Drawn} {t : Nat} {os : OsState} {nm q : Str} {C N : Addr} {bs bm : List Value} {hdct : Bool} {sn : List Str} {sub : List Value} {ab : Bool} {col : Option Bool} {dd : Option Addr} {k0 k1 k2 k3 k5 : Option Value} {u e t0 : Addr} {rest : List Value} {Q : Value → Shared → Prop}
    (hC : h.get? C = some (excClassObj nm q C N bs bm hdct sn sub ab col dd k0 k1 k2 k3 k5 "ValueError.__new__")) (he : h.get? e = some (PySem.HandSPX.excO C t0)) (hu : h.get? u = some (PySem.W.kxs_mw "ValueError.__init__" e)) (hrest : rest.length ≤ sizeLine)
    (hq : ∀ h' t1, (∀ b o, b ≠ e → h.get? b = some o → h'.get? b = some o) → h'.get? e = some (PySem.HandSPX.excO C t1) → Q .none ⟨h', g, d, t, os⟩) : wpAny (model P w) A (call (.ref u) rest) Q E ⟨h, g, d, t, os⟩ := by
  refine wpAny_call (codeAny_of_tree (show wpAny _ A.in1 (callAny (.ref u) ⟨rest, []⟩) _ _ _ from ?_))
  simp only [callAny]
  refine wpAny_bind (wpAny_load hu ?_)
  have m1 : (Value.type "method-wrapper" == Value.type "method" || Value.type "method-wrapper" == Value.type "builtin_function_or_method" || Value.type "method-wrapper" == Value.type "method-wrapper") = true := by decide
  simp only [PySem.W.kxs_mw, m1, if_true]
  refine PySem.W.KFB.if_so (by decide) (wpAny_bind (PySem.W.check_bound_init PySem.F.excBase_ValueError.toExcCallFacts hC he rfl (wpAny_bind (wpAny_pure (wpAny_pure ⟨plainId_quiet PySem.F.excBase_ValueError.init.plain _, codeAny_builtin PySem.F.excBase_ValueError.initEntry ?_⟩)))))
  exact PySem.W.exc_init_tree (cls := .ref C) (t0 := t0) (dv := none) (c2 := .none) (c3 := .none) (b4 := .bool false) he hrest fun h' k e1 _ => hq h' _ k e1

structure ScF (fld : Str) (sc : Scope) : Prop where
  kind : sc.kind = .function
  co : sc.isCoroutine = false
  gen : sc.isGenerator = false
  su : sc.names.lookup ("super" : Str) = some .globalImplicit
  cl : sc.names.lookup ("__class__" : Str) = some .free
  se : sc.names.lookup ("self" : Str) = some .local
  fl : sc.names.lookup fld = some .local
  nc : ∀ x ∈ sc.names, x.2 ≠ .cell
theorem scoB_ok {fld : Str} {sc : Scope} (h : scoB fld sc = true) : ScF fld sc := by
  simp only [scoB, Bool.and_eq_true, decide_eq_true_eq, Bool.not_eq_true', List.all_eq_true, decide_eq_false_iff_not] at h
  obtain ⟨h1, h2, h3, h4, h5, h6, h7, h8⟩ := h
  exact ⟨h1, h2, h3, h4, h5, h6, h7, h8⟩
theorem celB_ok {K : Frag} {C c : Addr} (h : celB K C c = true) : ∃ oc od sl, K.lookup c = some ⟨oc, od, .cell (some (.ref C)), sl⟩ := by
  unfold celB at h
  split at h
  · rename_i oc od D sl e
    have z := of_decide_eq_true h
    subst z
    exact ⟨_, _, _, e⟩
  · cases h
theorem filB_ok {P : Program} {K : Frag} {v : Value} (h : filB P K v = true) : ∃ c oc od vs sl file tf, v = .ref c ∧ K.lookup c = some ⟨oc, od, .fields vs, sl⟩ ∧ vs[2]? = some (.str file tf) ∧ ((P.main.file : Str) == file) = true := by
  unfold filB at h
  split at h
  · split at h
    · rename_i e
      split at h
      · rename_i e2
        exact ⟨_, _, _, _, _, _, _, rfl, e, e2, h⟩
      · cases h
    · cases h
  · cases h
theorem init_run {P : Program} {w : World} {K : Frag} {mg : Str → Option Value} {base : Heap} {C f : Addr} {fld : Str} {k : Nat} {oc : Value} {od : Option Addr} {osl : Array (Option Value)} {name qual : Str} {params : Arguments} {st1 st2 : Stmt} {scope : Scope} {dV kV doc pm ct cdv : Value} {an : Option Addr} {cc : Addr}
    (lk : K.lookup f = some ⟨oc, od, .func { name, qualname := qual, params, body := .stmts [st1, st2], scope, globals := mainGlobals, closure := [("__class__", cc)], defaults := dV, kwdefaults := kV, doc, pyModule := pm, annotations := an, code := cdv, closureTuple := ct, builtins := builtinsNs }, osl⟩)
    (hpar : parB fld params = true) (h1 : supB fld st1 = true) (h2 : kepB fld st2 = true) (S : ScF fld scope) (hcd : PySem.W.codeIn K cdv qual = true) (hfil : filB P K cdv = true) (hcel : celB K C cc = true) (T : OexC K C)
    (hno : PySem.W.findIn K (.ref C) fld = some none) (hsup : PySem.W.ks_superIn K C C "__init__" = some (some (.builtin "ValueError.__init__"))) (hve : PySem.W.subIn K (.ref C) (.type "ValueError") = some true) (hmr : PySem.W.mroIn K C (.ref C) = some true)
    (hns : PySem.W.nsIn K mainGlobals "super" = some none) (hop : PySem.W.nsIn K cStatics "thirdparty.any" = some none) (htop : (P.main.scope.names.lookup ("super" : Str)).isSome = false) (hfs : fld ≠ "self") (hfd : (fld == ("__debug__" : Str)) = false) :
    FnOk P w K mg base (L2.CX P w) k f { name, qualname := qual, params, body := .stmts [st1, st2], scope, globals := mainGlobals, closure := [("__class__", cc)], defaults := dV, kwdefaults := kV, doc, pyModule := pm, annotations := an, code := cdv, closureTuple := ct, builtins := builtinsNs } ["self", fld] (spInit C fld) := by
  obtain ⟨pa, pb, rfl⟩ := parB_ok hpar
  obtain ⟨p0, p1, pt, p2, p3, p4, rfl, hline⟩ := supB_ok h1
  obtain ⟨r0, r1, r2, r3, rfl⟩ := kepB_ok h2
  obtain ⟨cda, occ, odc, vsc, slc, file, tf, rfl, lcda, hvs, hfile⟩ := filB_ok hfil
  obtain ⟨occ2, odc2, slc2, lcell⟩ := celB_ok hcel
  obtain ⟨nm, q, N, bs, bm, sn, sub, ab, col, dd, k0, k1, k2, k3, k5, hC, hbm⟩ := T.cls
  refine ⟨fun vs H Q E ⟨a, v, e, _⟩ => by rw [e]; rfl, fun A outer s H args us vs Q E hr e0 hb r hsp => ?_⟩
  have KX : K.In s.heap := e0.mod.kin.keeps fun b o e => (e0.bs b o e).1
  have lim : s.heap.NoLimit := e0.mod.nolimit.keeps fun b o e => (e0.bs b o e).1
  obtain ⟨a, v, rfl, ea, hq⟩ := hsp
  cases r with
  | @cons _ u0 _ us1 ra rest =>
  cases rest with
  | @cons _ u _ us2 ru rest2 =>
  cases rest2
  obtain rfl : u0 = Value.ref a := ra
  obtain ⟨t1, ho⟩ := exo_at e0.hok ea
  have hfs2 : (("self" : Str) == fld) = false := by simpa using fun z => hfs z.symm
  refine ks_codeAny_call_defAt (binds := (["self", fld] : List Str).zip [Value.ref a, u]) hr.depth (KX _ _ lk) rfl lim (PySem.W.codeRec_of KX hcd) rfl hb S.nc (fun x hx => ?_) (fun h₁ hns1 kp => ?_) S.co S.gen S.kind
  · simp only [List.zip_cons_cons, List.zip_nil_right, List.mem_cons, List.not_mem_nil, or_false] at hx
    rcases hx with rfl | rfl
    · exact S.se
    · exact S.fl
  · have X1 : K.In h₁ := KX.keeps kp
    have ha1 := kp _ _ ho
    have xC : a ≠ C := fun z => by
      have := KX _ _ hC
      rw [← z, ho] at this
      cases this
    generalize hE : callEnv _ s.heap.objs.size f = env
    have ek : env.scope.kind = .function := by rw [← hE]; exact S.kind
    have e1 : env.kindOf "super" = some .globalImplicit := by rw [← hE]; exact S.su
    have e2 : env.kindOf "__class__" = some .free := by rw [← hE]; exact S.cl
    have e3 : env.kindOf "self" = some .local := by rw [← hE]; exact S.se
    have e4 : env.kindOf fld = some .local := by rw [← hE]; exact S.fl
    have e5 : env.globals = mainGlobals := by rw [← hE]; rfl
    have e6 : env.builtins = builtinsNs := by rw [← hE]; rfl
    have e7 : env.locals = s.heap.objs.size := by rw [← hE]; rfl
    have e8 : env.func = some f := by rw [← hE]; rfl
    have e9 : env.code = .ref cda := by rw [← hE]; rfl
    have e10 : env.cells.lookup ("__class__" : Str) = some cc := by rw [← hE]; rfl
    clear hE
    refine PySem.ks_wpAt_execs_cons (PySem.ks_wpAt_Expr_any (PySem.ks_wpAt_MethodCall (pl := plainOf (.Call (.Name "super" p0) [] [] p1) env) ?_ ?_) ?_)
    · refine PySem.ks_wpAt_super_base e1 e2 (by decide) e8 (X1 _ _ lk) rfl rfl e9 (X1 _ _ lcda) rfl hvs hfile htop ?_
      have glob : h₁.Ns mainGlobals mg := (e0.mod.glob.keeps fun b o e => kp b o (e0.bs b o e).1)
      obtain ⟨mb, hmb, hbl⟩ := e0.mod.blt
      have blt : h₁.Ns builtinsNs mb := hmb.keeps fun b o e => kp b o (e0.bs b o e).1
      have hv1 : List.lookup ("self" : Str) ((["self", fld] : List Str).zip [Value.ref a, u]).reverse = some (.ref a) := by
        simp [List.lookup, hfs2]
      have hv2 : List.lookup fld ((["self", fld] : List Str).zip [Value.ref a, u]).reverse = some u := by
        simp [List.lookup]
      rw [← e7] at hns1
      obtain ⟨cdC, hD⟩ : ∃ cd, PySem.W.clsIn K C = some cd := by
        cases e : PySem.W.clsIn K C with
        | none => unfold PySem.W.ks_superIn at hsup; rw [e] at hsup; cases hsup
        | some cd => exact ⟨cd, rfl⟩
      refine PySem.W.ks_loadName_global ek e1 (PySem.Calls.loadGlobal_builtin (by rw [e5]; exact glob) (PySem.W.mg_none_of KX (e0.mod.glob.keeps fun b o e => (e0.bs b o e).1) hns) (by rw [e6]; exact blt) ((hbl _ (by decide)).trans (by first | boot_by_name | rfl | kernel_rfl)) ⟨rfl, ?_⟩)
      refine wpAny_loadName_free ek e2 e10 ⟨_, X1 _ _ lcell, rfl⟩ ?_
      refine wpAny_loadName_local ek e3 hns1 hv1 ?_
      refine PySem.ks_wpAny_isType_cls (X1 _ _ hC) rfl ⟨rfl, ?_⟩
      refine PySem.ks_wpAny_call_super (X1 _ _ hC) rfl ha1 rfl (fun c z => by cases z) (PySem.W.looks_mroIn X1 hmr) (fun h' so k1 => ?_)
      have X2 : K.In h' := X1.keeps k1
      have hI : Looks (model P w) h' (isInstance (.ref a) (.type "ValueError")) true := (PySem.W.InstAt.type (M := model P w) (od := none) ⟨k1 _ _ ha1, rfl, rfl, trivial⟩).andThen (PySem.W.looks_subIn X2 hve)
      unfold PySem.W.ks_superIn at hsup
      rw [hD] at hsup
      refine PySem.W.kxs_getMethod PySem.W.kxs_ValueError so (PySem.W.looks_opaque X2 hop) (l₀ := cdC.mro) (fun A Q E s k q => wpAny_bind ((PySem.W.looks_clsIn X2 hD) A _ E s k (wpAny_pure q))) rfl X2 hsup hI xC (by decide) ?_
      have eT : backTo p3 (starEach [.Name fld p2] env) = (false, eval (.Name fld p2) env) :: backTo p3 (starEach [] env) := rfl
      refine PySem.W.kxs_callWith (i := "ValueError.__init__") (x := a) (by rw [eT]; rfl) ?_
      rw [eT]
      have kp2 : ∀ b o, h₁.get? b = some o → (h'.push (PySem.W.kxs_mw "ValueError.__init__" a)).get? b = some o := fun b o e => Heap.get?_push_of_some _ (k1 b o e)
      have n2 := hns1.keeps kp2
      refine PySem.Calls.evalArgs_plain (PySem.Calls.spliced_cons (wpAny_Name (wpAny_loadName_local ek e4 n2 hv2 (PySem.Calls.spliced_nil ⟨Heap.get?_push_size _ rfl, ?_⟩)) hfd))
      refine mw_call (kp2 _ _ (X1 _ _ hC)) (kp2 _ _ ha1) (Heap.get?_push_size _ rfl) (by show 1 ≤ sizeLine; decide) fun h3 t3 kp3 ha3 => ?_
      have k03 : ∀ b o, b ≠ a → s.heap.get? b = some o → h3.get? b = some o := fun b o hb e => kp3 b o hb (kp2 b o (kp b o e))
      have La : env.locals ≠ a := fun z => by
        have := Heap.lt_size ho
        rw [← z, e7] at this
        exact Nat.lt_irrefl _ this
      have n3 : h3.Ns env.locals fun x => List.lookup x ((["self", fld] : List Str).zip [Value.ref a, u]).reverse := n2.at fun o e => kp3 _ o La e
      have nK : ∀ b o, K.lookup b = some o → b ≠ a := fun b o e z => by
        have := (e0.bs b o (e0.mod.kin b o e)).2
        rw [z, ea] at this
        cases this
      have X3 : K.In h3 := fun b o e => k03 b o (nK b o e) (KX b o e)
      have hcl : PySem.W.clsIn K C = some { name := nm, bases := bs, mro := .ref C :: bm, ns := N, qualname := q, hasDict := true, slotNames := sn, subclasses := sub, abstract := ab, collection := col, hasDel := false } := by
        unfold PySem.W.clsIn
        rw [hC] <;> rfl
      refine PySem.ks_wpAt_execs_cons (wpAt_of_wpAny (plainObj_wpAny_Assign_Attribute (wpAny_Name (wpAny_loadName_local ek e4 n3 hv2 (wpAny_Name (wpAny_loadName_local ek e3 n3 hv1 ?_) (by decide))) hfd) rfl))
      refine PySem.W.set_plain X3 (od := none) ⟨ha3, rfl, rfl, trivial⟩ T.sa (PySem.HandSPX.exc_osa X3 ha3 hcl (show PySem.HandSPX.refsVE (.ref C :: bm) = true from hbm) rfl hno (fun h4 tk4 dx k4 dn dne hx hn => wpAt_of_wpAny (wpAny_execs_nil ?_)))
      have Lz : s.heap.objs.size ≤ dx := by
        obtain ⟨oL, _, _, hL, _⟩ := n3
        have := Heap.lt_size hL
        rw [e7] at this
        exact Nat.le_trans (Nat.le_of_lt this) dn
      have k04 : ∀ b o, b ≠ a → s.heap.get? b = some o → h4.get? b = some o := fun b o hb e => k4 b o hb (k03 b o hb e)
      have hnd : H dx = none := e0.hok.fresh Lz
      have nd : ∀ {b : Addr} {o : Obj}, s.heap.get? b = some o → b ≠ dx := fun {b o} e => Nat.ne_of_lt (Nat.lt_of_lt_of_le (Heap.lt_size e) Lz)
      have na : ∀ {b : Addr}, H b = none → b ≠ a := fun {b} n z => by rw [z, ea] at n; cases n
      have up : ∀ {b : Addr} {o : HO}, H b = some o → o ≠ exo a C none → upd (upd H dx (exd dx [(fld, v)])) a (exo a C (some dx)) b = some o := fun {b o} e n => by
        have nb : b ≠ a := fun z => by
          rw [z, ea] at e
          exact n (Option.some.inj e).symm
        rw [upd_ne nb, upd_ne (ne_of_none e hnd)]
        exact e
      have un : Un (frs outer) [] H (upd (upd H dx (exd dx [(fld, v)])) a (exo a C (some dx))) s.heap h4 := ⟨fun b o e n _ _ => k04 b o (na n) e, fun b o e n _ _ => ⟨o.slots, k04 b o (na n) e⟩, fun b o e n _ => by rw [upd_ne (na n), upd_ne (nd e)]; exact n,
        fun b o e _ => (Decidable.em (b = a)).elim (fun z => ⟨_, (congrArg h4.get? z).trans hx⟩) fun z => ⟨o, k04 b o z e⟩, fun b xs e => up e fun z => exo_tup z.symm, fun b o z e => up e fun y => exo_frz y.symm, fun b ps e => ⟨#[], by rw [up e fun z => exo_tbl z.symm]; simp⟩⟩
      have ok : HOk P w (upd (upd H dx (exd dx [(fld, v)])) a (exo a C (some dx))) h4 := fun b o e => by
        by_cases hb : b = a
        · subst hb
          rw [upd_same] at e
          cases e
          exact exo_ok hx
        · rw [upd_ne hb] at e
          by_cases hd : b = dx
          · subst hd
            rw [upd_same] at e
            cases e
            exact exd_ok hn (relO_put (fs := []) ru fun g => True.intro)
          · rw [upd_ne hd] at e
            exact (e0.hok b o e).stay (fun c z hc y => k04 c z (hc.elim (fun q => by rw [q]; exact hb) fun q w => by rw [w, ea] at q; exact exo_own (Option.some.inj q)) y) (fun c hc => up hc fun z => exo_own z.symm) fun c xs hc => up hc fun z => exo_tup z.symm
      exact ⟨.non, _, rfl, e0.bare, un, ok, rfl, hq dx hnd dne⟩
    · exact (PySem.arm_eval_Call _ _ _ _ _ _ _).trans (congrArg (fun g => attributeBase _ _ env _ >>= g) (funext fun ov => congrArg (fun g => standAt _ >>= g) (funext fun _ => mcall_line (by rfl) hline)))
    · unfold interactive; simp [ek]
end J


set_option Elab.async false
set_option linter.all false
set_option maxRecDepth 100000
set_option maxHeartbeats 4000000
/-! J30: raise of an own error with a field; such an error caught: which class, its field. -/
namespace J
open PySem PySem.Spec L2
open PySem.W (Frag Looks)
open PyProof.Rows (envOfC)
/-- what the written part says of an own error class that keeps a field -/
structure ErrJ (P : Program) (K : Frag) (mg : Str → Option Value) (ca : Ct) (c : Nat) (x fld : Str) : Prop where
  g : mg x = some (.ref (ca.c c))
  o : OexC K (ca.c c)
  i : PySem.W.findIn K (.ref (ca.c c)) "__init__" = some (some (.ref (initAt K (ca.c c))))
  t : PySem.W.typeIn K (.ref (initAt K (ca.c c))) = some (.type "function")
  f : ∃ fd, Binds K fd ["self", fld] [] ∧ ∀ (w : World) (base : Heap) (k : Nat), FnOk P w K mg base (L2.CX P w) k (initAt K (ca.c c)) fd ["self", fld] (spInit (ca.c c) fld)
theorem errJ_ok {P : Program} {K : Frag} {mg : Str → Option Value} {ca : Ct} {c : Nat} {x fld : Str} {h : Heap} (X : K.In h) (G : h.Ns mainGlobals mg) (e : errB P K (He.ga K x) fld = true) (g : (He.Fa.glo x).ok K = true) (ec : ca.c c = He.ga K x) (hfs : fld ≠ "self") (hfd : (fld == ("__debug__" : Str)) = false)
    (hbi : ∀ (fd : FuncData) (p q : Pos) (u1 u2 : Value), fd.params = ⟨[], [⟨"self", none, p⟩, ⟨fld, none, q⟩], none, [], [], none, []⟩ → fd.defaults = .none → bindArgs fd ⟨[u1, u2], []⟩ = pure [(("self" : Str), u1), (fld, u2)]) : ErrJ P K mg ca c x fld := by
  rw [← ec] at e
  simp only [errB, Bool.and_eq_true, decide_eq_true_eq, Bool.not_eq_true'] at e
  obtain ⟨h1, h2, h3, h4, h5, h6, h7, h8, h9, h10, h11, h12, h13, h14, h15⟩ := e
  have T : OexC K (ca.c c) := ⟨clsB_ok h1, h2, h3, h4, h5⟩
  refine ⟨by rw [ec]; exact He.glo_ok X G g, T, h6, h7, ?_⟩
  split at h15
  · rename_i oc od fd osl lk
    simp only [fdB, Bool.and_eq_true, decide_eq_true_eq] at h15
    obtain ⟨k1, k0, k2, k3, k4, k5, k6, k7, k8⟩ := h15
    obtain ⟨name, qual, params, body, scope, globals, closure, dV, kV, doc, pm, an, cdv, ct, blt⟩ := fd
    dsimp only at k0 k1 k2 k3 k4 k5 k6 k7 k8
    subst k0 k4 k5
    unfold bodB at k2
    split at k2
    · rename_i st1 st2
      simp only [Bool.and_eq_true] at k2
      split at k8
      · rename_i x' cc
        simp only [Bool.and_eq_true, decide_eq_true_eq] at k8
        obtain ⟨rfl, k9⟩ := k8
        refine ⟨_, .all fun us hl => ?_, fun w base k => init_run lk k1 k2.1 k2.2 (scoB_ok k3) k6 k7 k9 T h8 h9 h10 h11 h12 h13 h14 hfs hfd⟩
        obtain ⟨p, q, rfl⟩ := parB_ok k1
        match us, hl with
        | [_, _], _ => exact hbi _ p q _ _ rfl rfl
      · cases k8
    · cases k2
  · cases h15
/-- no error passes on out of such an __init__ -/
theorem passes_none {X : Cx} : Passes (L2.CX X.prog X.w) X (fun _ _ _ => False) := fun _ _ _ _ _ _ _ z => by
  obtain ⟨_, _, _, _, _, _, _, _, _, _, _, _, q⟩ := z
  exact q.elim
section
variable {X : Cx} {ca : Ct} {W : WX} {e : Expr} {pos : Pos} {ge : GE}
def sRaise1 (c : Nat) (fld : Str) (ge : GE) : GS := fun ρ s => (ge ρ s).bind fun d s1 => .err ⟨c, some (fld, d)⟩ s1
theorem js_raise1 {x fld : Str} {p pos' : Pos} {c j : Nat} (T : ErrJ X.prog X.K X.mg ca c x fld) (hc : X.calm = true) (tk : Takes X W) (hr : Room (j + 1) X.A) (he : JE X ca W e ge) (hg : Gl X x := by rfl) (hdb : (x == ("__debug__" : Str)) = false := by decide)
    (hs : starEach [e] X.env = (false, eval e X.env) :: starEach [] X.env := by rfl) (hpl : (backTo pos' (starEach [] X.env)).any (·.1) = false := by rfl) :
    JS X ca W (.Raise (some (.Call (.Name x p) [e] [] pos')) none pos) (sRaise1 c fld ge) := by
  obtain ⟨fd, hb, F⟩ := T.f
  refine PS.imp (ps_raise hc tk (pmk_oex T.o T.i T.t (F X.w X.base j) hr hb .nil passes_none hg T.g (pa_cons he pa_nil hs) hdb hs hpl)) fun D σ H ⟨ι, ρ, s, hrs, hm, h⟩ => ?_
  show tG X.K ca W ge σ H _
  refine bindE famS hrs hm h fun ι1 s1 d v H1 l1 hr1 hm1 rd h1 => ⟨by show 1 ≤ 1000; decide, fun a ha => ⟨a, v, rfl, upd_same, fun dx hdx hne => ⟨rfl, dx, [(fld, v)], upd_same, by rw [upd_ne hne, upd_same], by rw [upd_ne hne] at hdx; exact hdx, ?_⟩⟩⟩
  rw [upd_ne hne] at hdx
  have eH : upd (del (upd (upd (upd H1 a (exo a (ca.c c) none)) dx (exd dx [(fld, v)])) a (exo a (ca.c c) (some dx))) a) dx (.xd [(fld, v)]) = upd H1 dx (.xd [(fld, v)]) := by
    funext b
    by_cases h1 : b = dx
    · subst h1; rw [upd_same, upd_same]
    · rw [upd_ne h1, upd_ne h1]
      by_cases h2 : b = a
      · subst h2; rw [del_same, ha]
      · rw [del_ne h2, upd_ne h2, upd_ne h1, upd_ne h2]
  rw [eH]
  obtain ⟨l2, m2⟩ := hm1.new (o := .xd [(fld, v)]) hdx
  refine h1 ι1 _ _ _ σ l2 m2 ⟨rfl, (fun z => nomatch z), fun f x ef => ?_⟩
  cases ef
  exact ⟨dx, _, v, rfl, upd_same, by simp [List.lookup], rd.mono l2⟩
end
theorem bind_line (fd : FuncData) (p q : Pos) (u1 u2 : Value) (h : fd.params = ⟨[], [⟨"self", none, p⟩, ⟨"line", none, q⟩], none, [], [], none, []⟩) (h2 : fd.defaults = .none) : bindArgs fd ⟨[u1, u2], []⟩ = pure [(("self" : Str), u1), (("line" : Str), u2)] := by
  obtain ⟨_, _, _, _, _, _, _, _, _, _, _, _, _, _, _⟩ := fd
  cases h
  cases h2
  rfl
theorem bind_core (fd : FuncData) (p q : Pos) (u1 u2 : Value) (h : fd.params = ⟨[], [⟨"self", none, p⟩, ⟨"core", none, q⟩], none, [], [], none, []⟩) (h2 : fd.defaults = .none) : bindArgs fd ⟨[u1, u2], []⟩ = pure [(("self" : Str), u1), (("core" : Str), u2)] := by
  obtain ⟨_, _, _, _, _, _, _, _, _, _, _, _, _, _, _⟩ := fd
  cases h
  cases h2
  rfl
theorem bind_index (fd : FuncData) (p q : Pos) (u1 u2 : Value) (h : fd.params = ⟨[], [⟨"self", none, p⟩, ⟨"index", none, q⟩], none, [], [], none, []⟩) (h2 : fd.defaults = .none) : bindArgs fd ⟨[u1, u2], []⟩ = pure [(("self" : Str), u1), (("index" : Str), u2)] := by
  obtain ⟨_, _, _, _, _, _, _, _, _, _, _, _, _, _, _⟩ := fd
  cases h
  cases h2
  rfl
end J


set_option Elab.async false
set_option linter.all false
set_option maxRecDepth 100000
set_option maxHeartbeats 4000000
/-! J31: the head's Hook, with the statics among what is seen. -/
namespace J
open PySem PySem.Spec PyProof.Rows L2
/-- what the module's names reach in n steps, each step from the last one's alone -/
def asF (g : Addr → Option Obj) : Nat → List Addr → List Addr
  | 0, fr => fr
  | n + 1, fr => fr ++ asF g n (fr.flatMap fun a => match g a with
    | some o => He.refsD o
    | none => [])
abbrev seeS (n : Nat) (g : Addr → Option Obj) : PySem.W.Frag := He.frT g (cStatics :: asF g n [mainGlobals])
def obsS (n : Nat) (fa : List He.Fa) (fn : List He.DefD) (tf : List He.Defn) (ex : PySem.W.Frag → Bool) (g : Addr → Option Obj) : He.AlX := (He.obsT fa fn [] (seeS n g), ex (seeS n g) && He.tabsB g tf (seeS n g))
theorem saysS_of {n : Nat} {fa : List He.Fa} {fn : List He.DefD} {tf : List He.Defn} {ex : PySem.W.Frag → Bool} {w : World} {h : Heap} (e : obsS n fa fn tf ex h.get? = He.valX fn [] w) : He.SaysX fa fn [] tf ex w h (seeS n h.get?) := by
  have e2 : (ex (seeS n h.get?) && He.tabsB h.get? tf (seeS n h.get?)) = true := congrArg Prod.snd e
  obtain ⟨x1, x2⟩ := Bool.and_eq_true_iff.mp e2
  have one : ∀ p ∈ tf, PySem.W.codeHdIn (seeS n h.get?) (He.cT (seeS n h.get?) p).1 (He.cT (seeS n h.get?) p).2 = true ∧ ∃ o, h.get? (He.cT (seeS n h.get?) p).2 = some o ∧ He.emptyTab o = true := fun p hp => by
    obtain ⟨y1, y2⟩ := Bool.and_eq_true_iff.mp (List.all_eq_true.mp x2 p hp)
    cases q : h.get? (He.cT (seeS n h.get?) p).2 with
    | none => rw [q] at y2; cases y2
    | some o => rw [q] at y2; exact ⟨y1, o, rfl, y2⟩
  exact ⟨congrArg Prod.fst e, x1, fun p hp => (one p hp).1, fun p hp => let ⟨_, _, a, b⟩ := one p hp; He.frT_none a b, fun p hp => let ⟨_, _, a, b⟩ := one p hp; a.trans (congrArg some (He.emptyTab_eq b))⟩
def hookS (n : Nat) (fa : List He.Fa) (fn : List He.DefD) (tf : List He.Defn) (ex : PySem.W.Frag → Bool) : PySem.W.Hook where
  α := He.AlX
  obs := fun s => obsS n fa fn tf ex s.heap.get?
  val := fun w => He.valX fn [] w
  says := fun w h => ∃ K : PySem.W.Frag, K.In h ∧ He.SaysX fa fn [] tf ex w h K
  of := fun _ _ e => ⟨_, He.frT_in, saysS_of e⟩
  keeps := fun _ _ _ ⟨K, hK, c⟩ k => ⟨K, PySem.W.Frag.In.keeps hK k, c.t, c.more, c.hd, c.out, fun p hp => k _ _ (c.empty p hp)⟩
theorem obsS_eq {n : Nat} {fa : List He.Fa} {fn : List He.DefD} {tf : List He.Defn} {ex : PySem.W.Frag → Bool} {g : Addr → Option Obj} {s : Shared} (h : ∀ a, g a = s.heap.get? a) : obsS n fa fn tf ex g = (hookS n fa fn tf ex).obs s := (funext h : g = s.heap.get?) ▸ rfl
end J

set_option Elab.async false
set_option linter.all false
set_option maxRecDepth 100000
set_option maxHeartbeats 4000000
/-! J38: the run of the top, looked at piece by piece. -/
namespace J
open PySem PySem.Spec PyProof.Rows L2
theorem run_ex {α β : Type} {o : Option α} {f : α → β} {b : β} (h : o.map f = some b) : ∃ s, o = some s ∧ f s = b := by
  cases o with
  | none => cases h
  | some s => exact ⟨s, rfl, Option.some.inj h⟩
theorem run_at {α β : Type} {o : Option α} {s : α} (hs : o = some s) {f : α → β} {b : β} (h : o.map f = some b) : f s = b := by
  subst hs
  exact Option.some.inj h
theorem run_all {α : Type} {p : α → Bool} {a b : List α} (h1 : a.all p = true) (h2 : b.all p = true) : (a ++ b).all p = true := by rw [List.all_append, h1, h2]; rfl
def pD (fn : List He.DefD) (K : PySem.W.Frag) : Bool × List He.FnW := (fn.all fun d => d.ok K, fn.map fun d => He.fnW K d.at_)
def vD' (fn : List He.DefD) : Bool × List He.FnW := (true, fn.map He.DefD.val)
theorem pD_app {a b : List He.DefD} {K : PySem.W.Frag} (h1 : pD a K = vD' a) (h2 : pD b K = vD' b) : pD (a ++ b) K = vD' (a ++ b) := by
  have a1 := congrArg Prod.fst h1
  have a2 := congrArg Prod.snd h1
  have b1 := congrArg Prod.fst h2
  have b2 := congrArg Prod.snd h2
  simp only [pD, vD'] at a1 a2 b1 b2 ⊢
  rw [List.all_append, a1, b1, List.map_append, List.map_append, a2, b2]
  rfl
theorem obs_of {fa : List He.Fa} {fn : List He.DefD} {tf : List He.Defn} {ex : PySem.W.Frag → Bool} {K : PySem.W.Frag} {g : Addr → Option Obj} {w : World} (hf : (fa.all fun f => f.ok K) = true) (hd : pD fn K = vD' fn) (hx : ex K = true) (ht : He.tabsB g tf K = true) :
    ((He.obsT fa fn [] K, ex K && He.tabsB g tf K) : He.AlX) = He.valX fn [] w := by
  have a1 := congrArg Prod.fst hd
  have a2 := congrArg Prod.snd hd
  simp only [pD, vD'] at a1 a2
  simp only [He.obsT, He.obsD, He.valX, He.valT, He.valD, hf, a1, a2, hx, ht]
  rfl
theorem end_of {α β γ : Type} {f : α → β} {g : α → γ} {h : α → Bool} {o : Option α} {s : α} (hs : o = some s) {b : β} {c : γ} (e1 : (h s, f s) = (true, b)) (e2 : g s = c) : o.map (fun s => (h s, f s, g s)) = some (true, b, c) := by
  subst hs
  show some (h s, f s, g s) = _
  rw [e2, (Prod.mk.inj e1).1, (Prod.mk.inj e1).2]
end J


set_option Elab.async false
set_option linter.all false
set_option maxRecDepth 100000
set_option maxHeartbeats 0
namespace G
open PySem PySem.Spec PyProof.Rows L2 J
def d54 : He.DefD := ⟨("Run", some "elders"), "elders", "Run.elders", defArgs (mst 71 1), defBody (mst 71 1), defScope (mst 71 1), [], []⟩
def d55 : He.DefD := ⟨("Run", some "__init__"), "__init__", "Run.__init__", defArgs (mst 71 0), defBody (mst 71 0), defScope (mst 71 0), [], []⟩
def d56 : He.DefD := ⟨("Run", some "stand"), "stand", "Run.stand", defArgs (mst 71 2), defBody (mst 71 2), defScope (mst 71 2), [], []⟩
def d57 : He.DefD := ⟨("Run", some "word"), "word", "Run.word", defArgs (mst 71 3), defBody (mst 71 3), defScope (mst 71 3), [], []⟩
def d58 : He.DefD := ⟨("Run", some "can"), "can", "Run.can", defArgs (mst 71 4), defBody (mst 71 4), defScope (mst 71 4), [], []⟩
def d59 : He.DefD := ⟨("Run", some "events"), "events", "Run.events", defArgs (mst 71 5), defBody (mst 71 5), defScope (mst 71 5), [], []⟩
def d60 : He.DefD := ⟨("Run", some "has_ended"), "has_ended", "Run.has_ended", defArgs (mst 71 6), defBody (mst 71 6), defScope (mst 71 6), [], []⟩
def d61 : He.DefD := ⟨("Run", some "written"), "written", "Run.written", defArgs (mst 71 9), defBody (mst 71 9), defScope (mst 71 9), [], []⟩
def d62 : He.DefD := ⟨("Run", some "seen"), "seen", "Run.seen", defArgs (mst 71 10), defBody (mst 71 10), defScope (mst 71 10), [], []⟩
def d63 : He.DefD := ⟨("Run", some "do"), "do", "Run.do", defArgs (mst 71 7), defBody (mst 71 7), defScope (mst 71 7), [], []⟩
def d64 : He.DefD := ⟨("Run", some "undo"), "undo", "Run.undo", defArgs (mst 71 8), defBody (mst 71 8), defScope (mst 71 8), [], []⟩
def d65 : He.DefD := ⟨("Run", some "outcome"), "outcome", "Run.outcome", defArgs (mst 71 11), defBody (mst 71 11), defScope (mst 71 11), [], []⟩
def d0 : He.DefD := ⟨("is_integer", none), "is_integer", "is_integer", defArgs (top 1), defBody (top 1), defScope (top 1), [], []⟩
def d1 : He.DefD := ⟨("is_in", none), "is_in", "is_in", defArgs (top 2), defBody (top 2), defScope (top 2), [], []⟩
def d2 : He.DefD := ⟨("is_list", none), "is_list", "is_list", defArgs (top 3), defBody (top 3), defScope (top 3), [], []⟩
def d3 : He.DefD := ⟨("is_instruction", none), "is_instruction", "is_instruction", defArgs (top 23), defBody (top 23), defScope (top 23), [], []⟩
def d4 : He.DefD := ⟨("is_core", none), "is_core", "is_core", defArgs (top 24), defBody (top 24), defScope (top 24), [], []⟩
def d5 : He.DefD := ⟨("need_program", none), "need_program", "need_program", defArgs (top 25), defBody (top 25), defScope (top 25), [], []⟩
def d6 : He.DefD := ⟨("is_program", none), "is_program", "is_program", defArgs (top 26), defBody (top 26), defScope (top 26), [], []⟩
def d7 : He.DefD := ⟨("cell_of", none), "cell_of", "cell_of", defArgs (top 27), defBody (top 27), defScope (top 27), [], []⟩
def d8 : He.DefD := ⟨("asked_of", none), "asked_of", "asked_of", defArgs (top 28), defBody (top 28), defScope (top 28), [], []⟩
def d9 : He.DefD := ⟨("last_read", none), "last_read", "last_read", defArgs (top 29), defBody (top 29), defScope (top 29), [], []⟩
def d10 : He.DefD := ⟨("last_writing", none), "last_writing", "last_writing", defArgs (top 30), defBody (top 30), defScope (top 30), [], []⟩
def d11 : He.DefD := ⟨("is_design", none), "is_design", "is_design", defArgs (top 34), defBody (top 34), defScope (top 34), [], []⟩
def d12 : He.DefD := ⟨("need_design", none), "need_design", "need_design", defArgs (top 35), defBody (top 35), defScope (top 35), [], []⟩
def d13 : He.DefD := ⟨("letter_of", none), "letter_of", "letter_of", defArgs (top 36), defBody (top 36), defScope (top 36), [], []⟩
def d14 : He.DefD := ⟨("asks_read", none), "asks_read", "asks_read", defArgs (top 37), defBody (top 37), defScope (top 37), [], []⟩
def d15 : He.DefD := ⟨("own_read", none), "own_read", "own_read", defArgs (top 38), defBody (top 38), defScope (top 38), [], []⟩
def d16 : He.DefD := ⟨("keeps", none), "keeps", "keeps", defArgs (top 39), defBody (top 39), defScope (top 39), [], []⟩
def d17 : He.DefD := ⟨("all_designs", none), "all_designs", "all_designs", defArgs (top 40), defBody (top 40), defScope (top 40), [], []⟩
def d18 : He.DefD := ⟨("must_be_done", none), "must_be_done", "must_be_done", defArgs (top 41), defBody (top 41), defScope (top 41), [], []⟩
def d19 : He.DefD := ⟨("told_tests", none), "told_tests", "told_tests", defArgs (top 58), defBody (top 58), defScope (top 58), [], []⟩
def d20 : He.DefD := ⟨("lacks", none), "lacks", "lacks", defArgs (top 59), defBody (top 59), defScope (top 59), [], []⟩
def d21 : He.DefD := ⟨("shown_by", none), "shown_by", "shown_by", defArgs (top 60), defBody (top 60), defScope (top 60), [], []⟩
def d22 : He.DefD := ⟨("is_below", none), "is_below", "is_below", defArgs (top 61), defBody (top 61), defScope (top 61), [], []⟩
def d23 : He.DefD := ⟨("normal_of", none), "normal_of", "normal_of", defArgs (top 62), defBody (top 62), defScope (top 62), [], []⟩
def d24 : He.DefD := ⟨("below", none), "below", "below", defArgs (top 63), defBody (top 63), defScope (top 63), [], []⟩
def d25 : He.DefD := ⟨("tests", none), "tests", "tests", defArgs (top 64), defBody (top 64), defScope (top 64), [], []⟩
def d26 : He.DefD := ⟨("shows", none), "shows", "shows", defArgs (top 65), defBody (top 65), defScope (top 65), [], []⟩
def d27 : He.DefD := ⟨("first_test", none), "first_test", "first_test", defArgs (top 66), defBody (top 66), defScope (top 66), [], []⟩
def d28 : He.DefD := ⟨("alike", none), "alike", "alike", defArgs (top 67), defBody (top 67), defScope (top 67), [], []⟩
def d29 : He.DefD := ⟨("normal", none), "normal", "normal", defArgs (top 68), defBody (top 68), defScope (top 68), [], []⟩
def d30 : He.DefD := ⟨("normals", none), "normals", "normals", defArgs (top 69), defBody (top 69), defScope (top 69), [], []⟩
def d31 : He.DefD := ⟨("need_run", none), "need_run", "need_run", defArgs (top 72), defBody (top 72), defScope (top 72), [], []⟩
def d32 : He.DefD := ⟨("is_event", none), "is_event", "is_event", defArgs (top 73), defBody (top 73), defScope (top 73), [], []⟩
def d33 : He.DefD := ⟨("events_behind", none), "events_behind", "events_behind", defArgs (top 74), defBody (top 74), defScope (top 74), [], []⟩
def d34 : He.DefD := ⟨("told_by", none), "told_by", "told_by", defArgs (top 75), defBody (top 75), defScope (top 75), [], []⟩
def d35 : He.DefD := ⟨("reached", none), "reached", "reached", defArgs (top 77), defBody (top 77), defScope (top 77), [], []⟩
def d36 : He.DefD := ⟨("outcomes_in", none), "outcomes_in", "outcomes_in", defArgs (top 78), defBody (top 78), defScope (top 78), [], []⟩
def d37 : He.DefD := ⟨("plain_in", none), "plain_in", "plain_in", defArgs (top 79), defBody (top 79), defScope (top 79), [], []⟩
def d38 : He.DefD := ⟨("counted", none), "counted", "counted", defArgs (top 80), defBody (top 80), defScope (top 80), [], []⟩
def d39 : He.DefD := ⟨("outcomes", none), "outcomes", "outcomes", defArgs (top 81), defBody (top 81), defScope (top 81), [], []⟩
def d40 : He.DefD := ⟨("row_for", none), "row_for", "row_for", defArgs (top 82), defBody (top 82), defScope (top 82), [], []⟩
def d41 : He.DefD := ⟨("is_plainly", none), "is_plainly", "is_plainly", defArgs (top 83), defBody (top 83), defScope (top 83), [], []⟩
def d42 : He.DefD := ⟨("count_rows", none), "count_rows", "count_rows", defArgs (top 84), defBody (top 84), defScope (top 84), [], []⟩
def d43 : He.DefD := ⟨("plain_outcomes", none), "plain_outcomes", "plain_outcomes", defArgs (top 85), defBody (top 85), defScope (top 85), [], []⟩
def d44 : He.DefD := ⟨("gaps_of", none), "gaps_of", "gaps_of", defArgs (top 87), defBody (top 87), defScope (top 87), [], []⟩
def d45 : He.DefD := ⟨("with_fences", none), "with_fences", "with_fences", defArgs (top 88), defBody (top 88), defScope (top 88), [], []⟩
def d46 : He.DefD := ⟨("need_places", none), "need_places", "need_places", defArgs (top 89), defBody (top 89), defScope (top 89), [], []⟩
def d47 : He.DefD := ⟨("strange_in", none), "strange_in", "strange_in", defArgs (top 90), defBody (top 90), defScope (top 90), [], []⟩
def d48 : He.DefD := ⟨("is_plain", none), "is_plain", "is_plain", defArgs (top 91), defBody (top 91), defScope (top 91), [], []⟩
def d49 : He.DefD := ⟨("strange", none), "strange", "strange", defArgs (top 92), defBody (top 92), defScope (top 92), [], []⟩
def d50 : He.DefD := ⟨("fenced", none), "fenced", "fenced", defArgs (top 93), defBody (top 93), defScope (top 93), [], []⟩
def d51 : He.DefD := ⟨("fewest_fences", none), "fewest_fences", "fewest_fences", defArgs (top 94), defBody (top 94), defScope (top 94), [], []⟩
def d52 : He.DefD := ⟨("_law_taken", none), "_law_taken", "_law_taken", defArgs (top 96), defBody (top 96), defScope (top 96), [], []⟩
def d53 : He.DefD := ⟨("law", none), "law", "law", defArgs (top 97), defBody (top 97), defScope (top 97), [], []⟩
def hfn : List He.DefD := ([d0, d1, d2, d3, d4, d5, d6, d7, d8, d9, d10, d11, d12, d13, d14, d15, d16, d17, d18, d19, d20, d21, d22, d23, d24, d25, d26, d27, d28, d29] : List He.DefD) ++ ([d30, d31, d32, d33, d34, d35, d36, d37, d38, d39, d40, d41, d42, d43, d44, d45, d46, d47, d48, d49, d50, d51, d52, d53, d54, d55, d56, d57, d58, d59] : List He.DefD) ++ ([d60, d61, d62, d63, d64, d65] : List He.DefD)
def hfa : List He.Fa := ([.free "all", .free "any", .free "bool", .free "dict", .free "int", .free "isinstance", .free "len", .free "range", .free "sorted", .free "str", .free "sum", .free "tuple", .glo "is_integer", .glo "is_in", .glo "is_list", .glo "is_instruction", .glo "is_core", .glo "need_program", .glo "is_program", .glo "cell_of", .glo "asked_of", .glo "last_read", .glo "last_writing", .glo "is_design", .glo "need_design", .glo "letter_of", .glo "asks_read", .glo "own_read", .glo "keeps", .glo "all_designs"] : List He.Fa) ++ ([.glo "must_be_done", .glo "told_tests", .glo "lacks", .glo "shown_by", .glo "is_below", .glo "normal_of", .glo "below", .glo "tests", .glo "shows", .glo "first_test", .glo "alike", .glo "normal", .glo "normals", .glo "need_run", .glo "is_event", .glo "events_behind", .glo "told_by", .glo "reached", .glo "outcomes_in", .glo "plain_in", .glo "counted", .glo "outcomes", .glo "row_for", .glo "is_plainly", .glo "count_rows", .glo "plain_outcomes", .glo "gaps_of", .glo "with_fences", .glo "need_places", .glo "strange_in"] : List He.Fa) ++ ([.glo "is_plain", .glo "strange", .glo "fenced", .glo "fewest_fences", .glo "_law_taken", .glo "law", .glo "Run", .cls "Run", .mkr "Run", .noat "Run" "ahead", .noat "Run" "cells", .noat "Run" "design", .noat "Run" "done", .noat "Run" "ends", .noat "Run" "program", .noat "Run" "taken", .meth "Run" "elders", .meth "Run" "stand", .meth "Run" "word", .meth "Run" "can", .meth "Run" "events", .meth "Run" "has_ended", .meth "Run" "written", .meth "Run" "seen", .meth "Run" "do", .meth "Run" "undo", .meth "Run" "outcome"] : List He.Fa)
def hex (K : PySem.W.Frag) : Bool := (constB K "REGISTERS" c_REGISTERS) && ((constB K "CELLS" c_CELLS) && ((constB K "WORDS" c_WORDS) && ((constB K "MOST_CORES" c_MOST_CORES) && ((constB K "MOST_CORE" c_MOST_CORE) && ((constB K "MOST_PROGRAM" c_MOST_PROGRAM) && ((constB K "WRITING" c_WRITING) && ((constB K "FENCE_programs" c_FENCE_programs) && ((constB K "NAMES" c_NAMES) && ((constB K "PLAIN" c_PLAIN) && ((constB K "PLAINS" c_PLAINS) && ((constB K "READ_X" c_READ_X) && ((constB K "GUARD" c_GUARD) && ((constB K "WRITE_X" c_WRITE_X) && ((constB K "WRITE_Y" c_WRITE_Y) && ((constB K "READ_Y" c_READ_Y) && ((constB K "FENCE_compares" c_FENCE_compares) && ((constB K "WRITES" c_WRITES) && ((constB K "TURNS" c_TURNS) && ((constB K "LOOKS" c_LOOKS) && ((constB K "SEES" c_SEES) && ((constB K "ONE" c_ONE) && ((constB K "SECOND" c_SECOND) && ((constB K "BOTH" c_BOTH) && ((constB K "TWO" c_TWO) && (true)))))))))))))))))))))))))
abbrev HdR : PySem.W.OpenRow := PySem.W.OpenLaw.row PySem.Challenge.rw_pairskept_k13_known_designs
abbrev hk : PySem.W.Hook := hookS 4 hfa hfn [] hex
def ob (s : PySem.W.SharedT) : He.AlX := obsS 4 hfa hfn [] hex (HandSHeadRun.getT s)
theorem ob_eq (s : PySem.W.SharedT) : ob s = hk.obs s.abs := obsS_eq (HandSHeadRun.getT_eq s)
def loose : List PySem.Str := (["is_integer", "is_in", "is_list", "PairError", "BadProgram", "BadDesign", "BadCore", "BadPlace", "BadRow", "BadName", "BadPlaces", "NotMade", "REGISTERS", "CELLS", "WORDS", "MOST_CORES", "MOST_CORE", "MOST_PROGRAM", "WRITING", "FENCE_programs", "is_instruction", "is_core", "need_program", "is_program", "cell_of", "asked_of", "last_read", "last_writing", "NAMES", "PLAIN"] : List PySem.Str) ++ (["is_design", "need_design", "letter_of", "asks_read", "own_read", "keeps", "all_designs", "must_be_done", "PLAINS", "READ_X", "GUARD", "WRITE_X", "WRITE_Y", "READ_Y", "FENCE_compares", "WRITES", "TURNS", "LOOKS", "SEES", "ONE", "SECOND", "BOTH", "TWO", "told_tests", "lacks", "shown_by", "is_below", "normal_of", "below", "tests"] : List PySem.Str) ++ (["shows", "first_test", "alike", "normal", "normals", "Run", "need_run", "is_event", "events_behind", "told_by", "reached", "outcomes_in", "plain_in", "counted", "outcomes", "row_for", "is_plainly", "count_rows", "plain_outcomes", "gaps_of", "with_fences", "need_places", "strange_in", "is_plain", "strange", "fenced", "fewest_fences", "_law_taken"] : List PySem.Str)
open PySem.W PySem.Calls HandSHeadRun in
noncomputable abbrev theRun (w : World) (os : OsState) : Option PySem.W.SharedT := endF (stepQ (denQ tabQ) HdR.prog w) 8000 HdR.prog w os
abbrev KK (s : PySem.W.SharedT) : PySem.W.Frag := He.frT (HandSHeadRun.getT s) (He.asD (HandSHeadRun.getT s) 4)
open PySem.W PySem.Calls HandSHeadRun in
theorem run_a (w : World) (os : OsState) : (theRun w os).map (fun s => (looksF HdR.prog (boot_heap w.params) s.abs, seenQ (PySem.W.view HdR.prog [97]) loose (importedModules HdR.prog.main.body) (fun s => xlAt (PySem.W.view HdR.prog [97]) [] s && recOk HdR.toRowW.records s) s.abs)) = some (true, openGood (PySem.W.view HdR.prog [97]) loose) := by kernel_rfl
theorem run_o (w : World) (os : OsState) : (theRun w os).map (fun s => ob s) = some (hk.val w) := by kernel_rfl
theorem run (w : World) : HandSHeadRun.RunEq HdR (PySem.W.view HdR.prog [97]) hk ob 8000 loose w := by
  intro os
  obtain ⟨s, hs, h0⟩ := run_ex (run_a w os)
  exact end_of hs h0 (run_at hs (run_o w os))
end G


set_option Elab.async false
set_option linter.all false
set_option maxRecDepth 100000
set_option maxHeartbeats 4000000
namespace G
open PySem PySem.Spec L2 J
/-! ### the row -/
def rowL (ns : List Int) (i : Nat) (a b : Int) : IO := .lst [.frz (ns.map D.int), .int i, .int a, .int b]
def RowS (ns : List Int) (t : S) (s : S) : Prop := ∃ (i : Nat) (a b : Int), 0 ≤ a ∧ a < 2147483647 ∧ s = rowL ns i a b :: t
theorem idx_row (ns : List Int) (i : Nat) (a b : Int) (t : S) : fIdx (rowL ns i a b :: t) (.obj 0) (.int 0) = some (.frz (ns.map D.int)) ∧ fIdx (rowL ns i a b :: t) (.obj 0) (.int 1) = some (.int i) ∧ fIdx (rowL ns i a b :: t) (.obj 0) (.int 2) = some (.int a) ∧ fIdx (rowL ns i a b :: t) (.obj 0) (.int 3) = some (.int b) := ⟨rfl, rfl, rfl, rfl⟩
theorem put_row (ns : List Int) (i : Nat) (a b x : Int) (t : S) : putL (rowL ns i a b :: t) (.obj 0) (.int 2) (.int x) = some (rowL ns i x b :: t) ∧ putL (rowL ns i a b :: t) (.obj 0) (.int 3) (.int x) = some (rowL ns i a x :: t) := ⟨rfl, rfl⟩
theorem put_row1 (ns : List Int) (i : Nat) (a b : Int) (t : S) : putL (rowL ns i a b :: t) (.obj 0) (.int 1) (.int ((i : Int) + 1)) = some (rowL ns (i + 1) a b :: t) := rfl
theorem mulc (s : S) (a : Int) : fMul s (.int a) (.int 48271) = some (.int (a * 48271)) := by
  have : small64 48271 = true := by decide
  simp [fMul, this]
theorem modI (s : S) (a m : Int) (h : 0 < m) : fMod s (.int a) (.int m) = some (.int (a % m)) := by simp [fMod, h]
theorem divI (s : S) (a m : Int) (h : 0 < m) (h2 : m < 1073741824) : fDiv s (.int a) (.int m) = some (.int (a / m)) := by simp [fDiv, h, h2]
theorem powC (s : S) : fPow s (.int 10) (.int 18) = some (.int 1000000000000000000) := rfl
theorem taken_ok {ns : List Int} {t s : S} (m : Int) (h0 : 0 < m) (h1 : m < 1073741824) (h : RowS ns t s) : ∃ (r : Int) (s' : S), F_law_taken [.obj 0, .int m] s = .ok (.int r) s' ∧ 0 ≤ r ∧ r < m ∧ RowS ns t s' := by
  obtain ⟨i, a, b, ha, ha2, rfl⟩ := h
  obtain ⟨r0, r1, r2, r3⟩ := idx_row ns i a b t
  by_cases hb : 0 < b
  · refine ⟨b % m, rowL ns i a (b / m) :: t, ?_, Int.emod_nonneg _ (by omega), Int.emod_lt_of_pos _ h0, i, a, b / m, ha, ha2, rfl⟩
    simp [F_law_taken, b_law_taken, r3, hb, modI _ b m h0, divI _ b m h0 h1, (put_row ns i a b (b / m) t).2]
  · obtain ⟨q0, q1, q2, q3⟩ := idx_row ns (i + 1) a b t
    by_cases hl : (ns.length : Int) < (i : Int) + 1
    · have e1 := (put_row ns (i + 1) a b ((a * 48271 + 11) % 2147483647) t).1
      obtain ⟨p0, p1, p2, p3⟩ := idx_row ns (i + 1) ((a * 48271 + 11) % 2147483647) b t
      refine ⟨_, _, ?_, Int.emod_nonneg ((a * 48271 + 11) % 2147483647 / 7) (b := m) (by omega), Int.emod_lt_of_pos _ h0, i + 1, (a * 48271 + 11) % 2147483647, b, Int.emod_nonneg _ (by decide), Int.emod_lt_of_pos _ (by decide), rfl⟩
      rw [show (((i + 1 : Nat)) : Int) = (i : Int) + 1 from rfl] at q1
      simp [F_law_taken, b_law_taken, r3, r1, hb, put_row1, q0, q1, q2, hl, mulc, modI _ _ _ (show (0 : Int) < 2147483647 by decide), e1, p2, divI _ _ 7 (by decide) (by decide), modI _ _ m h0]
    · have hi : i < ns.length := by omega
      have e2 : atI (ns.map D.int) ((i : Int)) = some (.int ns[i]) := by rw [atI_nat _ _ (by simpa using hi)]; simp
      have e1 := (put_row ns (i + 1) a b ((a * 48271 + ns[i] + 11) % 2147483647) t).1
      obtain ⟨p0, p1, p2, p3⟩ := idx_row ns (i + 1) ((a * 48271 + ns[i] + 11) % 2147483647) b t
      rw [show (((i + 1 : Nat)) : Int) = (i : Int) + 1 from rfl] at q1
      by_cases hz : 1000000000000000000 ≤ ns[i]
      · refine ⟨ns[i] % m, _, ?_, Int.emod_nonneg _ (by omega), Int.emod_lt_of_pos _ h0, i + 1, (a * 48271 + ns[i] + 11) % 2147483647, ns[i] / m, Int.emod_nonneg _ (by decide), Int.emod_lt_of_pos _ (by decide), rfl⟩
        simp [F_law_taken, b_law_taken, r3, r1, hb, put_row1, q0, q1, q2, hl, e2, mulc, modI _ _ _ (show (0 : Int) < 2147483647 by decide), e1, powC, hz, divI _ _ m h0 h1, (put_row ns (i + 1) _ b (ns[i] / m) t).2, modI _ _ m h0]
      · refine ⟨ns[i] % m, _, ?_, Int.emod_nonneg _ (by omega), Int.emod_lt_of_pos _ h0, i + 1, (a * 48271 + ns[i] + 11) % 2147483647, b, Int.emod_nonneg _ (by decide), Int.emod_lt_of_pos _ (by decide), rfl⟩
        simp [F_law_taken, b_law_taken, r3, r1, hb, put_row1, q0, q1, q2, hl, e2, mulc, modI _ _ _ (show (0 : Int) < 2147483647 by decide), e1, powC, hz, modI _ _ m h0]
end G


set_option Elab.async false
set_option linter.all false
set_option maxRecDepth 100000
set_option maxHeartbeats 4000000
/-! K13: the facts of a number. -/
namespace G
open PySem PySem.Spec L2 J
abbrev T (x : String) : D := .str (PySem.Str.ofString x)
def late : D := .tup [T "own", T "rr", T "rw", T "ss", T "ww"]
def strict : D := .tup [T "rr", T "rw", T "ss", T "wr", T "ww"]
def fen (b : Bool) : List D := if b then [.tup [T "fence"]] else []
def prog (n : Int) (a b : Bool) : D := .tup [.tup ([.tup [T "write", .int 0, .int n]] ++ fen a ++ [.tup [T "read", .int 0, .int 1]]), .tup ([.tup [T "write", .int 1, .int n]] ++ fen b ++ [.tup [T "read", .int 0, .int 0]])]
def outD (n a b : Int) : D := .tup [.tup [.tup [.int a, .int 0], .tup [.int b, .int 0]], .tup [.int n, .int n, .int 0]]
def ev2 (c p : Int) : D := .tup [.int c, .int p]
def rowA : D := .tup [ev2 0 1, ev2 1 0, ev2 1 1, ev2 0 0]
def rowB : D := .tup [ev2 0 1, ev2 1 1, ev2 1 0, ev2 0 0]
def core (n : Int) : D := .tup [.tup [T "read", .int 0, .int 0], .tup [T "guard", .int 0, .int n], .tup [T "write", .int 1, .int n]]
def coreP (n : Int) : D := .tup [core n]
def outC : D := .tup [.tup [.tup [.int 0, .int 0]], .tup [.int 0, .int 0, .int 0]]
/-- what comes out, and the first object -/
def ev (r : R D) : Option (D × Option IO) := match r with | .ok d s => some (d, s.head?) | _ => none
theorem of_ev {r : R D} {d : D} {x : IO} (h : ev r = some (d, some x)) : ∃ v, r = .ok d ([x] ++ v) := by
  cases r with
  | ok e s =>
    simp only [ev, Option.some.injEq, Prod.mk.injEq] at h
    obtain ⟨rfl, h⟩ := h
    cases s with
    | nil => cases h
    | cons y v =>
      cases h
      exact ⟨v, rfl⟩
  | err e s => cases h
  | no => cases h
theorem closed1 {x : IO} (h : closedO 1 x = true) : closedS [x].length [x] = true := by simp [closedS, h]
theorem for_ev {g : GE} {ρ : J.Env} {d : D} {x : IO} (hx : closedO 1 x = true) (h : ev (g ρ [x]) = some (d, some x)) (hd : closedD 1 d = true) : gFor g ρ [x] = .ok d [x] := by
  obtain ⟨v, e⟩ := of_ev h
  exact gFor_ok e hd (closed1 hx)
structure Facts (n : Int) : Prop where
  np : ∀ s, F_need_program [prog n false false] s = .ok .non s
  np1 : ∀ s, F_need_program [prog n true false] s = .ok .non s
  npC : ∀ s, F_need_program [coreP n] s = .ok .non s
  ip : ∀ a b s, F_is_program [prog n a b] s = .ok (.bl true) s
  s0 : ∀ x, closedO 1 x = true → F_strange_in [late, prog n false false] [x] = .ok (.lst [outD n 0 0]) [x]
  s1 : ∀ x, closedO 1 x = true → F_strange_in [late, prog n true false] [x] = .ok (.lst [outD n 0 0]) [x]
  s2 : ∀ x, closedO 1 x = true → F_strange_in [late, prog n false true] [x] = .ok (.lst [outD n 0 0]) [x]
  s3 : ∀ x, closedO 1 x = true → F_strange_in [late, prog n true true] [x] = .ok (.lst []) [x]
  sS : ∀ x, closedO 1 x = true → F_strange_in [strict, prog n false false] [x] = .ok (.lst []) [x]
  pl : ∀ x, ev (F_outcomes_in [c_PLAIN, prog n false false] [x]) = some (.lst [outD n 0 n, outD n n 0, outD n n n], some x)
  lt : ∀ x, ev (F_outcomes_in [late, prog n false false] [x]) = some (.lst [outD n 0 0, outD n 0 n, outD n n 0, outD n n n], some x)
  cs : ∀ x, ev (F_count_rows [strict, prog n false false] [x]) = some (.int 6, some x)
  c0 : ∀ x, ev (F_count_rows [.tup [], prog n false false] [x]) = some (.int 24, some x)
  rf : ∀ x, ev (F_row_for [late, prog n false false, outD n 0 0] [x]) = some (rowA, some x)
  tb : ∀ x, ev (F_told_by [late, prog n false false, rowB] [x]) = some (outD n 0 0, some x)
  eb : ∀ x, ev (F_events_behind [.tup [], coreP n, .tup []] [x]) = some (.tup [ev2 0 0, ev2 0 2], some x)
  oc : ∀ x, ev (F_outcomes_in [.tup [], coreP n] [x]) = some (.lst [outC], some x)
  cc : ∀ x, ev (F_count_rows [.tup [], coreP n] [x]) = some (.int 1, some x)
  m1 : ∀ s, F_must_be_done [.tup [], core n, .int 0, .int 1] s = .ok (.bl true) s
  m2 : ∀ s, F_must_be_done [.tup [], core n, .int 1, .int 2] s = .ok (.bl false) s
  m3 : ∀ s, F_must_be_done [.tup [T "gw"], core n, .int 1, .int 2] s = .ok (.bl true) s
  eq : ∀ s, eqD s (outD n 0 0) (outD n 0 0) = some true
/-- the outcomes that are not plain -/
theorem si_gen {d p : D} {pl oi res : List D} {x : IO} (hx : closedO 1 x = true) (hp : ev (F_outcomes_in [c_PLAIN, p] [x]) = some (.lst pl, some x)) (ho : ev (F_outcomes_in [d, p] [x]) = some (.lst oi, some x))
    (c1 : closedL 1 pl = true) (c2 : closedL 1 oi = true) (c3 : oi.length ≤ 16777216) (hf : lcLoop (dName 3) (gB (gOp2 fNotIn (gVar 3) (gVar 2))) (gVar 3) [some d, some p, some (.lst pl), none] oi [x] = .ok res [x]) : F_strange_in [d, p] [x] = .ok (.lst res) [x] := by
  have k0 : gFor (gCall 2 (F_outcomes_in) (gaCons (gC c_PLAIN) (gaCons (gVar 0) gaNil))) [some p] [x] = .ok (.lst pl) [x] := for_ev hx (by simpa using hp) c1
  have k1 : F_plain_in [p] [x] = .ok (.lst pl) [x] := by simp [F_plain_in, b_plain_in, k0]
  have k2 : ∀ ρ : J.Env, ρ[1]? = some (some p) → gFor (gCall 1 (F_plain_in) (gaCons (gVar 1) (gaNil))) ρ [x] = .ok (.lst pl) [x] := fun ρ h => gFor_ok (v := []) (by simp [h, k1]) c1 (closed1 hx)
  have k3 : gFor (gCall 2 (F_outcomes_in) (gaCons (gVar 0) (gaCons (gVar 1) (gaNil)))) [some d, some p, some (.lst pl), none] [x] = .ok (.lst oi) [x] := for_ev hx (by simpa using ho) c2
  simp [F_strange_in, b_strange_in, k2, k3, hf, c3]
end G


set_option Elab.async false
set_option linter.all false
set_option maxRecDepth 100000
set_option maxHeartbeats 4000000
/-! JS: the order of keys: a strict order, total on keys of one form; what sorting gives. -/
namespace J
open PySem
mutual
theorem ltK_asymm : ∀ x y : NestedKey, ltK x y = true → ltK y x = false
  | .num a, .num b, h => by
    simp only [ltK, decide_eq_true_eq, decide_eq_false_iff_not] at h ⊢; omega
  | .text a, .text b, h => by
    simp only [ltK, decide_eq_true_eq, decide_eq_false_iff_not] at h ⊢
    exact List.lt_asymm h
  | .tup a, .tup b, h => by
    simp only [ltK] at h ⊢
    exact ltKs_asymm a b h
  | .none, y, h => by cases y <;> simp [ltK] at h
  | .num _, .none, h => by simp [ltK] at h
  | .num _, .text _, h => by simp [ltK] at h
  | .num _, .tup _, h => by simp [ltK] at h
  | .text _, .none, h => by simp [ltK] at h
  | .text _, .num _, h => by simp [ltK] at h
  | .text _, .tup _, h => by simp [ltK] at h
  | .tup _, .none, h => by simp [ltK] at h
  | .tup _, .num _, h => by simp [ltK] at h
  | .tup _, .text _, h => by simp [ltK] at h
theorem ltKs_asymm : ∀ xs ys : List NestedKey, ltKs xs ys = true → ltKs ys xs = false
  | [], [], h => by simp [ltKs] at h
  | [], _ :: _, _ => by simp [ltKs]
  | _ :: _, [], h => by simp [ltKs] at h
  | a :: as, b :: bs, h => by
    simp only [ltKs] at h ⊢
    by_cases e : NestedKey.beq a b = true
    · have e1 := NestedKey.eq_of_beq _ _ e
      subst e1
      rw [if_pos e] at h ⊢
      exact ltKs_asymm as bs h
    · have e2 : ¬ NestedKey.beq b a = true := fun z => e (by rw [NestedKey.eq_of_beq _ _ z]; exact NestedKey.beq_self _)
      rw [if_neg e] at h
      rw [if_neg e2]
      exact ltK_asymm a b h
end
theorem ltK_irr (x : NestedKey) : ltK x x = false := by
  cases h : ltK x x with
  | false => rfl
  | true => have := ltK_asymm x x h; rw [h] at this; cases this
mutual
theorem ltK_trans : ∀ x y z : NestedKey, ltK x y = true → ltK y z = true → ltK x z = true
  | .num a, .num b, .num c, h, g => by
    simp only [ltK, decide_eq_true_eq] at h g ⊢; omega
  | .text a, .text b, .text c, h, g => by
    simp only [ltK, decide_eq_true_eq] at h g ⊢
    exact List.lt_trans h g
  | .tup a, .tup b, .tup c, h, g => by
    simp only [ltK] at h g ⊢
    exact ltKs_trans a b c h g
  | .none, y, z, h, g => by cases y <;> simp [ltK] at h
  | .num _, .none, _, h, g => by simp [ltK] at h
  | .num _, .text _, _, h, g => by simp [ltK] at h
  | .num _, .tup _, _, h, g => by simp [ltK] at h
  | .text _, .none, _, h, g => by simp [ltK] at h
  | .text _, .num _, _, h, g => by simp [ltK] at h
  | .text _, .tup _, _, h, g => by simp [ltK] at h
  | .tup _, .none, _, h, g => by simp [ltK] at h
  | .tup _, .num _, _, h, g => by simp [ltK] at h
  | .tup _, .text _, _, h, g => by simp [ltK] at h
  | .num _, .num _, .none, h, g => by simp [ltK] at g
  | .num _, .num _, .text _, h, g => by simp [ltK] at g
  | .num _, .num _, .tup _, h, g => by simp [ltK] at g
  | .text _, .text _, .none, h, g => by simp [ltK] at g
  | .text _, .text _, .num _, h, g => by simp [ltK] at g
  | .text _, .text _, .tup _, h, g => by simp [ltK] at g
  | .tup _, .tup _, .none, h, g => by simp [ltK] at g
  | .tup _, .tup _, .num _, h, g => by simp [ltK] at g
  | .tup _, .tup _, .text _, h, g => by simp [ltK] at g
theorem ltKs_trans : ∀ xs ys zs : List NestedKey, ltKs xs ys = true → ltKs ys zs = true → ltKs xs zs = true
  | [], [], _, h, _ => by simp [ltKs] at h
  | [], _ :: _, [], _, g => by simp [ltKs] at g
  | [], _ :: _, _ :: _, _, _ => by simp [ltKs]
  | _ :: _, [], _, h, _ => by simp [ltKs] at h
  | _ :: _, _ :: _, [], _, g => by simp [ltKs] at g
  | a :: as, b :: bs, c :: cs, h, g => by
    simp only [ltKs] at h g ⊢
    by_cases e : NestedKey.beq a b = true
    · have e1 := NestedKey.eq_of_beq _ _ e
      subst e1
      rw [if_pos e] at h
      by_cases f : NestedKey.beq a c = true
      · rw [if_pos f] at g ⊢
        exact ltKs_trans as bs cs h g
      · rw [if_neg f] at g ⊢
        exact g
    · rw [if_neg e] at h
      by_cases f : NestedKey.beq b c = true
      · have e1 := NestedKey.eq_of_beq _ _ f
        subst e1
        rw [if_neg e]
        exact h
      · rw [if_neg f] at g
        have k := ltK_trans a b c h g
        have k2 : ¬ NestedKey.beq a c = true := fun z => by
          rw [NestedKey.eq_of_beq _ _ z, ltK_irr] at k; cases k
        rw [if_neg k2]
        exact k
end
theorem lt_tri (a b : List Nat) (h1 : ¬ a < b) (h2 : ¬ b < a) : a = b := List.le_antisymm (List.not_lt.mp h2) (List.not_lt.mp h1)
mutual
theorem ltK_total : ∀ x y : NestedKey, okC x y = true → x ≠ y → ltK x y = true ∨ ltK y x = true
  | .num a, .num b, _, n => by
    simp only [ltK, decide_eq_true_eq]
    have : a ≠ b := fun e => n (by rw [e])
    omega
  | .text a, .text b, _, n => by
    simp only [ltK, decide_eq_true_eq]
    by_cases h1 : a.cps.toList < b.cps.toList
    · exact .inl h1
    · by_cases h2 : b.cps.toList < a.cps.toList
      · exact .inr h2
      · have := lt_tri _ _ h1 h2
        refine absurd ?_ n
        cases a with | mk a => cases b with | mk b => 
          have e : a = b := Array.toList_inj.mp this
          rw [e]
  | .tup a, .tup b, h, n => by
    simp only [okC] at h
    simp only [ltK]
    exact ltKs_total a b h fun e => n (by rw [e])
  | .none, y, h, _ => by cases y <;> simp [okC] at h
  | .num _, .none, h, _ => by simp [okC] at h
  | .num _, .text _, h, _ => by simp [okC] at h
  | .num _, .tup _, h, _ => by simp [okC] at h
  | .text _, .none, h, _ => by simp [okC] at h
  | .text _, .num _, h, _ => by simp [okC] at h
  | .text _, .tup _, h, _ => by simp [okC] at h
  | .tup _, .none, h, _ => by simp [okC] at h
  | .tup _, .num _, h, _ => by simp [okC] at h
  | .tup _, .text _, h, _ => by simp [okC] at h
theorem ltKs_total : ∀ xs ys : List NestedKey, okCs xs ys = true → xs ≠ ys → ltKs xs ys = true ∨ ltKs ys xs = true
  | [], [], _, n => absurd rfl n
  | [], _ :: _, _, _ => by simp [ltKs]
  | _ :: _, [], _, _ => by simp [ltKs]
  | a :: as, b :: bs, h, n => by
    simp only [okCs, Bool.and_eq_true] at h
    simp only [ltKs]
    by_cases e : NestedKey.beq a b = true
    · have e1 := NestedKey.eq_of_beq _ _ e
      subst e1
      rw [if_pos e, if_pos e]
      exact ltKs_total as bs h.2 fun z => n (by rw [z])
    · have e2 : ¬ NestedKey.beq b a = true := fun z => e (by rw [NestedKey.eq_of_beq _ _ z]; exact NestedKey.beq_self _)
      rw [if_neg e, if_neg e2]
      exact ltK_total a b h.1 fun z => e (by rw [z]; exact NestedKey.beq_self _)
end
/-- strictly ascending -/
def UpK (l : List NestedKey) : Prop := l.Pairwise (fun a b => ltK a b = true)
theorem up_ins {x : NestedKey} : ∀ {ys : List NestedKey}, (∀ y ∈ ys, okC x y = true ∧ x ≠ y) → UpK ys → UpK (insK x ys)
  | [], _, _ => List.pairwise_singleton _ _
  | y :: ys, h, u => by
    unfold insK
    obtain ⟨u1, u2⟩ := List.pairwise_cons.mp u
    split
    · rename_i hlt
      refine List.pairwise_cons.mpr ⟨fun z hz => ?_, u⟩
      rcases List.mem_cons.mp hz with rfl | hz
      · exact hlt
      · exact ltK_trans _ _ _ hlt (u1 z hz)
    · rename_i hlt
      refine List.pairwise_cons.mpr ⟨fun z hz => ?_, up_ins (fun z hz => h z (List.mem_cons_of_mem _ hz)) u2⟩
      rcases List.mem_cons.mp ((insK_perm x ys).mem_iff.mp hz) with rfl | hz
      · obtain ⟨h1, h2⟩ := h y List.mem_cons_self
        exact (ltK_total _ _ h1 h2).resolve_left hlt
      · exact u1 z hz
theorem up_sort : ∀ {ks : List NestedKey}, ks.Nodup → (∀ x ∈ ks, ∀ y ∈ ks, okC x y = true) → UpK (sortK ks)
  | [], _, _ => .nil
  | k :: ks, n, h => by
    obtain ⟨n1, n2⟩ := List.nodup_cons.mp n
    refine up_ins (fun y hy => ?_) (up_sort n2 fun x hx y hy => h x (List.mem_cons_of_mem _ hx) y (List.mem_cons_of_mem _ hy))
    have hy := (sortK_perm ks).mem_iff.mp hy
    exact ⟨h k List.mem_cons_self y (List.mem_cons_of_mem _ hy), fun e => n1 (e ▸ hy)⟩
theorem asc_up : ∀ {l : List NestedKey}, UpK l → (∀ x ∈ l, ∀ y ∈ l, okC x y = true) → ascK l = true
  | [], _, _ => rfl
  | x :: l, u, h => by
    obtain ⟨u1, u2⟩ := List.pairwise_cons.mp u
    have i1 := asc_up u2 fun a ha b hb => h a (List.mem_cons_of_mem _ ha) b (List.mem_cons_of_mem _ hb)
    have hx := List.mem_cons_self (a := x) (l := l)
    simp only [ascK, Bool.and_eq_true, List.all_eq_true, Bool.not_eq_true']
    refine ⟨⟨⟨h x hx x hx, ltK_irr x⟩, fun y hy => ?_⟩, i1⟩
    have k := u1 y hy
    have hy := List.mem_cons_of_mem x hy
    simp only [goodK, Bool.and_eq_true, Bool.not_eq_true']
    refine ⟨⟨⟨⟨k, ltK_asymm _ _ k⟩, h x hx y hy⟩, h y hy x hx⟩, ?_⟩
    cases e : NestedKey.beq x y with
    | false => rfl
    | true => rw [NestedKey.eq_of_beq _ _ e, ltK_irr] at k; cases k
theorem up_uniq : ∀ {xs ys : List NestedKey}, xs.Perm ys → UpK xs → UpK ys → xs = ys
  | [], ys, p, _, _ => by rw [List.nil_perm.mp p]
  | x :: xs, [], p, _, _ => by have := p.length_eq; simp at this
  | x :: xs, y :: ys, p, hx, hy => by
    obtain ⟨x1, x2⟩ := List.pairwise_cons.mp hx
    obtain ⟨y1, y2⟩ := List.pairwise_cons.mp hy
    have e : x = y := by
      rcases List.mem_cons.mp (p.mem_iff.mp List.mem_cons_self) with e | m1
      · exact e
      · rcases List.mem_cons.mp (p.mem_iff.mpr List.mem_cons_self) with e | m2
        · exact e.symm
        · have a := ltK_asymm _ _ (x1 y m2)
          rw [y1 x m1] at a; cases a
    subst e
    rw [up_uniq ((List.perm_cons x).mp p) x2 y2]
theorem up_nodup {l : List NestedKey} (u : UpK l) : l.Nodup := u.imp fun {a b} h e => by rw [e, ltK_irr] at h; cases h
theorem sort_eq {ks ls : List NestedKey} (p : ks.Perm ls) (u : UpK ls) (h : ∀ x ∈ ks, ∀ y ∈ ks, okC x y = true) : sortK ks = ls :=
  up_uniq ((sortK_perm ks).trans p) (up_sort (p.nodup_iff.mpr (up_nodup u)) h) u
theorem sort_perm {ks ls : List NestedKey} (p : ks.Perm ls) (n : ks.Nodup) (h : ∀ x ∈ ks, ∀ y ∈ ks, okC x y = true) : sortK ks = sortK ls :=
  up_uniq ((sortK_perm ks).trans (p.trans (sortK_perm ls).symm)) (up_sort n h) (up_sort (p.nodup_iff.mp n) fun x hx y hy => h x (p.mem_iff.mpr hx) y (p.mem_iff.mpr hy))
theorem asc_sort {ks : List NestedKey} (n : ks.Nodup) (h : ∀ x ∈ ks, ∀ y ∈ ks, okC x y = true) : ascK (sortK ks) = true :=
  asc_up (up_sort n h) fun x hx y hy => h x ((sortK_perm ks).mem_iff.mp hx) y ((sortK_perm ks).mem_iff.mp hy)
end J

set_option Elab.async false
set_option linter.all false
set_option maxRecDepth 1000000
set_option maxHeartbeats 4000000
/-! K13n: all designs in order, without the kernel's sorting. -/
namespace G
open PySem PySem.Spec L2 J
open PyProof.Rows
def nm8 : List Str := [PySem.Str.ofString "gr", PySem.Str.ofString "gw", PySem.Str.ofString "own", PySem.Str.ofString "rr", PySem.Str.ofString "rw", PySem.Str.ofString "ss", PySem.Str.ofString "wr", PySem.Str.ofString "ww"]
abbrev des (ds : List Str) : D := .tup (ds.map .str)
def kOf (k : List Str) : NestedKey := .tup (k.map .text)
def asc : List Str → List (List Str)
  | [] => [[]]
  | x :: xs => [] :: (asc xs).map (x :: ·) ++ (asc xs).tail
def bld : List Str → List (List Str) → List (List Str)
  | [], K => K
  | x :: xs, K => bld xs (K ++ K.map (· ++ [x]))
def AD : List (List Str) := asc nm8
def FD : List (List Str) := bld nm8 [[]]
def chainT : List (List Str) → Bool
  | a :: b :: r => ltK (kOf a) (kOf b) && chainT (b :: r)
  | _ => true
theorem chain_up : ∀ {ks : List (List Str)}, chainT ks = true → ks.Pairwise fun a b => ltK (kOf a) (kOf b) = true
  | [], _ => .nil
  | [a], _ => List.pairwise_singleton _ _
  | a :: b :: r, h => by
    simp only [chainT, Bool.and_eq_true] at h
    have ih := chain_up h.2
    refine List.pairwise_cons.mpr ⟨fun x hx => ?_, ih⟩
    rcases List.mem_cons.mp hx with rfl | hx
    · exact h.1
    · exact ltK_trans _ _ _ h.1 ((List.pairwise_cons.mp ih).1 x hx)
theorem ok_k (a b : List Str) : okC (kOf a) (kOf b) = true := by
  have g : ∀ a b : List Str, okCs (a.map .text) (b.map .text) = true := fun a => by
    induction a with
    | nil => intro b; cases b <;> simp [okCs]
    | cons x a ih => intro b; cases b <;> simp [okCs, okC, ih]
  simp only [kOf, okC]; exact g a b
theorem deep_k (a : List Str) : (kOf a).depth ≤ 1 := by
  have g : ∀ a : List Str, NestedKey.depthAll (a.map .text) = 0 := fun a => by
    induction a with
    | nil => rfl
    | cons x a ih => simp [NestedKey.depthAll, NestedKey.depth, ih]
  simp [kOf, NestedKey.depth, g]
theorem key_des (k : List Str) : keyO (des k) = some (kOf k) := by
  have g : ∀ k : List Str, keysO (k.map D.str) = some (k.map NestedKey.text) := fun k => by
    induction k with
    | nil => rfl
    | cons y k ih => simp [keysO, keyO, ih]
  simp [keyO, g, kOf]
theorem keys_des : ∀ K : List (List Str), keysO (K.map des) = some (K.map kOf)
  | [] => rfl
  | k :: K => by
    have h1 := key_des k
    have h2 := keys_des K
    rw [List.map_cons, List.map_cons]
    simp only [keysO]
    rw [h1, h2]
theorem back_des (k : List Str) : toD (kOf k) = des k := by
  simp [kOf, toD, toDs_map, Function.comp_def]
theorem ok_keys (K : List (List Str)) : ∀ a ∈ K.map kOf, ∀ b ∈ K.map kOf, okC a b = true := fun a ha b hb => by
  obtain ⟨_, _, rfl⟩ := List.mem_map.mp ha
  obtain ⟨_, _, rfl⟩ := List.mem_map.mp hb
  exact ok_k _ _
theorem sortB_of {F A : List (List Str)} (p : (F.map kOf).Perm (A.map kOf)) (u : UpK (A.map kOf)) (h0 : ∃ K, F = [] :: K) : sortB (F.map kOf) = true := by
  have h1 : kindK (F.map kOf) = true := by
    unfold kindK
    have t : (F.map kOf).all isTu = true := List.all_eq_true.mpr fun x hx => by
      obtain ⟨k, _, rfl⟩ := List.mem_map.mp hx
      rfl
    obtain ⟨K, e⟩ := h0
    rw [t, e, List.map_cons]
    simp [kOf, isT0]
  have h2 : deepK (F.map kOf) = true := List.all_eq_true.mpr fun x hx => by
    obtain ⟨k, _, rfl⟩ := List.mem_map.mp hx
    have := deep_k k
    rw [decide_eq_true_eq]; omega
  have h3 : ascK (sortK (F.map kOf)) = true := asc_sort (p.nodup_iff.mpr (up_nodup u)) (ok_keys F)
  simp only [sortB, h1, h2, h3, Bool.and_self]
theorem sort_of {F A : List (List Str)} (p : (F.map kOf).Perm (A.map kOf)) (u : UpK (A.map kOf)) (h0 : ∃ K, F = [] :: K) (s : S) : fSortT s (.lst (F.map des)) = some (.lst (A.map des)) := by
  have e : itemsL s (.lst (F.map des)) = some (F.map des) := rfl
  have e2 : sortK (F.map kOf) = A.map kOf := sort_eq p u (ok_keys F)
  have e3 : (A.map kOf).map toD = A.map des := by
    rw [List.map_map]
    exact List.map_congr_left fun k _ => back_des k
  simp only [fSortT, e, Option.bind_some, keys_des, sortB_of p u h0, if_true, e2, e3]
theorem kChain : chainT AD = true := by decide +kernel
theorem kPerm : FD.isPerm AD = true := by decide +kernel
theorem FD_head : ∃ K, FD = [] :: K := ⟨FD.tail, by decide +kernel⟩
theorem kLoop (s : S) : forLoop (dName 1) (sAsg (gOp2 fAdd (gVar 0) (gLc [2] (gItems (gVar 0)) (dName 2) (gYes) (gOp2 fAdd (gVar 2) (gTup (gaCons (gVar 1) (gaNil)))))) (dName 0)) (nm8.map D.str) [some (.lst [.tup []]), none, none] s = .ok (.nx [some (.lst (FD.map des)), some (.str (PySem.Str.ofString "ww")), none]) s := by kernel_rfl
theorem all_ok (s : S) : F_all_designs [] s = .ok (.tup (AD.map des)) s := by
  have l := kLoop s
  have c : c_NAMES = .tup (nm8.map D.str) := rfl
  have so := sort_of ((List.isPerm_iff.mp kPerm).map kOf) (List.pairwise_map.mpr (chain_up kChain)) FD_head s
  generalize FD.map des = X at *
  generalize AD.map des = Y at *
  simp [F_all_designs, b_all_designs, fitL, c, l, so]
/-- how many come out, and the first object -/
def evM (r : R (List D)) : Option (Nat × Option IO × Bool) := match r with | .ok ds s => some (ds.length, s.head?, closedL 1 ds) | _ => none
theorem kNorm (x : IO) : evM (lcLoop (dName 0) (gB (gOp2 fEq (gCall 1 (F_normal_of) (gaCons (gVar 0) (gaNil))) (gVar 0))) (gVar 0) [none] (AD.map des) [x]) = some (141, some x, true) := by kernel_rfl
theorem len_AD : (AD.map des).length ≤ 16777216 := by rw [List.length_map]; decide +kernel
theorem normals_of {x : IO} : ∃ ds s, F_normals [] [x] = .ok (.tup ds) s ∧ evM (.ok ds s) = some (141, some x, true) := by
  have k := kNorm x
  have a := all_ok [x]
  have hl := len_AD
  generalize AD.map des = Y at *
  generalize hr : lcLoop (dName 0) (gB (gOp2 fEq (gCall 1 (F_normal_of) (gaCons (gVar 0) (gaNil))) (gVar 0))) (gVar 0) [none] Y [x] = r at k
  cases r with
  | ok ds s => exact ⟨ds, s, by simp [F_normals, b_normals, a, wipeD, hl, hr], k⟩
  | err _ _ => cases k
  | no => cases k
end G

set_option Elab.async false
set_option linter.all false
set_option maxRecDepth 1000000
set_option maxHeartbeats 0
/-! K13b: what leans on no number. -/
namespace G
open PySem PySem.Spec L2 J
open PyProof.Rows
theorem kb_b1 (x : IO) : ev (F_below [strict, late] [x]) = some (.bl true, some x) := by kernel_rfl
theorem kb_f1 (x : IO) : ev (F_first_test [late, strict] [x]) = some (T "wr", some x) := by kernel_rfl
theorem kb_f2 (x : IO) : ev (F_first_test [strict, late] [x]) = some (.non, some x) := by kernel_rfl
theorem kb_n1 (x : IO) : ev (F_normal [late] [x]) = some (.tup [T "gr", T "gw", T "own", T "rr", T "rw", T "ss", T "ww"], some x) := by kernel_rfl
theorem kb_n2 (x : IO) : ev (F_normal [strict] [x]) = some (.tup [T "gr", T "gw", T "rr", T "rw", T "ss", T "wr", T "ww"], some x) := by kernel_rfl
theorem kb_s1 (x : IO) : ev (F_shows [late, T "own rr"] [x]) = some (.bl true, some x) := by kernel_rfl
theorem kb_s2 (x : IO) : ev (F_shows [late, T "own copy"] [x]) = some (.bl false, some x) := by kernel_rfl
theorem kb_a1 (x : IO) : ev (F_alike [strict, strict] [x]) = some (.bl true, some x) := by kernel_rfl
theorem kb_f3 (x : IO) : ev (F_first_test [.tup [], .tup [T "gr"]] [x]) = some (T "gr", some x) := by kernel_rfl
theorem kb_f4 (x : IO) : ev (F_first_test [.tup [T "rr"], .tup [T "gr", T "rr"]] [x]) = some (T "gr same", some x) := by kernel_rfl
theorem kb_f5 (x : IO) : ev (F_first_test [.tup [T "own", T "wr"], .tup [T "wr"]] [x]) = some (T "own copy", some x) := by kernel_rfl
/-- how many come out, and the first object -/
def evL (r : R D) : Option (Nat × Option IO × Bool) := match r with | .ok (.tup ds) s => some (ds.length, s.head?, closedL 1 ds) | _ => none
theorem of_evL {r : R D} {m : Nat} {x : IO} (h : evL r = some (m, some x, true)) : ∃ ds v, r = .ok (.tup ds) ([x] ++ v) ∧ ds.length = m ∧ closedL 1 ds = true := by
  cases r with
  | ok e s =>
    cases e with
    | tup ds =>
      simp only [evL, Option.some.injEq, Prod.mk.injEq] at h
      obtain ⟨h1, h2, h3⟩ := h
      cases s with
      | nil => cases h2
      | cons y v =>
        cases h2
        exact ⟨ds, v, rfl, h1, h3⟩
    | _ => cases h
  | err e s => cases h
  | no => cases h
theorem kb_t1 (x : IO) : evL (F_tests [] [x]) = some (11, some x, true) := by kernel_rfl
theorem kb_nn (x : IO) : evL (F_normals [] [x]) = some (141, some x, true) := by
  obtain ⟨ds, s, e, k⟩ := normals_of (x := x)
  rw [e]
  exact k
end G

set_option Elab.async false
set_option linter.all false
set_option maxRecDepth 1000000
set_option maxHeartbeats 4000000
/-! K13c: the calls of the law. -/
namespace G
open PySem PySem.Spec L2 J
open PyProof.Rows
theorem for_same {g : GE} {ρ : J.Env} {d : D} {x : IO} (hx : closedO 1 x = true) (h : g ρ [x] = .ok d [x]) (hd : closedD 1 d = true) : gFor g ρ [x] = .ok d [x] := gFor_ok (v := []) h hd (closed1 hx)
theorem ndL (s : S) : F_need_design [late] s = .ok .non s := by kernel_rfl
theorem ndS (s : S) : F_need_design [strict] s = .ok .non s := by kernel_rfl
theorem nd0 (s : S) : F_need_design [.tup []] s = .ok .non s := by kernel_rfl
theorem ga (n : Int) (s : S) : F_gaps_of [prog n false false] s = .ok (.lst [ev2 0 1, ev2 1 1]) s := by kernel_rfl
theorem wf0 (n : Int) (x : IO) : ev (F_with_fences [prog n false false, .tup []] [x]) = some (prog n false false, some x) := by kernel_rfl
theorem wf1 (n : Int) (x : IO) : ev (F_with_fences [prog n false false, .tup [ev2 0 1]] [x]) = some (prog n true false, some x) := by kernel_rfl
theorem wf2 (n : Int) (x : IO) : ev (F_with_fences [prog n false false, .tup [ev2 1 1]] [x]) = some (prog n false true, some x) := by kernel_rfl
theorem wf3 (n : Int) (x : IO) : ev (F_with_fences [prog n false false, .tup [ev2 0 1, ev2 1 1]] [x]) = some (prog n true true, some x) := by kernel_rfl
theorem pls (n : Int) (s : S) : F_need_places [prog n false false, .tup [ev2 0 1]] s = .ok .non s := by kernel_rfl
theorem cl_prog (n : Int) (a b : Bool) : closedD 1 (prog n a b) = true := by cases a <;> cases b <;> rfl
theorem cl_out (n a b : Int) : closedD 1 (outD n a b) = true := rfl
section
variable {n : Int} {x : IO}
theorem strange_ok (F : Facts n) (hx : closedO 1 x = true) : F_strange [late, prog n false false] [x] = .ok (outD n 0 0) [x] := by
  have k : ∀ ρ : J.Env, ρ[0]? = some (some late) → ρ[1]? = some (some (prog n false false)) → gFor (gCall 2 (F_strange_in) (gaCons (gVar 0) (gaCons (gVar 1) gaNil))) ρ [x] = .ok (.lst [outD n 0 0]) [x] := fun ρ h0 h1 => for_same hx (by simp [h0, h1, F.s0 x hx]) rfl
  have e : ∀ s, eqD s (.lst [outD n 0 0]) (.lst []) = some false := fun s => by kernel_rfl
  have a0 : atI [outD n 0 0] 0 = some (outD n 0 0) := rfl
  simp [F_strange, b_strange, ndL, F.np, k, e, a0]
theorem isp_ok {d p : D} {l : List D} {b : Bool} (hd : ∀ s, F_need_design [d] s = .ok .non s) (hp : ∀ s, F_need_program [p] s = .ok .non s) (hx : closedO 1 x = true) (h : F_strange_in [d, p] [x] = .ok (.lst l) [x]) (hl : closedL 1 l = true) (e : eqD [x] (.lst l) (.lst []) = some b) : F_is_plain [d, p] [x] = .ok (.bl b) [x] := by
  have k : gFor (gCall 2 (F_strange_in) (gaCons (gVar 0) (gaCons (gVar 1) gaNil))) [some d, some p] [x] = .ok (.lst l) [x] := for_same hx (by simp [h]) hl
  simp [F_is_plain, b_is_plain, hd, hp, k, e]
theorem po_ok (F : Facts n) (hx : closedO 1 x = true) : F_plain_outcomes [prog n false false] [x] = .ok (.tup [outD n 0 n, outD n n 0, outD n n n]) [x] := by
  have k : gFor (gCall 2 (F_outcomes_in) (gaCons (gC c_PLAIN) (gaCons (gVar 0) gaNil))) [some (prog n false false)] [x] = .ok (.lst [outD n 0 n, outD n n 0, outD n n n]) [x] := for_ev hx (by simpa using F.pl x) rfl
  have k2 : F_plain_in [prog n false false] [x] = .ok (.lst [outD n 0 n, outD n n 0, outD n n n]) [x] := by simp [F_plain_in, b_plain_in, k]
  have k3 : gFor (gCall 1 (F_plain_in) (gaCons (gVar 0) gaNil)) [some (prog n false false)] [x] = .ok (.lst [outD n 0 n, outD n n 0, outD n n n]) [x] := for_same hx (by simp [k2]) rfl
  simp [F_plain_outcomes, b_plain_outcomes, F.np, k3]
theorem oc_ok {d p : D} {l : List D} (hd : ∀ s, F_need_design [d] s = .ok .non s) (hp : ∀ s, F_need_program [p] s = .ok .non s) (hx : closedO 1 x = true) (h : ev (F_outcomes_in [d, p] [x]) = some (.lst l, some x)) (hl : closedL 1 l = true) : F_outcomes [d, p] [x] = .ok (.tup l) [x] := by
  have k : gFor (gCall 2 (F_outcomes_in) (gaCons (gVar 0) (gaCons (gVar 1) gaNil))) [some d, some p] [x] = .ok (.lst l) [x] := for_ev hx (by simpa using h) hl
  simp [F_outcomes, b_outcomes, hd, hp, k]
theorem fe_ok (F : Facts n) (hx : closedO 1 x = true) : F_fenced [prog n false false, .tup [ev2 0 1]] [x] = .ok (prog n true false) [x] := by
  have k : gFor (gCall 2 (F_with_fences) (gaCons (gVar 0) (gaCons (gVar 1) gaNil))) [some (prog n false false), some (.tup [ev2 0 1]), none] [x] = .ok (prog n true false) [x] := for_ev hx (by simpa using wf1 n x) (cl_prog n _ _)
  simp [F_fenced, b_fenced, F.np, pls, k, F.ip]
def groupsD : List D := [.tup [], .tup [ev2 0 1], .tup [ev2 1 1], .tup [ev2 0 1, ev2 1 1]]
def b_fl : GS := (sSeq (sAsg (gFor (gCall 2 (F_with_fences) (gaCons (gVar 1) (gaCons (gVar 5) (gaNil))))) (dName 6)) (sIf (gAnd (gB (gCall 1 (F_is_program) (gaCons (gVar 6) (gaNil)))) (gB (gOp2 fEq (gFor (gCall 2 (F_strange_in) (gaCons (gVar 0) (gaCons (gVar 6) (gaNil))))) (gLst (gaNil))))) (sRet (gVar 5)) (sNext)))
theorem fl_step {a b : Bool} {g : D} {l : List D} {x2 x3 x4 x6 : Option D} (F : Facts n) (hx : closedO 1 x = true) (hw : ev (F_with_fences [prog n false false, g] [x]) = some (prog n a b, some x)) (hs : F_strange_in [late, prog n a b] [x] = .ok (.lst l) [x]) (hl : closedL 1 l = true) {e : Bool} (he : eqD [x] (.lst l) (.lst []) = some e) :
    b_fl [some late, some (prog n false false), x2, x3, x4, some g, x6] [x] = if e then .ok (.rt g) [x] else .ok (.nx [some late, some (prog n false false), x2, x3, x4, some g, some (prog n a b)]) [x] := by
  have k1 : gFor (gCall 2 (F_with_fences) (gaCons (gVar 1) (gaCons (gVar 5) (gaNil)))) [some late, some (prog n false false), x2, x3, x4, some g, x6] [x] = .ok (prog n a b) [x] := for_ev hx (by simpa using hw) (cl_prog n a b)
  have k2 : gFor (gCall 2 (F_strange_in) (gaCons (gVar 0) (gaCons (gVar 6) (gaNil)))) [some late, some (prog n false false), x2, x3, x4, some g, some (prog n a b)] [x] = .ok (.lst l) [x] := for_same hx (by simpa using hs) hl
  have k3 := F.ip a b [x]
  unfold b_fl
  rw [ap_seq, ap_asg, k1]
  cases e <;> simp [k2, k3, he]
theorem few_ok (F : Facts n) (hx : closedO 1 x = true) : F_fewest_fences [late, prog n false false] [x] = .ok (.tup [ev2 0 1, ev2 1 1]) [x] := by
  have l1 : ∀ p : D, forLoop (dName 3) (sAsg (gOp2 fAdd (gVar 2) (gLc [5] (gItems (gVar 2)) (dName 5) (gYes) (gOp2 fAdd (gVar 5) (gTup (gaCons (gVar 3) (gaNil)))))) (dName 2)) [ev2 0 1, ev2 1 1] [some late, some p, some (.lst [.tup []]), none, none, none, none] [x] = .ok (.nx [some late, some p, some (.lst groupsD), some (ev2 1 1), none, none, none]) [x] := fun p => by kernel_rfl
  have l2 : ∀ p : D, gF (f1 fSortT) (gaCons (gLc [5] (gItems (gVar 2)) (dName 5) (gYes) (gTup (gaCons (gF (f1 fLen) (gaCons (gVar 5) (gaNil))) (gaCons (gVar 5) (gaNil))))) (gaNil)) [some late, some p, some (.lst groupsD), some (ev2 1 1), none, none, none] [x] = .ok (.lst [.tup [.int 0, .tup []], .tup [.int 1, .tup [ev2 0 1]], .tup [.int 1, .tup [ev2 1 1]], .tup [.int 2, .tup [ev2 0 1, ev2 1 1]]]) [x] := fun p => by kernel_rfl
  have e0 : eqD [x] (.lst [outD n 0 0]) (.lst []) = some false := by kernel_rfl
  have e1 : eqD [x] (.lst []) (.lst []) = some true := by kernel_rfl
  have l3 : forLoop (dTup 2 (dsCons (dName 4) (dsCons (dName 5) (dsNil)))) b_fl [.tup [.int 0, .tup []], .tup [.int 1, .tup [ev2 0 1]], .tup [.int 1, .tup [ev2 1 1]], .tup [.int 2, .tup [ev2 0 1, ev2 1 1]]] [some late, some (prog n false false), some (.lst groupsD), some (ev2 1 1), none, none, none] [x] = .ok (.rt (.tup [ev2 0 1, ev2 1 1])) [x] := by
    have st : ∀ (m g : D) (xs : List D) (x4 x5 x6 : Option D), forLoop (dTup 2 (dsCons (dName 4) (dsCons (dName 5) (dsNil)))) b_fl (.tup [m, g] :: xs) [some late, some (prog n false false), some (.lst groupsD), some (ev2 1 1), x4, x5, x6] [x] = (b_fl [some late, some (prog n false false), some (.lst groupsD), some (ev2 1 1), some m, some g, x6] [x]).bind fun f s1 => match f with
      | .nx ρ2 => forLoop (dTup 2 (dsCons (dName 4) (dsCons (dName 5) (dsNil)))) b_fl xs ρ2 s1
      | .ct ρ2 => forLoop (dTup 2 (dsCons (dName 4) (dsCons (dName 5) (dsNil)))) b_fl xs ρ2 s1
      | .bk ρ2 => .ok (.nx ρ2) s1
      | .rt d => .ok (.rt d) s1 := fun m g xs x4 x5 x6 => rfl
    rw [st, fl_step F hx (wf0 n x) (F.s0 x hx) rfl e0]
    simp only [Bool.false_eq_true, if_false, R.bind]
    rw [st, fl_step F hx (wf1 n x) (F.s1 x hx) rfl e0]
    simp only [Bool.false_eq_true, if_false, R.bind]
    rw [st, fl_step F hx (wf2 n x) (F.s2 x hx) rfl e0]
    simp only [Bool.false_eq_true, if_false, R.bind]
    rw [st, fl_step F hx (wf3 n x) (F.s3 x hx) rfl e1]
    simp only [if_true, R.bind]
  unfold b_fl at l3
  have l2 := l2 (prog n false false)
  have l1 := l1 (prog n false false)
  have i0 : ∀ ρ : J.Env, ρ[1]? = some (some (prog n false false)) → gItems (gCall 1 (F_gaps_of) (gaCons (gVar 1) (gaNil))) ρ [x] = .ok [ev2 0 1, ev2 1 1] [x] := fun ρ h => by simp [h, ga]
  have i1 := congrArg (fun r : R D => r.bd (fun d s1 => R.ofO (itemsF d) s1) .mk) l2
  have i2 : gItems (gF (f1 fSortT) (gaCons (gLc [5] (gItems (gVar 2)) (dName 5) (gYes) (gTup (gaCons (gF (f1 fLen) (gaCons (gVar 5) (gaNil))) (gaCons (gVar 5) (gaNil))))) (gaNil))) [some late, some (prog n false false), some (.lst groupsD), some (ev2 1 1), none, none, none] [x] = .ok [.tup [.int 0, .tup []], .tup [.int 1, .tup [ev2 0 1]], .tup [.int 1, .tup [ev2 1 1]], .tup [.int 2, .tup [ev2 0 1, ev2 1 1]]] [x] := i1
  simp [F_fewest_fences, b_fewest_fences, ndL, F.np, i0, l1, -ap_items, i2, l3]
end
end G


set_option Elab.async false
set_option linter.all false
set_option maxRecDepth 1000000
set_option maxHeartbeats 0
namespace G
open PySem PySem.Spec L2 J
open PyProof.Rows
theorem pl00_1 (x : IO) : ev (F_outcomes_in [c_PLAIN, prog 1 false false] [x]) = some (.lst [outD 1 0 1, outD 1 1 0, outD 1 1 1], some x) := by kernel_rfl
theorem lt00_1 (x : IO) : ev (F_outcomes_in [late, prog 1 false false] [x]) = some (.lst [outD 1 0 0, outD 1 0 1, outD 1 1 0, outD 1 1 1], some x) := by kernel_rfl
theorem pl10_1 (x : IO) : ev (F_outcomes_in [c_PLAIN, prog 1 true false] [x]) = some (.lst [outD 1 0 1, outD 1 1 0, outD 1 1 1], some x) := by kernel_rfl
theorem lt10_1 (x : IO) : ev (F_outcomes_in [late, prog 1 true false] [x]) = some (.lst [outD 1 0 0, outD 1 0 1, outD 1 1 0, outD 1 1 1], some x) := by kernel_rfl
theorem pl01_1 (x : IO) : ev (F_outcomes_in [c_PLAIN, prog 1 false true] [x]) = some (.lst [outD 1 0 1, outD 1 1 0, outD 1 1 1], some x) := by kernel_rfl
theorem lt01_1 (x : IO) : ev (F_outcomes_in [late, prog 1 false true] [x]) = some (.lst [outD 1 0 0, outD 1 0 1, outD 1 1 0, outD 1 1 1], some x) := by kernel_rfl
theorem pl11_1 (x : IO) : ev (F_outcomes_in [c_PLAIN, prog 1 true true] [x]) = some (.lst [outD 1 0 1, outD 1 1 0, outD 1 1 1], some x) := by kernel_rfl
theorem lt11_1 (x : IO) : ev (F_outcomes_in [late, prog 1 true true] [x]) = some (.lst [outD 1 0 1, outD 1 1 0, outD 1 1 1], some x) := by kernel_rfl
theorem st_1 (x : IO) : ev (F_outcomes_in [strict, prog 1 false false] [x]) = some (.lst [outD 1 0 1, outD 1 1 0, outD 1 1 1], some x) := by kernel_rfl
theorem np_1 (s : S) : F_need_program [prog 1 false false] s = .ok .non s := by kernel_rfl
theorem np1_1 (s : S) : F_need_program [prog 1 true false] s = .ok .non s := by kernel_rfl
theorem npC_1 (s : S) : F_need_program [coreP 1] s = .ok .non s := by kernel_rfl
theorem ipff_1 (s : S) : F_is_program [prog 1 false false] s = .ok (.bl true) s := by kernel_rfl
theorem ipft_1 (s : S) : F_is_program [prog 1 false true] s = .ok (.bl true) s := by kernel_rfl
theorem iptf_1 (s : S) : F_is_program [prog 1 true false] s = .ok (.bl true) s := by kernel_rfl
theorem iptt_1 (s : S) : F_is_program [prog 1 true true] s = .ok (.bl true) s := by kernel_rfl
theorem cs_1 (x : IO) : ev (F_count_rows [strict, prog 1 false false] [x]) = some (.int 6, some x) := by kernel_rfl
theorem c0_1 (x : IO) : ev (F_count_rows [.tup [], prog 1 false false] [x]) = some (.int 24, some x) := by kernel_rfl
theorem rf_1 (x : IO) : ev (F_row_for [late, prog 1 false false, outD 1 0 0] [x]) = some (rowA, some x) := by kernel_rfl
theorem tb_1 (x : IO) : ev (F_told_by [late, prog 1 false false, rowB] [x]) = some (outD 1 0 0, some x) := by kernel_rfl
theorem eb_1 (x : IO) : ev (F_events_behind [.tup [], coreP 1, .tup []] [x]) = some (.tup [ev2 0 0, ev2 0 2], some x) := by kernel_rfl
theorem oc_1 (x : IO) : ev (F_outcomes_in [.tup [], coreP 1] [x]) = some (.lst [outC], some x) := by kernel_rfl
theorem cc_1 (x : IO) : ev (F_count_rows [.tup [], coreP 1] [x]) = some (.int 1, some x) := by kernel_rfl
theorem m1_1 (s : S) : F_must_be_done [.tup [], core 1, .int 0, .int 1] s = .ok (.bl true) s := by kernel_rfl
theorem m2_1 (s : S) : F_must_be_done [.tup [], core 1, .int 1, .int 2] s = .ok (.bl false) s := by kernel_rfl
theorem m3_1 (s : S) : F_must_be_done [.tup [T "gw"], core 1, .int 1, .int 2] s = .ok (.bl true) s := by kernel_rfl
theorem eq_1 (s : S) : eqD s (outD 1 0 0) (outD 1 0 0) = some true := by kernel_rfl
theorem facts_1 : Facts 1 where
  np := np_1
  np1 := np1_1
  npC := npC_1
  cs := cs_1
  c0 := c0_1
  rf := rf_1
  tb := tb_1
  eb := eb_1
  oc := oc_1
  cc := cc_1
  m1 := m1_1
  m2 := m2_1
  m3 := m3_1
  eq := eq_1
  ip := fun a b s => match a, b with
    | false, false => ipff_1 s
    | false, true => ipft_1 s
    | true, false => iptf_1 s
    | true, true => iptt_1 s
  pl := pl00_1
  lt := lt00_1
  s0 := fun x hx => si_gen (res := [outD 1 0 0]) hx (pl00_1 x) (lt00_1 x) rfl rfl (by decide) (by kernel_rfl)
  s1 := fun x hx => si_gen (res := [outD 1 0 0]) hx (pl10_1 x) (lt10_1 x) rfl rfl (by decide) (by kernel_rfl)
  s2 := fun x hx => si_gen (res := [outD 1 0 0]) hx (pl01_1 x) (lt01_1 x) rfl rfl (by decide) (by kernel_rfl)
  s3 := fun x hx => si_gen (res := []) hx (pl11_1 x) (lt11_1 x) rfl rfl (by decide) (by kernel_rfl)
  sS := fun x hx => si_gen (res := []) hx (pl00_1 x) (st_1 x) rfl rfl (by decide) (by kernel_rfl)
end G


set_option Elab.async false
set_option linter.all false
set_option maxRecDepth 1000000
set_option maxHeartbeats 0
namespace G
open PySem PySem.Spec L2 J
open PyProof.Rows
theorem pl00_2 (x : IO) : ev (F_outcomes_in [c_PLAIN, prog 2 false false] [x]) = some (.lst [outD 2 0 2, outD 2 2 0, outD 2 2 2], some x) := by kernel_rfl
theorem lt00_2 (x : IO) : ev (F_outcomes_in [late, prog 2 false false] [x]) = some (.lst [outD 2 0 0, outD 2 0 2, outD 2 2 0, outD 2 2 2], some x) := by kernel_rfl
theorem pl10_2 (x : IO) : ev (F_outcomes_in [c_PLAIN, prog 2 true false] [x]) = some (.lst [outD 2 0 2, outD 2 2 0, outD 2 2 2], some x) := by kernel_rfl
theorem lt10_2 (x : IO) : ev (F_outcomes_in [late, prog 2 true false] [x]) = some (.lst [outD 2 0 0, outD 2 0 2, outD 2 2 0, outD 2 2 2], some x) := by kernel_rfl
theorem pl01_2 (x : IO) : ev (F_outcomes_in [c_PLAIN, prog 2 false true] [x]) = some (.lst [outD 2 0 2, outD 2 2 0, outD 2 2 2], some x) := by kernel_rfl
theorem lt01_2 (x : IO) : ev (F_outcomes_in [late, prog 2 false true] [x]) = some (.lst [outD 2 0 0, outD 2 0 2, outD 2 2 0, outD 2 2 2], some x) := by kernel_rfl
theorem pl11_2 (x : IO) : ev (F_outcomes_in [c_PLAIN, prog 2 true true] [x]) = some (.lst [outD 2 0 2, outD 2 2 0, outD 2 2 2], some x) := by kernel_rfl
theorem lt11_2 (x : IO) : ev (F_outcomes_in [late, prog 2 true true] [x]) = some (.lst [outD 2 0 2, outD 2 2 0, outD 2 2 2], some x) := by kernel_rfl
theorem st_2 (x : IO) : ev (F_outcomes_in [strict, prog 2 false false] [x]) = some (.lst [outD 2 0 2, outD 2 2 0, outD 2 2 2], some x) := by kernel_rfl
theorem np_2 (s : S) : F_need_program [prog 2 false false] s = .ok .non s := by kernel_rfl
theorem np1_2 (s : S) : F_need_program [prog 2 true false] s = .ok .non s := by kernel_rfl
theorem npC_2 (s : S) : F_need_program [coreP 2] s = .ok .non s := by kernel_rfl
theorem ipff_2 (s : S) : F_is_program [prog 2 false false] s = .ok (.bl true) s := by kernel_rfl
theorem ipft_2 (s : S) : F_is_program [prog 2 false true] s = .ok (.bl true) s := by kernel_rfl
theorem iptf_2 (s : S) : F_is_program [prog 2 true false] s = .ok (.bl true) s := by kernel_rfl
theorem iptt_2 (s : S) : F_is_program [prog 2 true true] s = .ok (.bl true) s := by kernel_rfl
theorem cs_2 (x : IO) : ev (F_count_rows [strict, prog 2 false false] [x]) = some (.int 6, some x) := by kernel_rfl
theorem c0_2 (x : IO) : ev (F_count_rows [.tup [], prog 2 false false] [x]) = some (.int 24, some x) := by kernel_rfl
theorem rf_2 (x : IO) : ev (F_row_for [late, prog 2 false false, outD 2 0 0] [x]) = some (rowA, some x) := by kernel_rfl
theorem tb_2 (x : IO) : ev (F_told_by [late, prog 2 false false, rowB] [x]) = some (outD 2 0 0, some x) := by kernel_rfl
theorem eb_2 (x : IO) : ev (F_events_behind [.tup [], coreP 2, .tup []] [x]) = some (.tup [ev2 0 0, ev2 0 2], some x) := by kernel_rfl
theorem oc_2 (x : IO) : ev (F_outcomes_in [.tup [], coreP 2] [x]) = some (.lst [outC], some x) := by kernel_rfl
theorem cc_2 (x : IO) : ev (F_count_rows [.tup [], coreP 2] [x]) = some (.int 1, some x) := by kernel_rfl
theorem m1_2 (s : S) : F_must_be_done [.tup [], core 2, .int 0, .int 1] s = .ok (.bl true) s := by kernel_rfl
theorem m2_2 (s : S) : F_must_be_done [.tup [], core 2, .int 1, .int 2] s = .ok (.bl false) s := by kernel_rfl
theorem m3_2 (s : S) : F_must_be_done [.tup [T "gw"], core 2, .int 1, .int 2] s = .ok (.bl true) s := by kernel_rfl
theorem eq_2 (s : S) : eqD s (outD 2 0 0) (outD 2 0 0) = some true := by kernel_rfl
theorem facts_2 : Facts 2 where
  np := np_2
  np1 := np1_2
  npC := npC_2
  cs := cs_2
  c0 := c0_2
  rf := rf_2
  tb := tb_2
  eb := eb_2
  oc := oc_2
  cc := cc_2
  m1 := m1_2
  m2 := m2_2
  m3 := m3_2
  eq := eq_2
  ip := fun a b s => match a, b with
    | false, false => ipff_2 s
    | false, true => ipft_2 s
    | true, false => iptf_2 s
    | true, true => iptt_2 s
  pl := pl00_2
  lt := lt00_2
  s0 := fun x hx => si_gen (res := [outD 2 0 0]) hx (pl00_2 x) (lt00_2 x) rfl rfl (by decide) (by kernel_rfl)
  s1 := fun x hx => si_gen (res := [outD 2 0 0]) hx (pl10_2 x) (lt10_2 x) rfl rfl (by decide) (by kernel_rfl)
  s2 := fun x hx => si_gen (res := [outD 2 0 0]) hx (pl01_2 x) (lt01_2 x) rfl rfl (by decide) (by kernel_rfl)
  s3 := fun x hx => si_gen (res := []) hx (pl11_2 x) (lt11_2 x) rfl rfl (by decide) (by kernel_rfl)
  sS := fun x hx => si_gen (res := []) hx (pl00_2 x) (st_2 x) rfl rfl (by decide) (by kernel_rfl)
end G


set_option Elab.async false
set_option linter.all false
set_option maxRecDepth 1000000
set_option maxHeartbeats 0
namespace G
open PySem PySem.Spec L2 J
open PyProof.Rows
theorem pl00_3 (x : IO) : ev (F_outcomes_in [c_PLAIN, prog 3 false false] [x]) = some (.lst [outD 3 0 3, outD 3 3 0, outD 3 3 3], some x) := by kernel_rfl
theorem lt00_3 (x : IO) : ev (F_outcomes_in [late, prog 3 false false] [x]) = some (.lst [outD 3 0 0, outD 3 0 3, outD 3 3 0, outD 3 3 3], some x) := by kernel_rfl
theorem pl10_3 (x : IO) : ev (F_outcomes_in [c_PLAIN, prog 3 true false] [x]) = some (.lst [outD 3 0 3, outD 3 3 0, outD 3 3 3], some x) := by kernel_rfl
theorem lt10_3 (x : IO) : ev (F_outcomes_in [late, prog 3 true false] [x]) = some (.lst [outD 3 0 0, outD 3 0 3, outD 3 3 0, outD 3 3 3], some x) := by kernel_rfl
theorem pl01_3 (x : IO) : ev (F_outcomes_in [c_PLAIN, prog 3 false true] [x]) = some (.lst [outD 3 0 3, outD 3 3 0, outD 3 3 3], some x) := by kernel_rfl
theorem lt01_3 (x : IO) : ev (F_outcomes_in [late, prog 3 false true] [x]) = some (.lst [outD 3 0 0, outD 3 0 3, outD 3 3 0, outD 3 3 3], some x) := by kernel_rfl
theorem pl11_3 (x : IO) : ev (F_outcomes_in [c_PLAIN, prog 3 true true] [x]) = some (.lst [outD 3 0 3, outD 3 3 0, outD 3 3 3], some x) := by kernel_rfl
theorem lt11_3 (x : IO) : ev (F_outcomes_in [late, prog 3 true true] [x]) = some (.lst [outD 3 0 3, outD 3 3 0, outD 3 3 3], some x) := by kernel_rfl
theorem st_3 (x : IO) : ev (F_outcomes_in [strict, prog 3 false false] [x]) = some (.lst [outD 3 0 3, outD 3 3 0, outD 3 3 3], some x) := by kernel_rfl
theorem np_3 (s : S) : F_need_program [prog 3 false false] s = .ok .non s := by kernel_rfl
theorem np1_3 (s : S) : F_need_program [prog 3 true false] s = .ok .non s := by kernel_rfl
theorem npC_3 (s : S) : F_need_program [coreP 3] s = .ok .non s := by kernel_rfl
theorem ipff_3 (s : S) : F_is_program [prog 3 false false] s = .ok (.bl true) s := by kernel_rfl
theorem ipft_3 (s : S) : F_is_program [prog 3 false true] s = .ok (.bl true) s := by kernel_rfl
theorem iptf_3 (s : S) : F_is_program [prog 3 true false] s = .ok (.bl true) s := by kernel_rfl
theorem iptt_3 (s : S) : F_is_program [prog 3 true true] s = .ok (.bl true) s := by kernel_rfl
theorem cs_3 (x : IO) : ev (F_count_rows [strict, prog 3 false false] [x]) = some (.int 6, some x) := by kernel_rfl
theorem c0_3 (x : IO) : ev (F_count_rows [.tup [], prog 3 false false] [x]) = some (.int 24, some x) := by kernel_rfl
theorem rf_3 (x : IO) : ev (F_row_for [late, prog 3 false false, outD 3 0 0] [x]) = some (rowA, some x) := by kernel_rfl
theorem tb_3 (x : IO) : ev (F_told_by [late, prog 3 false false, rowB] [x]) = some (outD 3 0 0, some x) := by kernel_rfl
theorem eb_3 (x : IO) : ev (F_events_behind [.tup [], coreP 3, .tup []] [x]) = some (.tup [ev2 0 0, ev2 0 2], some x) := by kernel_rfl
theorem oc_3 (x : IO) : ev (F_outcomes_in [.tup [], coreP 3] [x]) = some (.lst [outC], some x) := by kernel_rfl
theorem cc_3 (x : IO) : ev (F_count_rows [.tup [], coreP 3] [x]) = some (.int 1, some x) := by kernel_rfl
theorem m1_3 (s : S) : F_must_be_done [.tup [], core 3, .int 0, .int 1] s = .ok (.bl true) s := by kernel_rfl
theorem m2_3 (s : S) : F_must_be_done [.tup [], core 3, .int 1, .int 2] s = .ok (.bl false) s := by kernel_rfl
theorem m3_3 (s : S) : F_must_be_done [.tup [T "gw"], core 3, .int 1, .int 2] s = .ok (.bl true) s := by kernel_rfl
theorem eq_3 (s : S) : eqD s (outD 3 0 0) (outD 3 0 0) = some true := by kernel_rfl
theorem facts_3 : Facts 3 where
  np := np_3
  np1 := np1_3
  npC := npC_3
  cs := cs_3
  c0 := c0_3
  rf := rf_3
  tb := tb_3
  eb := eb_3
  oc := oc_3
  cc := cc_3
  m1 := m1_3
  m2 := m2_3
  m3 := m3_3
  eq := eq_3
  ip := fun a b s => match a, b with
    | false, false => ipff_3 s
    | false, true => ipft_3 s
    | true, false => iptf_3 s
    | true, true => iptt_3 s
  pl := pl00_3
  lt := lt00_3
  s0 := fun x hx => si_gen (res := [outD 3 0 0]) hx (pl00_3 x) (lt00_3 x) rfl rfl (by decide) (by kernel_rfl)
  s1 := fun x hx => si_gen (res := [outD 3 0 0]) hx (pl10_3 x) (lt10_3 x) rfl rfl (by decide) (by kernel_rfl)
  s2 := fun x hx => si_gen (res := [outD 3 0 0]) hx (pl01_3 x) (lt01_3 x) rfl rfl (by decide) (by kernel_rfl)
  s3 := fun x hx => si_gen (res := []) hx (pl11_3 x) (lt11_3 x) rfl rfl (by decide) (by kernel_rfl)
  sS := fun x hx => si_gen (res := []) hx (pl00_3 x) (st_3 x) rfl rfl (by decide) (by kernel_rfl)
end G


set_option Elab.async false
set_option linter.all false
set_option maxRecDepth 1000000
set_option maxHeartbeats 0
namespace G
open PySem PySem.Spec L2 J
open PyProof.Rows
theorem pl00_4 (x : IO) : ev (F_outcomes_in [c_PLAIN, prog 4 false false] [x]) = some (.lst [outD 4 0 4, outD 4 4 0, outD 4 4 4], some x) := by kernel_rfl
theorem lt00_4 (x : IO) : ev (F_outcomes_in [late, prog 4 false false] [x]) = some (.lst [outD 4 0 0, outD 4 0 4, outD 4 4 0, outD 4 4 4], some x) := by kernel_rfl
theorem pl10_4 (x : IO) : ev (F_outcomes_in [c_PLAIN, prog 4 true false] [x]) = some (.lst [outD 4 0 4, outD 4 4 0, outD 4 4 4], some x) := by kernel_rfl
theorem lt10_4 (x : IO) : ev (F_outcomes_in [late, prog 4 true false] [x]) = some (.lst [outD 4 0 0, outD 4 0 4, outD 4 4 0, outD 4 4 4], some x) := by kernel_rfl
theorem pl01_4 (x : IO) : ev (F_outcomes_in [c_PLAIN, prog 4 false true] [x]) = some (.lst [outD 4 0 4, outD 4 4 0, outD 4 4 4], some x) := by kernel_rfl
theorem lt01_4 (x : IO) : ev (F_outcomes_in [late, prog 4 false true] [x]) = some (.lst [outD 4 0 0, outD 4 0 4, outD 4 4 0, outD 4 4 4], some x) := by kernel_rfl
theorem pl11_4 (x : IO) : ev (F_outcomes_in [c_PLAIN, prog 4 true true] [x]) = some (.lst [outD 4 0 4, outD 4 4 0, outD 4 4 4], some x) := by kernel_rfl
theorem lt11_4 (x : IO) : ev (F_outcomes_in [late, prog 4 true true] [x]) = some (.lst [outD 4 0 4, outD 4 4 0, outD 4 4 4], some x) := by kernel_rfl
theorem st_4 (x : IO) : ev (F_outcomes_in [strict, prog 4 false false] [x]) = some (.lst [outD 4 0 4, outD 4 4 0, outD 4 4 4], some x) := by kernel_rfl
theorem np_4 (s : S) : F_need_program [prog 4 false false] s = .ok .non s := by kernel_rfl
theorem np1_4 (s : S) : F_need_program [prog 4 true false] s = .ok .non s := by kernel_rfl
theorem npC_4 (s : S) : F_need_program [coreP 4] s = .ok .non s := by kernel_rfl
theorem ipff_4 (s : S) : F_is_program [prog 4 false false] s = .ok (.bl true) s := by kernel_rfl
theorem ipft_4 (s : S) : F_is_program [prog 4 false true] s = .ok (.bl true) s := by kernel_rfl
theorem iptf_4 (s : S) : F_is_program [prog 4 true false] s = .ok (.bl true) s := by kernel_rfl
theorem iptt_4 (s : S) : F_is_program [prog 4 true true] s = .ok (.bl true) s := by kernel_rfl
theorem cs_4 (x : IO) : ev (F_count_rows [strict, prog 4 false false] [x]) = some (.int 6, some x) := by kernel_rfl
theorem c0_4 (x : IO) : ev (F_count_rows [.tup [], prog 4 false false] [x]) = some (.int 24, some x) := by kernel_rfl
theorem rf_4 (x : IO) : ev (F_row_for [late, prog 4 false false, outD 4 0 0] [x]) = some (rowA, some x) := by kernel_rfl
theorem tb_4 (x : IO) : ev (F_told_by [late, prog 4 false false, rowB] [x]) = some (outD 4 0 0, some x) := by kernel_rfl
theorem eb_4 (x : IO) : ev (F_events_behind [.tup [], coreP 4, .tup []] [x]) = some (.tup [ev2 0 0, ev2 0 2], some x) := by kernel_rfl
theorem oc_4 (x : IO) : ev (F_outcomes_in [.tup [], coreP 4] [x]) = some (.lst [outC], some x) := by kernel_rfl
theorem cc_4 (x : IO) : ev (F_count_rows [.tup [], coreP 4] [x]) = some (.int 1, some x) := by kernel_rfl
theorem m1_4 (s : S) : F_must_be_done [.tup [], core 4, .int 0, .int 1] s = .ok (.bl true) s := by kernel_rfl
theorem m2_4 (s : S) : F_must_be_done [.tup [], core 4, .int 1, .int 2] s = .ok (.bl false) s := by kernel_rfl
theorem m3_4 (s : S) : F_must_be_done [.tup [T "gw"], core 4, .int 1, .int 2] s = .ok (.bl true) s := by kernel_rfl
theorem eq_4 (s : S) : eqD s (outD 4 0 0) (outD 4 0 0) = some true := by kernel_rfl
theorem facts_4 : Facts 4 where
  np := np_4
  np1 := np1_4
  npC := npC_4
  cs := cs_4
  c0 := c0_4
  rf := rf_4
  tb := tb_4
  eb := eb_4
  oc := oc_4
  cc := cc_4
  m1 := m1_4
  m2 := m2_4
  m3 := m3_4
  eq := eq_4
  ip := fun a b s => match a, b with
    | false, false => ipff_4 s
    | false, true => ipft_4 s
    | true, false => iptf_4 s
    | true, true => iptt_4 s
  pl := pl00_4
  lt := lt00_4
  s0 := fun x hx => si_gen (res := [outD 4 0 0]) hx (pl00_4 x) (lt00_4 x) rfl rfl (by decide) (by kernel_rfl)
  s1 := fun x hx => si_gen (res := [outD 4 0 0]) hx (pl10_4 x) (lt10_4 x) rfl rfl (by decide) (by kernel_rfl)
  s2 := fun x hx => si_gen (res := [outD 4 0 0]) hx (pl01_4 x) (lt01_4 x) rfl rfl (by decide) (by kernel_rfl)
  s3 := fun x hx => si_gen (res := []) hx (pl11_4 x) (lt11_4 x) rfl rfl (by decide) (by kernel_rfl)
  sS := fun x hx => si_gen (res := []) hx (pl00_4 x) (st_4 x) rfl rfl (by decide) (by kernel_rfl)
end G


set_option Elab.async false
set_option linter.all false
set_option maxRecDepth 1000000
set_option maxHeartbeats 0
namespace G
open PySem PySem.Spec L2 J
open PyProof.Rows
theorem pl00_5 (x : IO) : ev (F_outcomes_in [c_PLAIN, prog 5 false false] [x]) = some (.lst [outD 5 0 5, outD 5 5 0, outD 5 5 5], some x) := by kernel_rfl
theorem lt00_5 (x : IO) : ev (F_outcomes_in [late, prog 5 false false] [x]) = some (.lst [outD 5 0 0, outD 5 0 5, outD 5 5 0, outD 5 5 5], some x) := by kernel_rfl
theorem pl10_5 (x : IO) : ev (F_outcomes_in [c_PLAIN, prog 5 true false] [x]) = some (.lst [outD 5 0 5, outD 5 5 0, outD 5 5 5], some x) := by kernel_rfl
theorem lt10_5 (x : IO) : ev (F_outcomes_in [late, prog 5 true false] [x]) = some (.lst [outD 5 0 0, outD 5 0 5, outD 5 5 0, outD 5 5 5], some x) := by kernel_rfl
theorem pl01_5 (x : IO) : ev (F_outcomes_in [c_PLAIN, prog 5 false true] [x]) = some (.lst [outD 5 0 5, outD 5 5 0, outD 5 5 5], some x) := by kernel_rfl
theorem lt01_5 (x : IO) : ev (F_outcomes_in [late, prog 5 false true] [x]) = some (.lst [outD 5 0 0, outD 5 0 5, outD 5 5 0, outD 5 5 5], some x) := by kernel_rfl
theorem pl11_5 (x : IO) : ev (F_outcomes_in [c_PLAIN, prog 5 true true] [x]) = some (.lst [outD 5 0 5, outD 5 5 0, outD 5 5 5], some x) := by kernel_rfl
theorem lt11_5 (x : IO) : ev (F_outcomes_in [late, prog 5 true true] [x]) = some (.lst [outD 5 0 5, outD 5 5 0, outD 5 5 5], some x) := by kernel_rfl
theorem st_5 (x : IO) : ev (F_outcomes_in [strict, prog 5 false false] [x]) = some (.lst [outD 5 0 5, outD 5 5 0, outD 5 5 5], some x) := by kernel_rfl
theorem np_5 (s : S) : F_need_program [prog 5 false false] s = .ok .non s := by kernel_rfl
theorem np1_5 (s : S) : F_need_program [prog 5 true false] s = .ok .non s := by kernel_rfl
theorem npC_5 (s : S) : F_need_program [coreP 5] s = .ok .non s := by kernel_rfl
theorem ipff_5 (s : S) : F_is_program [prog 5 false false] s = .ok (.bl true) s := by kernel_rfl
theorem ipft_5 (s : S) : F_is_program [prog 5 false true] s = .ok (.bl true) s := by kernel_rfl
theorem iptf_5 (s : S) : F_is_program [prog 5 true false] s = .ok (.bl true) s := by kernel_rfl
theorem iptt_5 (s : S) : F_is_program [prog 5 true true] s = .ok (.bl true) s := by kernel_rfl
theorem cs_5 (x : IO) : ev (F_count_rows [strict, prog 5 false false] [x]) = some (.int 6, some x) := by kernel_rfl
theorem c0_5 (x : IO) : ev (F_count_rows [.tup [], prog 5 false false] [x]) = some (.int 24, some x) := by kernel_rfl
theorem rf_5 (x : IO) : ev (F_row_for [late, prog 5 false false, outD 5 0 0] [x]) = some (rowA, some x) := by kernel_rfl
theorem tb_5 (x : IO) : ev (F_told_by [late, prog 5 false false, rowB] [x]) = some (outD 5 0 0, some x) := by kernel_rfl
theorem eb_5 (x : IO) : ev (F_events_behind [.tup [], coreP 5, .tup []] [x]) = some (.tup [ev2 0 0, ev2 0 2], some x) := by kernel_rfl
theorem oc_5 (x : IO) : ev (F_outcomes_in [.tup [], coreP 5] [x]) = some (.lst [outC], some x) := by kernel_rfl
theorem cc_5 (x : IO) : ev (F_count_rows [.tup [], coreP 5] [x]) = some (.int 1, some x) := by kernel_rfl
theorem m1_5 (s : S) : F_must_be_done [.tup [], core 5, .int 0, .int 1] s = .ok (.bl true) s := by kernel_rfl
theorem m2_5 (s : S) : F_must_be_done [.tup [], core 5, .int 1, .int 2] s = .ok (.bl false) s := by kernel_rfl
theorem m3_5 (s : S) : F_must_be_done [.tup [T "gw"], core 5, .int 1, .int 2] s = .ok (.bl true) s := by kernel_rfl
theorem eq_5 (s : S) : eqD s (outD 5 0 0) (outD 5 0 0) = some true := by kernel_rfl
theorem facts_5 : Facts 5 where
  np := np_5
  np1 := np1_5
  npC := npC_5
  cs := cs_5
  c0 := c0_5
  rf := rf_5
  tb := tb_5
  eb := eb_5
  oc := oc_5
  cc := cc_5
  m1 := m1_5
  m2 := m2_5
  m3 := m3_5
  eq := eq_5
  ip := fun a b s => match a, b with
    | false, false => ipff_5 s
    | false, true => ipft_5 s
    | true, false => iptf_5 s
    | true, true => iptt_5 s
  pl := pl00_5
  lt := lt00_5
  s0 := fun x hx => si_gen (res := [outD 5 0 0]) hx (pl00_5 x) (lt00_5 x) rfl rfl (by decide) (by kernel_rfl)
  s1 := fun x hx => si_gen (res := [outD 5 0 0]) hx (pl10_5 x) (lt10_5 x) rfl rfl (by decide) (by kernel_rfl)
  s2 := fun x hx => si_gen (res := [outD 5 0 0]) hx (pl01_5 x) (lt01_5 x) rfl rfl (by decide) (by kernel_rfl)
  s3 := fun x hx => si_gen (res := []) hx (pl11_5 x) (lt11_5 x) rfl rfl (by decide) (by kernel_rfl)
  sS := fun x hx => si_gen (res := []) hx (pl00_5 x) (st_5 x) rfl rfl (by decide) (by kernel_rfl)
end G


set_option Elab.async false
set_option linter.all false
set_option maxRecDepth 1000000
set_option maxHeartbeats 0
namespace G
open PySem PySem.Spec L2 J
open PyProof.Rows
theorem pl00_6 (x : IO) : ev (F_outcomes_in [c_PLAIN, prog 6 false false] [x]) = some (.lst [outD 6 0 6, outD 6 6 0, outD 6 6 6], some x) := by kernel_rfl
theorem lt00_6 (x : IO) : ev (F_outcomes_in [late, prog 6 false false] [x]) = some (.lst [outD 6 0 0, outD 6 0 6, outD 6 6 0, outD 6 6 6], some x) := by kernel_rfl
theorem pl10_6 (x : IO) : ev (F_outcomes_in [c_PLAIN, prog 6 true false] [x]) = some (.lst [outD 6 0 6, outD 6 6 0, outD 6 6 6], some x) := by kernel_rfl
theorem lt10_6 (x : IO) : ev (F_outcomes_in [late, prog 6 true false] [x]) = some (.lst [outD 6 0 0, outD 6 0 6, outD 6 6 0, outD 6 6 6], some x) := by kernel_rfl
theorem pl01_6 (x : IO) : ev (F_outcomes_in [c_PLAIN, prog 6 false true] [x]) = some (.lst [outD 6 0 6, outD 6 6 0, outD 6 6 6], some x) := by kernel_rfl
theorem lt01_6 (x : IO) : ev (F_outcomes_in [late, prog 6 false true] [x]) = some (.lst [outD 6 0 0, outD 6 0 6, outD 6 6 0, outD 6 6 6], some x) := by kernel_rfl
theorem pl11_6 (x : IO) : ev (F_outcomes_in [c_PLAIN, prog 6 true true] [x]) = some (.lst [outD 6 0 6, outD 6 6 0, outD 6 6 6], some x) := by kernel_rfl
theorem lt11_6 (x : IO) : ev (F_outcomes_in [late, prog 6 true true] [x]) = some (.lst [outD 6 0 6, outD 6 6 0, outD 6 6 6], some x) := by kernel_rfl
theorem st_6 (x : IO) : ev (F_outcomes_in [strict, prog 6 false false] [x]) = some (.lst [outD 6 0 6, outD 6 6 0, outD 6 6 6], some x) := by kernel_rfl
theorem np_6 (s : S) : F_need_program [prog 6 false false] s = .ok .non s := by kernel_rfl
theorem np1_6 (s : S) : F_need_program [prog 6 true false] s = .ok .non s := by kernel_rfl
theorem npC_6 (s : S) : F_need_program [coreP 6] s = .ok .non s := by kernel_rfl
theorem ipff_6 (s : S) : F_is_program [prog 6 false false] s = .ok (.bl true) s := by kernel_rfl
theorem ipft_6 (s : S) : F_is_program [prog 6 false true] s = .ok (.bl true) s := by kernel_rfl
theorem iptf_6 (s : S) : F_is_program [prog 6 true false] s = .ok (.bl true) s := by kernel_rfl
theorem iptt_6 (s : S) : F_is_program [prog 6 true true] s = .ok (.bl true) s := by kernel_rfl
theorem cs_6 (x : IO) : ev (F_count_rows [strict, prog 6 false false] [x]) = some (.int 6, some x) := by kernel_rfl
theorem c0_6 (x : IO) : ev (F_count_rows [.tup [], prog 6 false false] [x]) = some (.int 24, some x) := by kernel_rfl
theorem rf_6 (x : IO) : ev (F_row_for [late, prog 6 false false, outD 6 0 0] [x]) = some (rowA, some x) := by kernel_rfl
theorem tb_6 (x : IO) : ev (F_told_by [late, prog 6 false false, rowB] [x]) = some (outD 6 0 0, some x) := by kernel_rfl
theorem eb_6 (x : IO) : ev (F_events_behind [.tup [], coreP 6, .tup []] [x]) = some (.tup [ev2 0 0, ev2 0 2], some x) := by kernel_rfl
theorem oc_6 (x : IO) : ev (F_outcomes_in [.tup [], coreP 6] [x]) = some (.lst [outC], some x) := by kernel_rfl
theorem cc_6 (x : IO) : ev (F_count_rows [.tup [], coreP 6] [x]) = some (.int 1, some x) := by kernel_rfl
theorem m1_6 (s : S) : F_must_be_done [.tup [], core 6, .int 0, .int 1] s = .ok (.bl true) s := by kernel_rfl
theorem m2_6 (s : S) : F_must_be_done [.tup [], core 6, .int 1, .int 2] s = .ok (.bl false) s := by kernel_rfl
theorem m3_6 (s : S) : F_must_be_done [.tup [T "gw"], core 6, .int 1, .int 2] s = .ok (.bl true) s := by kernel_rfl
theorem eq_6 (s : S) : eqD s (outD 6 0 0) (outD 6 0 0) = some true := by kernel_rfl
theorem facts_6 : Facts 6 where
  np := np_6
  np1 := np1_6
  npC := npC_6
  cs := cs_6
  c0 := c0_6
  rf := rf_6
  tb := tb_6
  eb := eb_6
  oc := oc_6
  cc := cc_6
  m1 := m1_6
  m2 := m2_6
  m3 := m3_6
  eq := eq_6
  ip := fun a b s => match a, b with
    | false, false => ipff_6 s
    | false, true => ipft_6 s
    | true, false => iptf_6 s
    | true, true => iptt_6 s
  pl := pl00_6
  lt := lt00_6
  s0 := fun x hx => si_gen (res := [outD 6 0 0]) hx (pl00_6 x) (lt00_6 x) rfl rfl (by decide) (by kernel_rfl)
  s1 := fun x hx => si_gen (res := [outD 6 0 0]) hx (pl10_6 x) (lt10_6 x) rfl rfl (by decide) (by kernel_rfl)
  s2 := fun x hx => si_gen (res := [outD 6 0 0]) hx (pl01_6 x) (lt01_6 x) rfl rfl (by decide) (by kernel_rfl)
  s3 := fun x hx => si_gen (res := []) hx (pl11_6 x) (lt11_6 x) rfl rfl (by decide) (by kernel_rfl)
  sS := fun x hx => si_gen (res := []) hx (pl00_6 x) (st_6 x) rfl rfl (by decide) (by kernel_rfl)
end G


set_option Elab.async false
set_option linter.all false
set_option maxRecDepth 1000000
set_option maxHeartbeats 0
namespace G
open PySem PySem.Spec L2 J
open PyProof.Rows
theorem pl00_7 (x : IO) : ev (F_outcomes_in [c_PLAIN, prog 7 false false] [x]) = some (.lst [outD 7 0 7, outD 7 7 0, outD 7 7 7], some x) := by kernel_rfl
theorem lt00_7 (x : IO) : ev (F_outcomes_in [late, prog 7 false false] [x]) = some (.lst [outD 7 0 0, outD 7 0 7, outD 7 7 0, outD 7 7 7], some x) := by kernel_rfl
theorem pl10_7 (x : IO) : ev (F_outcomes_in [c_PLAIN, prog 7 true false] [x]) = some (.lst [outD 7 0 7, outD 7 7 0, outD 7 7 7], some x) := by kernel_rfl
theorem lt10_7 (x : IO) : ev (F_outcomes_in [late, prog 7 true false] [x]) = some (.lst [outD 7 0 0, outD 7 0 7, outD 7 7 0, outD 7 7 7], some x) := by kernel_rfl
theorem pl01_7 (x : IO) : ev (F_outcomes_in [c_PLAIN, prog 7 false true] [x]) = some (.lst [outD 7 0 7, outD 7 7 0, outD 7 7 7], some x) := by kernel_rfl
theorem lt01_7 (x : IO) : ev (F_outcomes_in [late, prog 7 false true] [x]) = some (.lst [outD 7 0 0, outD 7 0 7, outD 7 7 0, outD 7 7 7], some x) := by kernel_rfl
theorem pl11_7 (x : IO) : ev (F_outcomes_in [c_PLAIN, prog 7 true true] [x]) = some (.lst [outD 7 0 7, outD 7 7 0, outD 7 7 7], some x) := by kernel_rfl
theorem lt11_7 (x : IO) : ev (F_outcomes_in [late, prog 7 true true] [x]) = some (.lst [outD 7 0 7, outD 7 7 0, outD 7 7 7], some x) := by kernel_rfl
theorem st_7 (x : IO) : ev (F_outcomes_in [strict, prog 7 false false] [x]) = some (.lst [outD 7 0 7, outD 7 7 0, outD 7 7 7], some x) := by kernel_rfl
theorem np_7 (s : S) : F_need_program [prog 7 false false] s = .ok .non s := by kernel_rfl
theorem np1_7 (s : S) : F_need_program [prog 7 true false] s = .ok .non s := by kernel_rfl
theorem npC_7 (s : S) : F_need_program [coreP 7] s = .ok .non s := by kernel_rfl
theorem ipff_7 (s : S) : F_is_program [prog 7 false false] s = .ok (.bl true) s := by kernel_rfl
theorem ipft_7 (s : S) : F_is_program [prog 7 false true] s = .ok (.bl true) s := by kernel_rfl
theorem iptf_7 (s : S) : F_is_program [prog 7 true false] s = .ok (.bl true) s := by kernel_rfl
theorem iptt_7 (s : S) : F_is_program [prog 7 true true] s = .ok (.bl true) s := by kernel_rfl
theorem cs_7 (x : IO) : ev (F_count_rows [strict, prog 7 false false] [x]) = some (.int 6, some x) := by kernel_rfl
theorem c0_7 (x : IO) : ev (F_count_rows [.tup [], prog 7 false false] [x]) = some (.int 24, some x) := by kernel_rfl
theorem rf_7 (x : IO) : ev (F_row_for [late, prog 7 false false, outD 7 0 0] [x]) = some (rowA, some x) := by kernel_rfl
theorem tb_7 (x : IO) : ev (F_told_by [late, prog 7 false false, rowB] [x]) = some (outD 7 0 0, some x) := by kernel_rfl
theorem eb_7 (x : IO) : ev (F_events_behind [.tup [], coreP 7, .tup []] [x]) = some (.tup [ev2 0 0, ev2 0 2], some x) := by kernel_rfl
theorem oc_7 (x : IO) : ev (F_outcomes_in [.tup [], coreP 7] [x]) = some (.lst [outC], some x) := by kernel_rfl
theorem cc_7 (x : IO) : ev (F_count_rows [.tup [], coreP 7] [x]) = some (.int 1, some x) := by kernel_rfl
theorem m1_7 (s : S) : F_must_be_done [.tup [], core 7, .int 0, .int 1] s = .ok (.bl true) s := by kernel_rfl
theorem m2_7 (s : S) : F_must_be_done [.tup [], core 7, .int 1, .int 2] s = .ok (.bl false) s := by kernel_rfl
theorem m3_7 (s : S) : F_must_be_done [.tup [T "gw"], core 7, .int 1, .int 2] s = .ok (.bl true) s := by kernel_rfl
theorem eq_7 (s : S) : eqD s (outD 7 0 0) (outD 7 0 0) = some true := by kernel_rfl
theorem facts_7 : Facts 7 where
  np := np_7
  np1 := np1_7
  npC := npC_7
  cs := cs_7
  c0 := c0_7
  rf := rf_7
  tb := tb_7
  eb := eb_7
  oc := oc_7
  cc := cc_7
  m1 := m1_7
  m2 := m2_7
  m3 := m3_7
  eq := eq_7
  ip := fun a b s => match a, b with
    | false, false => ipff_7 s
    | false, true => ipft_7 s
    | true, false => iptf_7 s
    | true, true => iptt_7 s
  pl := pl00_7
  lt := lt00_7
  s0 := fun x hx => si_gen (res := [outD 7 0 0]) hx (pl00_7 x) (lt00_7 x) rfl rfl (by decide) (by kernel_rfl)
  s1 := fun x hx => si_gen (res := [outD 7 0 0]) hx (pl10_7 x) (lt10_7 x) rfl rfl (by decide) (by kernel_rfl)
  s2 := fun x hx => si_gen (res := [outD 7 0 0]) hx (pl01_7 x) (lt01_7 x) rfl rfl (by decide) (by kernel_rfl)
  s3 := fun x hx => si_gen (res := []) hx (pl11_7 x) (lt11_7 x) rfl rfl (by decide) (by kernel_rfl)
  sS := fun x hx => si_gen (res := []) hx (pl00_7 x) (st_7 x) rfl rfl (by decide) (by kernel_rfl)
end G


set_option Elab.async false
set_option linter.all false
set_option maxRecDepth 1000000
set_option maxHeartbeats 0
namespace G
open PySem PySem.Spec L2 J
open PyProof.Rows
theorem pl00_8 (x : IO) : ev (F_outcomes_in [c_PLAIN, prog 8 false false] [x]) = some (.lst [outD 8 0 8, outD 8 8 0, outD 8 8 8], some x) := by kernel_rfl
theorem lt00_8 (x : IO) : ev (F_outcomes_in [late, prog 8 false false] [x]) = some (.lst [outD 8 0 0, outD 8 0 8, outD 8 8 0, outD 8 8 8], some x) := by kernel_rfl
theorem pl10_8 (x : IO) : ev (F_outcomes_in [c_PLAIN, prog 8 true false] [x]) = some (.lst [outD 8 0 8, outD 8 8 0, outD 8 8 8], some x) := by kernel_rfl
theorem lt10_8 (x : IO) : ev (F_outcomes_in [late, prog 8 true false] [x]) = some (.lst [outD 8 0 0, outD 8 0 8, outD 8 8 0, outD 8 8 8], some x) := by kernel_rfl
theorem pl01_8 (x : IO) : ev (F_outcomes_in [c_PLAIN, prog 8 false true] [x]) = some (.lst [outD 8 0 8, outD 8 8 0, outD 8 8 8], some x) := by kernel_rfl
theorem lt01_8 (x : IO) : ev (F_outcomes_in [late, prog 8 false true] [x]) = some (.lst [outD 8 0 0, outD 8 0 8, outD 8 8 0, outD 8 8 8], some x) := by kernel_rfl
theorem pl11_8 (x : IO) : ev (F_outcomes_in [c_PLAIN, prog 8 true true] [x]) = some (.lst [outD 8 0 8, outD 8 8 0, outD 8 8 8], some x) := by kernel_rfl
theorem lt11_8 (x : IO) : ev (F_outcomes_in [late, prog 8 true true] [x]) = some (.lst [outD 8 0 8, outD 8 8 0, outD 8 8 8], some x) := by kernel_rfl
theorem st_8 (x : IO) : ev (F_outcomes_in [strict, prog 8 false false] [x]) = some (.lst [outD 8 0 8, outD 8 8 0, outD 8 8 8], some x) := by kernel_rfl
theorem np_8 (s : S) : F_need_program [prog 8 false false] s = .ok .non s := by kernel_rfl
theorem np1_8 (s : S) : F_need_program [prog 8 true false] s = .ok .non s := by kernel_rfl
theorem npC_8 (s : S) : F_need_program [coreP 8] s = .ok .non s := by kernel_rfl
theorem ipff_8 (s : S) : F_is_program [prog 8 false false] s = .ok (.bl true) s := by kernel_rfl
theorem ipft_8 (s : S) : F_is_program [prog 8 false true] s = .ok (.bl true) s := by kernel_rfl
theorem iptf_8 (s : S) : F_is_program [prog 8 true false] s = .ok (.bl true) s := by kernel_rfl
theorem iptt_8 (s : S) : F_is_program [prog 8 true true] s = .ok (.bl true) s := by kernel_rfl
theorem cs_8 (x : IO) : ev (F_count_rows [strict, prog 8 false false] [x]) = some (.int 6, some x) := by kernel_rfl
theorem c0_8 (x : IO) : ev (F_count_rows [.tup [], prog 8 false false] [x]) = some (.int 24, some x) := by kernel_rfl
theorem rf_8 (x : IO) : ev (F_row_for [late, prog 8 false false, outD 8 0 0] [x]) = some (rowA, some x) := by kernel_rfl
theorem tb_8 (x : IO) : ev (F_told_by [late, prog 8 false false, rowB] [x]) = some (outD 8 0 0, some x) := by kernel_rfl
theorem eb_8 (x : IO) : ev (F_events_behind [.tup [], coreP 8, .tup []] [x]) = some (.tup [ev2 0 0, ev2 0 2], some x) := by kernel_rfl
theorem oc_8 (x : IO) : ev (F_outcomes_in [.tup [], coreP 8] [x]) = some (.lst [outC], some x) := by kernel_rfl
theorem cc_8 (x : IO) : ev (F_count_rows [.tup [], coreP 8] [x]) = some (.int 1, some x) := by kernel_rfl
theorem m1_8 (s : S) : F_must_be_done [.tup [], core 8, .int 0, .int 1] s = .ok (.bl true) s := by kernel_rfl
theorem m2_8 (s : S) : F_must_be_done [.tup [], core 8, .int 1, .int 2] s = .ok (.bl false) s := by kernel_rfl
theorem m3_8 (s : S) : F_must_be_done [.tup [T "gw"], core 8, .int 1, .int 2] s = .ok (.bl true) s := by kernel_rfl
theorem eq_8 (s : S) : eqD s (outD 8 0 0) (outD 8 0 0) = some true := by kernel_rfl
theorem facts_8 : Facts 8 where
  np := np_8
  np1 := np1_8
  npC := npC_8
  cs := cs_8
  c0 := c0_8
  rf := rf_8
  tb := tb_8
  eb := eb_8
  oc := oc_8
  cc := cc_8
  m1 := m1_8
  m2 := m2_8
  m3 := m3_8
  eq := eq_8
  ip := fun a b s => match a, b with
    | false, false => ipff_8 s
    | false, true => ipft_8 s
    | true, false => iptf_8 s
    | true, true => iptt_8 s
  pl := pl00_8
  lt := lt00_8
  s0 := fun x hx => si_gen (res := [outD 8 0 0]) hx (pl00_8 x) (lt00_8 x) rfl rfl (by decide) (by kernel_rfl)
  s1 := fun x hx => si_gen (res := [outD 8 0 0]) hx (pl10_8 x) (lt10_8 x) rfl rfl (by decide) (by kernel_rfl)
  s2 := fun x hx => si_gen (res := [outD 8 0 0]) hx (pl01_8 x) (lt01_8 x) rfl rfl (by decide) (by kernel_rfl)
  s3 := fun x hx => si_gen (res := []) hx (pl11_8 x) (lt11_8 x) rfl rfl (by decide) (by kernel_rfl)
  sS := fun x hx => si_gen (res := []) hx (pl00_8 x) (st_8 x) rfl rfl (by decide) (by kernel_rfl)
end G


set_option Elab.async false
set_option linter.all false
set_option maxRecDepth 1000000
set_option maxHeartbeats 0
namespace G
open PySem PySem.Spec L2 J
open PyProof.Rows
theorem pl00_9 (x : IO) : ev (F_outcomes_in [c_PLAIN, prog 9 false false] [x]) = some (.lst [outD 9 0 9, outD 9 9 0, outD 9 9 9], some x) := by kernel_rfl
theorem lt00_9 (x : IO) : ev (F_outcomes_in [late, prog 9 false false] [x]) = some (.lst [outD 9 0 0, outD 9 0 9, outD 9 9 0, outD 9 9 9], some x) := by kernel_rfl
theorem pl10_9 (x : IO) : ev (F_outcomes_in [c_PLAIN, prog 9 true false] [x]) = some (.lst [outD 9 0 9, outD 9 9 0, outD 9 9 9], some x) := by kernel_rfl
theorem lt10_9 (x : IO) : ev (F_outcomes_in [late, prog 9 true false] [x]) = some (.lst [outD 9 0 0, outD 9 0 9, outD 9 9 0, outD 9 9 9], some x) := by kernel_rfl
theorem pl01_9 (x : IO) : ev (F_outcomes_in [c_PLAIN, prog 9 false true] [x]) = some (.lst [outD 9 0 9, outD 9 9 0, outD 9 9 9], some x) := by kernel_rfl
theorem lt01_9 (x : IO) : ev (F_outcomes_in [late, prog 9 false true] [x]) = some (.lst [outD 9 0 0, outD 9 0 9, outD 9 9 0, outD 9 9 9], some x) := by kernel_rfl
theorem pl11_9 (x : IO) : ev (F_outcomes_in [c_PLAIN, prog 9 true true] [x]) = some (.lst [outD 9 0 9, outD 9 9 0, outD 9 9 9], some x) := by kernel_rfl
theorem lt11_9 (x : IO) : ev (F_outcomes_in [late, prog 9 true true] [x]) = some (.lst [outD 9 0 9, outD 9 9 0, outD 9 9 9], some x) := by kernel_rfl
theorem st_9 (x : IO) : ev (F_outcomes_in [strict, prog 9 false false] [x]) = some (.lst [outD 9 0 9, outD 9 9 0, outD 9 9 9], some x) := by kernel_rfl
theorem np_9 (s : S) : F_need_program [prog 9 false false] s = .ok .non s := by kernel_rfl
theorem np1_9 (s : S) : F_need_program [prog 9 true false] s = .ok .non s := by kernel_rfl
theorem npC_9 (s : S) : F_need_program [coreP 9] s = .ok .non s := by kernel_rfl
theorem ipff_9 (s : S) : F_is_program [prog 9 false false] s = .ok (.bl true) s := by kernel_rfl
theorem ipft_9 (s : S) : F_is_program [prog 9 false true] s = .ok (.bl true) s := by kernel_rfl
theorem iptf_9 (s : S) : F_is_program [prog 9 true false] s = .ok (.bl true) s := by kernel_rfl
theorem iptt_9 (s : S) : F_is_program [prog 9 true true] s = .ok (.bl true) s := by kernel_rfl
theorem cs_9 (x : IO) : ev (F_count_rows [strict, prog 9 false false] [x]) = some (.int 6, some x) := by kernel_rfl
theorem c0_9 (x : IO) : ev (F_count_rows [.tup [], prog 9 false false] [x]) = some (.int 24, some x) := by kernel_rfl
theorem rf_9 (x : IO) : ev (F_row_for [late, prog 9 false false, outD 9 0 0] [x]) = some (rowA, some x) := by kernel_rfl
theorem tb_9 (x : IO) : ev (F_told_by [late, prog 9 false false, rowB] [x]) = some (outD 9 0 0, some x) := by kernel_rfl
theorem eb_9 (x : IO) : ev (F_events_behind [.tup [], coreP 9, .tup []] [x]) = some (.tup [ev2 0 0, ev2 0 2], some x) := by kernel_rfl
theorem oc_9 (x : IO) : ev (F_outcomes_in [.tup [], coreP 9] [x]) = some (.lst [outC], some x) := by kernel_rfl
theorem cc_9 (x : IO) : ev (F_count_rows [.tup [], coreP 9] [x]) = some (.int 1, some x) := by kernel_rfl
theorem m1_9 (s : S) : F_must_be_done [.tup [], core 9, .int 0, .int 1] s = .ok (.bl true) s := by kernel_rfl
theorem m2_9 (s : S) : F_must_be_done [.tup [], core 9, .int 1, .int 2] s = .ok (.bl false) s := by kernel_rfl
theorem m3_9 (s : S) : F_must_be_done [.tup [T "gw"], core 9, .int 1, .int 2] s = .ok (.bl true) s := by kernel_rfl
theorem eq_9 (s : S) : eqD s (outD 9 0 0) (outD 9 0 0) = some true := by kernel_rfl
theorem facts_9 : Facts 9 where
  np := np_9
  np1 := np1_9
  npC := npC_9
  cs := cs_9
  c0 := c0_9
  rf := rf_9
  tb := tb_9
  eb := eb_9
  oc := oc_9
  cc := cc_9
  m1 := m1_9
  m2 := m2_9
  m3 := m3_9
  eq := eq_9
  ip := fun a b s => match a, b with
    | false, false => ipff_9 s
    | false, true => ipft_9 s
    | true, false => iptf_9 s
    | true, true => iptt_9 s
  pl := pl00_9
  lt := lt00_9
  s0 := fun x hx => si_gen (res := [outD 9 0 0]) hx (pl00_9 x) (lt00_9 x) rfl rfl (by decide) (by kernel_rfl)
  s1 := fun x hx => si_gen (res := [outD 9 0 0]) hx (pl10_9 x) (lt10_9 x) rfl rfl (by decide) (by kernel_rfl)
  s2 := fun x hx => si_gen (res := [outD 9 0 0]) hx (pl01_9 x) (lt01_9 x) rfl rfl (by decide) (by kernel_rfl)
  s3 := fun x hx => si_gen (res := []) hx (pl11_9 x) (lt11_9 x) rfl rfl (by decide) (by kernel_rfl)
  sS := fun x hx => si_gen (res := []) hx (pl00_9 x) (st_9 x) rfl rfl (by decide) (by kernel_rfl)
end G


set_option Elab.async false
set_option linter.all false
set_option maxRecDepth 100000
set_option maxHeartbeats 4000000
/-! P13: the law. -/
namespace G
open PySem PySem.Spec L2 J
open PyProof.Rows
theorem facts (n : Int) (h1 : 1 ≤ n) (h9 : n < 10) : Facts n := by
  have : n = 1 ∨ n = 2 ∨ n = 3 ∨ n = 4 ∨ n = 5 ∨ n = 6 ∨ n = 7 ∨ n = 8 ∨ n = 9 := by omega
  rcases this with rfl | rfl | rfl | rfl | rfl | rfl | rfl | rfl | rfl
  · exact facts_1
  · exact facts_2
  · exact facts_3
  · exact facts_4
  · exact facts_5
  · exact facts_6
  · exact facts_7
  · exact facts_8
  · exact facts_9
theorem seq_ex {a b : GS} {ρ ρ1 : J.Env} {s s1 : S} {r : S → R Fl} (h : a ρ s = .ok (.nx ρ1) s1) (k : ∃ s', b ρ1 s1 = r s') : ∃ s', sSeq a b ρ s = r s' := by
  obtain ⟨s', k⟩ := k
  exact ⟨s', by simp [h, k]⟩
theorem is_t : isD (.bl true) (.bl true) = some true := by decide +kernel
theorem is_f : isD (.bl false) (.bl false) = some true := by decide +kernel
theorem is_n : isD .non .non = some true := by decide +kernel
theorem closed_row (ns : List Int) (i : Nat) (a b : Int) : closedO 1 (rowL ns i a b) = true := by
  simp [rowL, closedO, closedL, closedD, closedL_map 1 D.int (fun _ => rfl)]
/-- a condition that does not hold is passed -/
theorem ne_no {g k : GE} {d : D} {ρ : J.Env} {s : S} (h : g ρ s = .ok d s) (hk : k ρ s = .ok d s) (e : eqD s d d = some true) : gB (gOp2 fNe g k) ρ s = .ok false s := by
  simp [h, hk, e]
theorem is_no {g : GE} {d : D} {ρ : J.Env} {s : S} (h : g ρ s = .ok d s) (e : isD d d = some true) : gB (gOp2 fIsN g (gC d)) ρ s = .ok false s := by
  simp [h, e]
theorem or_no {p q : GT} {ρ : J.Env} {s : S} (h : p ρ s = .ok false s) (k : q ρ s = .ok false s) : gOr p q ρ s = .ok false s := by simp [h, k]
theorem if_no {p : GT} {a : GS} {ρ : J.Env} {s : S} (h : p ρ s = .ok false s) : sIf p a sNext ρ s = .ok (.nx ρ) s := by simp [h]
theorem len_of {g : GE} {ds : List D} {m : Int} {ρ : J.Env} {s : S} (h : g ρ s = .ok (.tup ds) s) (e : (ds.length : Int) = m) : gF (f1 fLen) (gaCons g gaNil) ρ s = .ok (.int m) s := by
  simp [h, e]
theorem for_evL {g : GE} {ρ : J.Env} {m : Nat} {x : IO} (hx : closedO 1 x = true) (h : evL (g ρ [x]) = some (m, some x, true)) : ∃ ds : List D, gFor g ρ [x] = .ok (.tup ds) [x] ∧ ds.length = m := by
  obtain ⟨ds, v, e, e2, e3⟩ := of_evL h
  exact ⟨ds, gFor_ok e e3 (closed1 hx), e2⟩
theorem eqI (s : S) (i : Int) : eqD s (.int i) (.int i) = some true := by simp
theorem plain (ns : List Int) (h : ns.length ≤ 63) : ∃ s', F_law [.frz (ns.map D.int)] [] = .ok (.bl true) s' := by
  have r0 : RowS ns [] (rowL ns 0 14253 0 :: []) := ⟨0, 14253, 0, by decide, by decide, rfl⟩
  obtain ⟨m, s1, e1, m0, m1, r1⟩ := taken_ok 9 (by decide) (by decide) r0
  obtain ⟨i1, a1, b1, ha1, hb1, rfl⟩ := r1
  have F : Facts (1 + m) := facts _ (by omega) (by omega)
  have hx := closed_row ns i1 a1 b1
  generalize rowL ns i1 a1 b1 = x at e1 hx
  suffices hs : ∃ s', b_law [some (.frz (ns.map D.int)), none, none, none, none, none, none, none] [] = .ok (.rt (.bl true)) s' by
    obtain ⟨s', hs⟩ := hs
    exact ⟨s', by simp [F_law, hs]⟩
  unfold b_law
  refine seq_ex (ρ1 := [some (.frz (ns.map D.int)), some (.obj 0), none, none, none, none, none, none]) (s1 := [rowL ns 0 14253 0]) (by simp; rfl) ?_
  refine seq_ex (ρ1 := [some (.frz (ns.map D.int)), some (.obj 0), some (.int (1 + m)), none, none, none, none, none]) (s1 := [x]) (by simp [e1, fAdd]) ?_
  generalize 1 + m = n at F
  generalize D.frz (ns.map D.int) = fz
  refine seq_ex (ρ1 := [some fz, some (.obj 0), some (.int n), some late, none, none, none, none]) (s1 := [x]) (by kernel_rfl) ?_
  refine seq_ex (ρ1 := [some fz, some (.obj 0), some (.int n), some late, some strict, none, none, none]) (s1 := [x]) (by kernel_rfl) ?_
  refine seq_ex (ρ1 := [some fz, some (.obj 0), some (.int n), some late, some strict, some (prog n false false), none, none]) (s1 := [x]) (by kernel_rfl) ?_
  refine seq_ex (ρ1 := [some fz, some (.obj 0), some (.int n), some late, some strict, some (prog n false false), some (outD n 0 0), none]) (s1 := [x]) (by kernel_rfl) ?_
  refine seq_ex (if_no (or_no (ne_no (d := outD n 0 0) (for_same hx (by simp [strange_ok F hx]) rfl) (by simp) (F.eq _))
    (or_no (is_no (for_same hx (by simp [isp_ok ndS F.np hx (F.sS x hx) rfl (b := true) (by kernel_rfl)]) rfl) is_t)
      (ne_no (d := .int 3) (len_of (for_same hx (by simp only [ap_call, ap_cons, ap_var, ap_nil]; simp [po_ok F hx]; rfl) rfl) rfl) (by simp) (eqI _ _))))) ?_
  refine seq_ex (if_no (or_no (ne_no (d := .int 4) (len_of (for_same hx (by simp [oc_ok ndL F.np hx (F.lt x) rfl]; rfl) rfl) rfl) (by simp) (eqI _ _))
    (or_no (ne_no (d := .int 6) (for_ev hx (by simpa using F.cs x) rfl) (by simp) (eqI _ _))
      (ne_no (d := .int 24) (for_ev hx (by simpa using F.c0 x) rfl) (by simp) (eqI _ _))))) ?_
  refine seq_ex (if_no (or_no (ne_no (d := rowA) (for_ev hx (by simpa using F.rf x) rfl) (by simp [rowA, ev2]) (by kernel_rfl))
    (ne_no (d := outD n 0 0) (for_ev hx (by simpa [rowB, ev2] using F.tb x) rfl) (by simp) (F.eq _)))) ?_
  have kF : gFor (gCall 2 F_fenced (gaCons (gVar 5) (gaCons (gTup (gaCons (gTup (gaCons (gC (.int 0)) (gaCons (gC (.int 1)) gaNil))) gaNil)) gaNil))) [some fz, some (.obj 0), some (.int n), some late, some strict, some (prog n false false), some (outD n 0 0), none] [x] = .ok (prog n true false) [x] := for_same hx (by simpa [ev2] using fe_ok F hx) (cl_prog _ _ _)
  refine seq_ex (if_no (or_no (ne_no (d := .tup [ev2 0 1, ev2 1 1]) (for_same hx (by simp [few_ok F hx]) rfl) (by simp [ev2]) (by kernel_rfl))
    (is_no (for_same hx (by simp [kF, isp_ok ndL F.np1 hx (F.s1 x hx) rfl (b := false) (by kernel_rfl)]) rfl) is_f))) ?_
  refine seq_ex (if_no (or_no (is_no (for_ev hx (by simpa using kb_b1 x) rfl) is_t)
    (or_no (ne_no (d := T "wr") (for_ev hx (by simpa using kb_f1 x) rfl) (by simp) (by kernel_rfl))
      (is_no (for_ev hx (by simpa using kb_f2 x) rfl) is_n)))) ?_
  refine seq_ex (if_no (or_no (ne_no (d := .tup [T "gr", T "gw", T "own", T "rr", T "rw", T "ss", T "ww"]) (for_ev hx (by simpa using kb_n1 x) rfl) (by simp) (by kernel_rfl))
    (or_no (is_no (for_ev hx (by simpa using kb_s1 x) rfl) is_t)
      (is_no (for_ev hx (by simpa using kb_s2 x) rfl) is_f)))) ?_
  obtain ⟨dn, hn1, hn2⟩ := for_evL (g := gCall 0 (F_normals) gaNil) (ρ := [some fz, some (.obj 0), some (.int n), some late, some strict, some (prog n false false), some (outD n 0 0), none]) hx (by simpa using kb_nn x)
  have kS : ∀ s, fAdd s strict (.tup []) = some strict := fun s => by kernel_rfl
  refine seq_ex (if_no (or_no (ne_no (d := .tup [T "gr", T "gw", T "rr", T "rw", T "ss", T "wr", T "ww"]) (for_ev hx (by simpa using kb_n2 x) rfl) (by simp) (by kernel_rfl))
    (or_no (is_no (for_ev hx (by simpa [kS] using kb_a1 x) rfl) is_t)
      (ne_no (d := .int 141) (len_of hn1 (by rw [hn2]; rfl)) (by simp) (eqI _ _))))) ?_
  refine seq_ex (ρ1 := [some fz, some (.obj 0), some (.int n), some late, some strict, some (prog n false false), some (outD n 0 0), some (core n)]) (s1 := [x]) (by kernel_rfl) ?_
  refine seq_ex (if_no (or_no (is_no (for_same hx (by simp [F.m1]) rfl) is_t)
    (or_no (is_no (for_same hx (by simp [F.m2]) rfl) is_f)
      (is_no (for_same hx (by simp [F.m3]) rfl) is_t)))) ?_
  have eC : D.tup [core n] = coreP n := rfl
  refine seq_ex (if_no (or_no (ne_no (d := .tup [ev2 0 0, ev2 0 2]) (for_ev hx (by simpa [eC] using F.eb x) rfl) (by simp [ev2]) (by kernel_rfl))
    (ne_no (d := .tup [outC]) (for_same hx (by simp [eC, oc_ok nd0 F.npC hx (F.oc x) rfl]) rfl) (by simp [outC]) (by kernel_rfl)))) ?_
  obtain ⟨dt, ht1, ht2⟩ := for_evL (g := gCall 0 (F_tests) gaNil) (ρ := [some fz, some (.obj 0), some (.int n), some late, some strict, some (prog n false false), some (outD n 0 0), some (core n)]) hx (by simpa using kb_t1 x)
  refine seq_ex (if_no (or_no (ne_no (d := .int 1) (for_ev hx (by simpa [eC] using F.cc x) rfl) (by simp) (eqI _ _))
    (ne_no (d := .int 11) (len_of ht1 (by rw [ht2]; rfl)) (by simp) (eqI _ _)))) ?_
  have k1 : gFor (gCall 2 (F_first_test) (gaCons (gTup (gaNil)) (gaCons (gTup (gaCons (gC (.str (PySem.Str.ofString "gr"))) (gaNil))) (gaNil)))) [some fz, some (.obj 0), some (.int n), some late, some strict, some (prog n false false), some (outD n 0 0), some (core n)] [x] = .ok (T "gr") [x] := for_ev hx (by simpa using kb_f3 x) rfl
  have k2 : gFor (gCall 2 (F_first_test) (gaCons (gTup (gaCons (gC (.str (PySem.Str.ofString "rr"))) (gaNil))) (gaCons (gTup (gaCons (gC (.str (PySem.Str.ofString "gr"))) (gaCons (gC (.str (PySem.Str.ofString "rr"))) (gaNil)))) (gaNil)))) [some fz, some (.obj 0), some (.int n), some late, some strict, some (prog n false false), some (outD n 0 0), some (core n)] [x] = .ok (T "gr same") [x] := for_ev hx (by simpa using kb_f4 x) rfl
  have k3 : gFor (gCall 2 (F_first_test) (gaCons (gTup (gaCons (gC (.str (PySem.Str.ofString "own"))) (gaCons (gC (.str (PySem.Str.ofString "wr"))) (gaNil)))) (gaCons (gTup (gaCons (gC (.str (PySem.Str.ofString "wr"))) (gaNil))) (gaNil)))) [some fz, some (.obj 0), some (.int n), some late, some strict, some (prog n false false), some (outD n 0 0), some (core n)] [x] = .ok (T "own copy") [x] := for_ev hx (by simpa using kb_f5 x) rfl
  have q1 : eqD [x] (T "gr") (T "gr") = some true := by kernel_rfl
  have q2 : eqD [x] (T "gr same") (T "gr same") = some true := by kernel_rfl
  have q3 : eqD [x] (T "own copy") (T "own copy") = some true := by kernel_rfl
  refine ⟨[x], ?_⟩
  simp [k1, k2, k3, q1, q2, q3]
end G


set_option Elab.async false
set_option linter.all false
set_option maxRecDepth 100000
set_option maxHeartbeats 0
namespace G
open PySem PySem.Spec PyProof.Rows L2 J
def ct (P : Program) (w : World) (K : PySem.W.Frag) (Pt : Addr) : Ct := { c := fun i => match i with  | 50 => He.ga K "Run" | _ => 0, T := [], P := P, w := w }
theorem fx {PP : Program} {w : World} {K : PySem.W.Frag} {h : Heap} {mg : Str → Option Value} {Pt : Addr} (X : K.In h) (Gh : h.Ns mainGlobals mg) (c : He.SaysX hfa hfn [] [] hex w h K) : Fx PP w K mg (ct PP w K Pt) := by
  have m := c.more
  simp only [hex, Bool.and_eq_true] at m
  exact {
    pP := rfl,
    pw := rfl,
    bi_all := He.free_ok X Gh (c.t.d.fact 0 (f := .free "all") rfl),
    bi_any := He.free_ok X Gh (c.t.d.fact 1 (f := .free "any") rfl),
    bi_bool := He.free_ok X Gh (c.t.d.fact 2 (f := .free "bool") rfl),
    bi_dict := He.free_ok X Gh (c.t.d.fact 3 (f := .free "dict") rfl),
    bi_int := He.free_ok X Gh (c.t.d.fact 4 (f := .free "int") rfl),
    bi_isinstance := He.free_ok X Gh (c.t.d.fact 5 (f := .free "isinstance") rfl),
    bi_len := He.free_ok X Gh (c.t.d.fact 6 (f := .free "len") rfl),
    bi_range := He.free_ok X Gh (c.t.d.fact 7 (f := .free "range") rfl),
    bi_sorted := He.free_ok X Gh (c.t.d.fact 8 (f := .free "sorted") rfl),
    bi_str := He.free_ok X Gh (c.t.d.fact 9 (f := .free "str") rfl),
    bi_sum := He.free_ok X Gh (c.t.d.fact 10 (f := .free "sum") rfl),
    bi_tuple := He.free_ok X Gh (c.t.d.fact 11 (f := .free "tuple") rfl),
    c_REGISTERS := const_ok X Gh m.1,
    c_CELLS := const_ok X Gh m.2.1,
    c_WORDS := const_ok X Gh m.2.2.1,
    c_MOST_CORES := const_ok X Gh m.2.2.2.1,
    c_MOST_CORE := const_ok X Gh m.2.2.2.2.1,
    c_MOST_PROGRAM := const_ok X Gh m.2.2.2.2.2.1,
    c_WRITING := const_ok X Gh m.2.2.2.2.2.2.1,
    c_FENCE_programs := const_ok X Gh m.2.2.2.2.2.2.2.1,
    c_NAMES := const_ok X Gh m.2.2.2.2.2.2.2.2.1,
    c_PLAIN := const_ok X Gh m.2.2.2.2.2.2.2.2.2.1,
    c_PLAINS := const_ok X Gh m.2.2.2.2.2.2.2.2.2.2.1,
    c_READ_X := const_ok X Gh m.2.2.2.2.2.2.2.2.2.2.2.1,
    c_GUARD := const_ok X Gh m.2.2.2.2.2.2.2.2.2.2.2.2.1,
    c_WRITE_X := const_ok X Gh m.2.2.2.2.2.2.2.2.2.2.2.2.2.1,
    c_WRITE_Y := const_ok X Gh m.2.2.2.2.2.2.2.2.2.2.2.2.2.2.1,
    c_READ_Y := const_ok X Gh m.2.2.2.2.2.2.2.2.2.2.2.2.2.2.2.1,
    c_FENCE_compares := const_ok X Gh m.2.2.2.2.2.2.2.2.2.2.2.2.2.2.2.2.1,
    c_WRITES := const_ok X Gh m.2.2.2.2.2.2.2.2.2.2.2.2.2.2.2.2.2.1,
    c_TURNS := const_ok X Gh m.2.2.2.2.2.2.2.2.2.2.2.2.2.2.2.2.2.2.1,
    c_LOOKS := const_ok X Gh m.2.2.2.2.2.2.2.2.2.2.2.2.2.2.2.2.2.2.2.1,
    c_SEES := const_ok X Gh m.2.2.2.2.2.2.2.2.2.2.2.2.2.2.2.2.2.2.2.2.1,
    c_ONE := const_ok X Gh m.2.2.2.2.2.2.2.2.2.2.2.2.2.2.2.2.2.2.2.2.2.1,
    c_SECOND := const_ok X Gh m.2.2.2.2.2.2.2.2.2.2.2.2.2.2.2.2.2.2.2.2.2.2.1,
    c_BOTH := const_ok X Gh m.2.2.2.2.2.2.2.2.2.2.2.2.2.2.2.2.2.2.2.2.2.2.2.1,
    c_TWO := const_ok X Gh m.2.2.2.2.2.2.2.2.2.2.2.2.2.2.2.2.2.2.2.2.2.2.2.2.1,
    k_Run := He.cls_ok (c.t.d.fact 67 (f := .cls "Run") rfl),
    n_Run_ahead := He.noat_ok (c.t.d.fact 69 (f := .noat "Run" "ahead") rfl),
    n_Run_cells := He.noat_ok (c.t.d.fact 70 (f := .noat "Run" "cells") rfl),
    n_Run_design := He.noat_ok (c.t.d.fact 71 (f := .noat "Run" "design") rfl),
    n_Run_done := He.noat_ok (c.t.d.fact 72 (f := .noat "Run" "done") rfl),
    n_Run_ends := He.noat_ok (c.t.d.fact 73 (f := .noat "Run" "ends") rfl),
    n_Run_program := He.noat_ok (c.t.d.fact 74 (f := .noat "Run" "program") rfl),
    n_Run_taken := He.noat_ok (c.t.d.fact 75 (f := .noat "Run" "taken") rfl),
    m_Run_elders := ⟨_, (c.t.d.def_ 54 (d := d54) rfl).choose, He.meth_ok (c.t.d.fact 76 (f := .meth "Run" "elders") rfl), (c.t.d.def_ 54 (d := d54) rfl).choose_spec⟩,
    m_Run___init__ := ⟨_, (c.t.d.def_ 55 (d := d55) rfl).choose, He.glo_ok X Gh (c.t.d.fact 66 (f := .glo "Run") rfl), He.mkr_ok (c.t.d.fact 68 (f := .mkr "Run") rfl), (c.t.d.def_ 55 (d := d55) rfl).choose_spec⟩,
    m_Run_stand := ⟨_, (c.t.d.def_ 56 (d := d56) rfl).choose, He.meth_ok (c.t.d.fact 77 (f := .meth "Run" "stand") rfl), (c.t.d.def_ 56 (d := d56) rfl).choose_spec⟩,
    m_Run_word := ⟨_, (c.t.d.def_ 57 (d := d57) rfl).choose, He.meth_ok (c.t.d.fact 78 (f := .meth "Run" "word") rfl), (c.t.d.def_ 57 (d := d57) rfl).choose_spec⟩,
    m_Run_can := ⟨_, (c.t.d.def_ 58 (d := d58) rfl).choose, He.meth_ok (c.t.d.fact 79 (f := .meth "Run" "can") rfl), (c.t.d.def_ 58 (d := d58) rfl).choose_spec⟩,
    m_Run_events := ⟨_, (c.t.d.def_ 59 (d := d59) rfl).choose, He.meth_ok (c.t.d.fact 80 (f := .meth "Run" "events") rfl), (c.t.d.def_ 59 (d := d59) rfl).choose_spec⟩,
    m_Run_has_ended := ⟨_, (c.t.d.def_ 60 (d := d60) rfl).choose, He.meth_ok (c.t.d.fact 81 (f := .meth "Run" "has_ended") rfl), (c.t.d.def_ 60 (d := d60) rfl).choose_spec⟩,
    m_Run_written := ⟨_, (c.t.d.def_ 61 (d := d61) rfl).choose, He.meth_ok (c.t.d.fact 82 (f := .meth "Run" "written") rfl), (c.t.d.def_ 61 (d := d61) rfl).choose_spec⟩,
    m_Run_seen := ⟨_, (c.t.d.def_ 62 (d := d62) rfl).choose, He.meth_ok (c.t.d.fact 83 (f := .meth "Run" "seen") rfl), (c.t.d.def_ 62 (d := d62) rfl).choose_spec⟩,
    m_Run_do := ⟨_, (c.t.d.def_ 63 (d := d63) rfl).choose, He.meth_ok (c.t.d.fact 84 (f := .meth "Run" "do") rfl), (c.t.d.def_ 63 (d := d63) rfl).choose_spec⟩,
    m_Run_undo := ⟨_, (c.t.d.def_ 64 (d := d64) rfl).choose, He.meth_ok (c.t.d.fact 85 (f := .meth "Run" "undo") rfl), (c.t.d.def_ 64 (d := d64) rfl).choose_spec⟩,
    m_Run_outcome := ⟨_, (c.t.d.def_ 65 (d := d65) rfl).choose, He.meth_ok (c.t.d.fact 86 (f := .meth "Run" "outcome") rfl), (c.t.d.def_ 65 (d := d65) rfl).choose_spec⟩,
    d_is_integer := ⟨_, (c.t.d.def_ 0 (d := d0) rfl).choose, He.glo_ok X Gh (c.t.d.fact 12 (f := .glo "is_integer") rfl), (c.t.d.def_ 0 (d := d0) rfl).choose_spec⟩,
    d_is_in := ⟨_, (c.t.d.def_ 1 (d := d1) rfl).choose, He.glo_ok X Gh (c.t.d.fact 13 (f := .glo "is_in") rfl), (c.t.d.def_ 1 (d := d1) rfl).choose_spec⟩,
    d_is_list := ⟨_, (c.t.d.def_ 2 (d := d2) rfl).choose, He.glo_ok X Gh (c.t.d.fact 14 (f := .glo "is_list") rfl), (c.t.d.def_ 2 (d := d2) rfl).choose_spec⟩,
    d_is_instruction := ⟨_, (c.t.d.def_ 3 (d := d3) rfl).choose, He.glo_ok X Gh (c.t.d.fact 15 (f := .glo "is_instruction") rfl), (c.t.d.def_ 3 (d := d3) rfl).choose_spec⟩,
    d_is_core := ⟨_, (c.t.d.def_ 4 (d := d4) rfl).choose, He.glo_ok X Gh (c.t.d.fact 16 (f := .glo "is_core") rfl), (c.t.d.def_ 4 (d := d4) rfl).choose_spec⟩,
    d_need_program := ⟨_, (c.t.d.def_ 5 (d := d5) rfl).choose, He.glo_ok X Gh (c.t.d.fact 17 (f := .glo "need_program") rfl), (c.t.d.def_ 5 (d := d5) rfl).choose_spec⟩,
    d_is_program := ⟨_, (c.t.d.def_ 6 (d := d6) rfl).choose, He.glo_ok X Gh (c.t.d.fact 18 (f := .glo "is_program") rfl), (c.t.d.def_ 6 (d := d6) rfl).choose_spec⟩,
    d_cell_of := ⟨_, (c.t.d.def_ 7 (d := d7) rfl).choose, He.glo_ok X Gh (c.t.d.fact 19 (f := .glo "cell_of") rfl), (c.t.d.def_ 7 (d := d7) rfl).choose_spec⟩,
    d_asked_of := ⟨_, (c.t.d.def_ 8 (d := d8) rfl).choose, He.glo_ok X Gh (c.t.d.fact 20 (f := .glo "asked_of") rfl), (c.t.d.def_ 8 (d := d8) rfl).choose_spec⟩,
    d_last_read := ⟨_, (c.t.d.def_ 9 (d := d9) rfl).choose, He.glo_ok X Gh (c.t.d.fact 21 (f := .glo "last_read") rfl), (c.t.d.def_ 9 (d := d9) rfl).choose_spec⟩,
    d_last_writing := ⟨_, (c.t.d.def_ 10 (d := d10) rfl).choose, He.glo_ok X Gh (c.t.d.fact 22 (f := .glo "last_writing") rfl), (c.t.d.def_ 10 (d := d10) rfl).choose_spec⟩,
    d_is_design := ⟨_, (c.t.d.def_ 11 (d := d11) rfl).choose, He.glo_ok X Gh (c.t.d.fact 23 (f := .glo "is_design") rfl), (c.t.d.def_ 11 (d := d11) rfl).choose_spec⟩,
    d_need_design := ⟨_, (c.t.d.def_ 12 (d := d12) rfl).choose, He.glo_ok X Gh (c.t.d.fact 24 (f := .glo "need_design") rfl), (c.t.d.def_ 12 (d := d12) rfl).choose_spec⟩,
    d_letter_of := ⟨_, (c.t.d.def_ 13 (d := d13) rfl).choose, He.glo_ok X Gh (c.t.d.fact 25 (f := .glo "letter_of") rfl), (c.t.d.def_ 13 (d := d13) rfl).choose_spec⟩,
    d_asks_read := ⟨_, (c.t.d.def_ 14 (d := d14) rfl).choose, He.glo_ok X Gh (c.t.d.fact 26 (f := .glo "asks_read") rfl), (c.t.d.def_ 14 (d := d14) rfl).choose_spec⟩,
    d_own_read := ⟨_, (c.t.d.def_ 15 (d := d15) rfl).choose, He.glo_ok X Gh (c.t.d.fact 27 (f := .glo "own_read") rfl), (c.t.d.def_ 15 (d := d15) rfl).choose_spec⟩,
    d_keeps := ⟨_, (c.t.d.def_ 16 (d := d16) rfl).choose, He.glo_ok X Gh (c.t.d.fact 28 (f := .glo "keeps") rfl), (c.t.d.def_ 16 (d := d16) rfl).choose_spec⟩,
    d_all_designs := ⟨_, (c.t.d.def_ 17 (d := d17) rfl).choose, He.glo_ok X Gh (c.t.d.fact 29 (f := .glo "all_designs") rfl), (c.t.d.def_ 17 (d := d17) rfl).choose_spec⟩,
    d_must_be_done := ⟨_, (c.t.d.def_ 18 (d := d18) rfl).choose, He.glo_ok X Gh (c.t.d.fact 30 (f := .glo "must_be_done") rfl), (c.t.d.def_ 18 (d := d18) rfl).choose_spec⟩,
    d_told_tests := ⟨_, (c.t.d.def_ 19 (d := d19) rfl).choose, He.glo_ok X Gh (c.t.d.fact 31 (f := .glo "told_tests") rfl), (c.t.d.def_ 19 (d := d19) rfl).choose_spec⟩,
    d_lacks := ⟨_, (c.t.d.def_ 20 (d := d20) rfl).choose, He.glo_ok X Gh (c.t.d.fact 32 (f := .glo "lacks") rfl), (c.t.d.def_ 20 (d := d20) rfl).choose_spec⟩,
    d_shown_by := ⟨_, (c.t.d.def_ 21 (d := d21) rfl).choose, He.glo_ok X Gh (c.t.d.fact 33 (f := .glo "shown_by") rfl), (c.t.d.def_ 21 (d := d21) rfl).choose_spec⟩,
    d_is_below := ⟨_, (c.t.d.def_ 22 (d := d22) rfl).choose, He.glo_ok X Gh (c.t.d.fact 34 (f := .glo "is_below") rfl), (c.t.d.def_ 22 (d := d22) rfl).choose_spec⟩,
    d_normal_of := ⟨_, (c.t.d.def_ 23 (d := d23) rfl).choose, He.glo_ok X Gh (c.t.d.fact 35 (f := .glo "normal_of") rfl), (c.t.d.def_ 23 (d := d23) rfl).choose_spec⟩,
    d_below := ⟨_, (c.t.d.def_ 24 (d := d24) rfl).choose, He.glo_ok X Gh (c.t.d.fact 36 (f := .glo "below") rfl), (c.t.d.def_ 24 (d := d24) rfl).choose_spec⟩,
    d_tests := ⟨_, (c.t.d.def_ 25 (d := d25) rfl).choose, He.glo_ok X Gh (c.t.d.fact 37 (f := .glo "tests") rfl), (c.t.d.def_ 25 (d := d25) rfl).choose_spec⟩,
    d_shows := ⟨_, (c.t.d.def_ 26 (d := d26) rfl).choose, He.glo_ok X Gh (c.t.d.fact 38 (f := .glo "shows") rfl), (c.t.d.def_ 26 (d := d26) rfl).choose_spec⟩,
    d_first_test := ⟨_, (c.t.d.def_ 27 (d := d27) rfl).choose, He.glo_ok X Gh (c.t.d.fact 39 (f := .glo "first_test") rfl), (c.t.d.def_ 27 (d := d27) rfl).choose_spec⟩,
    d_alike := ⟨_, (c.t.d.def_ 28 (d := d28) rfl).choose, He.glo_ok X Gh (c.t.d.fact 40 (f := .glo "alike") rfl), (c.t.d.def_ 28 (d := d28) rfl).choose_spec⟩,
    d_normal := ⟨_, (c.t.d.def_ 29 (d := d29) rfl).choose, He.glo_ok X Gh (c.t.d.fact 41 (f := .glo "normal") rfl), (c.t.d.def_ 29 (d := d29) rfl).choose_spec⟩,
    d_normals := ⟨_, (c.t.d.def_ 30 (d := d30) rfl).choose, He.glo_ok X Gh (c.t.d.fact 42 (f := .glo "normals") rfl), (c.t.d.def_ 30 (d := d30) rfl).choose_spec⟩,
    d_need_run := ⟨_, (c.t.d.def_ 31 (d := d31) rfl).choose, He.glo_ok X Gh (c.t.d.fact 43 (f := .glo "need_run") rfl), (c.t.d.def_ 31 (d := d31) rfl).choose_spec⟩,
    d_is_event := ⟨_, (c.t.d.def_ 32 (d := d32) rfl).choose, He.glo_ok X Gh (c.t.d.fact 44 (f := .glo "is_event") rfl), (c.t.d.def_ 32 (d := d32) rfl).choose_spec⟩,
    d_events_behind := ⟨_, (c.t.d.def_ 33 (d := d33) rfl).choose, He.glo_ok X Gh (c.t.d.fact 45 (f := .glo "events_behind") rfl), (c.t.d.def_ 33 (d := d33) rfl).choose_spec⟩,
    d_told_by := ⟨_, (c.t.d.def_ 34 (d := d34) rfl).choose, He.glo_ok X Gh (c.t.d.fact 46 (f := .glo "told_by") rfl), (c.t.d.def_ 34 (d := d34) rfl).choose_spec⟩,
    d_reached := ⟨_, (c.t.d.def_ 35 (d := d35) rfl).choose, He.glo_ok X Gh (c.t.d.fact 47 (f := .glo "reached") rfl), (c.t.d.def_ 35 (d := d35) rfl).choose_spec⟩,
    d_outcomes_in := ⟨_, (c.t.d.def_ 36 (d := d36) rfl).choose, He.glo_ok X Gh (c.t.d.fact 48 (f := .glo "outcomes_in") rfl), (c.t.d.def_ 36 (d := d36) rfl).choose_spec⟩,
    d_plain_in := ⟨_, (c.t.d.def_ 37 (d := d37) rfl).choose, He.glo_ok X Gh (c.t.d.fact 49 (f := .glo "plain_in") rfl), (c.t.d.def_ 37 (d := d37) rfl).choose_spec⟩,
    d_counted := ⟨_, (c.t.d.def_ 38 (d := d38) rfl).choose, He.glo_ok X Gh (c.t.d.fact 50 (f := .glo "counted") rfl), (c.t.d.def_ 38 (d := d38) rfl).choose_spec⟩,
    d_outcomes := ⟨_, (c.t.d.def_ 39 (d := d39) rfl).choose, He.glo_ok X Gh (c.t.d.fact 51 (f := .glo "outcomes") rfl), (c.t.d.def_ 39 (d := d39) rfl).choose_spec⟩,
    d_row_for := ⟨_, (c.t.d.def_ 40 (d := d40) rfl).choose, He.glo_ok X Gh (c.t.d.fact 52 (f := .glo "row_for") rfl), (c.t.d.def_ 40 (d := d40) rfl).choose_spec⟩,
    d_is_plainly := ⟨_, (c.t.d.def_ 41 (d := d41) rfl).choose, He.glo_ok X Gh (c.t.d.fact 53 (f := .glo "is_plainly") rfl), (c.t.d.def_ 41 (d := d41) rfl).choose_spec⟩,
    d_count_rows := ⟨_, (c.t.d.def_ 42 (d := d42) rfl).choose, He.glo_ok X Gh (c.t.d.fact 54 (f := .glo "count_rows") rfl), (c.t.d.def_ 42 (d := d42) rfl).choose_spec⟩,
    d_plain_outcomes := ⟨_, (c.t.d.def_ 43 (d := d43) rfl).choose, He.glo_ok X Gh (c.t.d.fact 55 (f := .glo "plain_outcomes") rfl), (c.t.d.def_ 43 (d := d43) rfl).choose_spec⟩,
    d_gaps_of := ⟨_, (c.t.d.def_ 44 (d := d44) rfl).choose, He.glo_ok X Gh (c.t.d.fact 56 (f := .glo "gaps_of") rfl), (c.t.d.def_ 44 (d := d44) rfl).choose_spec⟩,
    d_with_fences := ⟨_, (c.t.d.def_ 45 (d := d45) rfl).choose, He.glo_ok X Gh (c.t.d.fact 57 (f := .glo "with_fences") rfl), (c.t.d.def_ 45 (d := d45) rfl).choose_spec⟩,
    d_need_places := ⟨_, (c.t.d.def_ 46 (d := d46) rfl).choose, He.glo_ok X Gh (c.t.d.fact 58 (f := .glo "need_places") rfl), (c.t.d.def_ 46 (d := d46) rfl).choose_spec⟩,
    d_strange_in := ⟨_, (c.t.d.def_ 47 (d := d47) rfl).choose, He.glo_ok X Gh (c.t.d.fact 59 (f := .glo "strange_in") rfl), (c.t.d.def_ 47 (d := d47) rfl).choose_spec⟩,
    d_is_plain := ⟨_, (c.t.d.def_ 48 (d := d48) rfl).choose, He.glo_ok X Gh (c.t.d.fact 60 (f := .glo "is_plain") rfl), (c.t.d.def_ 48 (d := d48) rfl).choose_spec⟩,
    d_strange := ⟨_, (c.t.d.def_ 49 (d := d49) rfl).choose, He.glo_ok X Gh (c.t.d.fact 61 (f := .glo "strange") rfl), (c.t.d.def_ 49 (d := d49) rfl).choose_spec⟩,
    d_fenced := ⟨_, (c.t.d.def_ 50 (d := d50) rfl).choose, He.glo_ok X Gh (c.t.d.fact 62 (f := .glo "fenced") rfl), (c.t.d.def_ 50 (d := d50) rfl).choose_spec⟩,
    d_fewest_fences := ⟨_, (c.t.d.def_ 51 (d := d51) rfl).choose, He.glo_ok X Gh (c.t.d.fact 63 (f := .glo "fewest_fences") rfl), (c.t.d.def_ 51 (d := d51) rfl).choose_spec⟩,
    d_law_taken := ⟨_, (c.t.d.def_ 52 (d := d52) rfl).choose, He.glo_ok X Gh (c.t.d.fact 64 (f := .glo "_law_taken") rfl), (c.t.d.def_ 52 (d := d52) rfl).choose_spec⟩ }
end G
open PySem PySem.W PySem.Calls PyProof.Rows
set_option maxRecDepth 100000 in
set_option maxHeartbeats 0 in
theorem PySem.Challenge.cw_pairskept_k13_known_designs_holds : PySem.Challenge.rw_pairskept_k13_known_designs.Holds := by
  w_on; o_law
  refine HandSHeadRun.head_any (r := OpenLaw.row PySem.Challenge.rw_pairskept_k13_known_designs) (q := view (OpenLaw.row PySem.Challenge.rw_pairskept_k13_known_designs).prog [97]) (H := G.hk) (ob := G.ob) (M := 8000) (loose := G.loose) (d := HandSHeadRun.topDef (OpenLaw.row PySem.Challenge.rw_pairskept_k13_known_designs).prog 97) (kwd := []) G.ob_eq
    (by kernel_rfl) (fun s => by kernel_rfl) G.run (by kernel_rfl) (by kernel_rfl) (by kernel_rfl) (by rfl) (by first | assumption | decide +kernel) (by decide +kernel) ⟨rfl, rfl, rfl, rfl, rfl, by decide +kernel⟩ ?hw ?hc
  case hw => w_witness2
  case hc =>
    refine LamX.walk_ofTsE (l := PySem.Challenge.rw_pairskept_k13_known_designs) (n := 63) (k := 21) (x := "_law_script") (CX := fun w => L2.CX (PySem.Challenge.rw_pairskept_k13_known_designs).prog w) rfl (by decide) (by kernel_rfl) ⟨rfl, by decide, by decide⟩ ?F (fun _ _ _ _ _ z => J.pass_none z)
    intro w mg fa h Y Gh hmg0
    obtain ⟨K, KX, c⟩ := Y
    have hmg : mg ("law" : PySem.Str) = some (.ref fa) := by
      have e : (HandSHeadRun.topDef (OpenLaw.row PySem.Challenge.rw_pairskept_k13_known_designs).prog 97).name = ("law" : PySem.Str) := by kernel_rfl
      rw [← e]
      exact hmg0
    have e := hmg.symm.trans (He.glo_ok KX Gh (c.t.d.fact 65 (f := .glo "law") rfl))
    cases e
    obtain ⟨fd, F⟩ := c.t.d.def_ 53 (d := G.d53) rfl
    refine ⟨K, KX, fd, [], J.spJ K (G.ct (PySem.Challenge.rw_pairskept_k13_known_designs).prog w K 0) 1 G.F_law, (fun p hp => by cases hp), (fun p hp => by cases hp), (fun p hp => by cases hp), fun s v => (F.bindsA (ps := ["_law_script"]) fun _ _ _ _ _ _ us hl => match us, hl with | [_], _ => rfl) s [v] rfl, fun H a ns hl _ hT hS => ?_, fun base kb nb hb => ?_⟩
    · exact J.spJ_law (fun p hp => by cases hp) rfl hS (G.plain ns hl)
    · exact G.j_law (Pt := 0) (G.fx KX Gh c) F rfl rfl

