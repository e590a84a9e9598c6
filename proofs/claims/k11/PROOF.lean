import PyProof.Rows.All
import Wide.All
import OpenK.AllK
import Wide.FinOn
import HandS.ForMost
import HandS.Exc
import HandS.ExcOwn
import HandS.WordsExc
import HandS.IsInst
import HandS.TupAny
import HandS.TupMul
import HandS.TupLe
import HandS.Lambda
import KE.KDictKeyed
import KE.KDictCopyH
import KE.KDictWalk
import KE.KDictDisplayH
import HandS.Deep
import HandS.ExcIs
import HandS.HeadHook4
import HandS.HeadEnd
import HandS.HeadWalk
import HandS.Style
import HandS.RaiseMore
import HandS.Iter
import HandS.ExcInit
import HandS.ExcField
import KE.KExcSuper
import KE.KExcIs
import KE.KDflt
import PySem.Challenge.RW_pairskept_k11_whole_texts_refused
import HandS.Head0
import HandS.Head1
import HandS.Head2
set_option Elab.async false
set_option linter.all false
set_option maxRecDepth 100000
set_option maxHeartbeats 4000000
/-! J0: data, mutable objects by number, how they lie in the layer's heap. -/
namespace J
open PySem PySem.Spec L2

/-- a value -/
inductive D where
  | non | bl (b : Bool) | int (i : Int) | str (x : Str) | ty (n : String) | tup (ds : List D) | lst (ds : List D) | frz (ds : List D) | obj (n : Nat) | raw (a : Addr)

/-- a mutable object: a list, a dict with int and text keys, an instance, a dict whose keys are data, a lambda of the text by its number -/
inductive IO where
  | lst (ds : List D) | dic (kvs : List (Key × D)) | ins (c : Nat) (fs : List (Str × D)) | dcd (kvs : List (D × D)) | lam (k : Nat)
/-- a lambda of the text: its parameters, body, scope, qualified name, captured cells, defaults -/
structure LamD where
  params : Arguments
  body : Expr
  scope : Scope
  q : Str
  cl : List (Str × Addr)
  dfl : List V

abbrev S := List IO
abbrev Env := List (Option D)
/-- an exception: its class, a field -/
structure Ex where
  cls : Nat
  arg : Option (Str × D) := none
inductive R (α : Type) where
  | ok (a : α) (s : S) | err (e : Ex) (s : S) | no
def R.bind {α β : Type} (r : R α) (k : α → S → R β) : R β := match r with
  | .ok a s => k a s
  | .err e s => .err e s
  | .no => .no
inductive Fl where
  | nx (ρ : Env) | rt (d : D) | bk (ρ : Env) | ct (ρ : Env)
abbrev GE := Env → S → R D
abbrev GT := Env → S → R Bool
abbrev GA := Env → S → R (List D)
abbrev GS := Env → S → R Fl

/-- the own classes by number; the tables of code objects of defs that make lambdas; the dicts of errors that are held; the lambdas of the text -/
structure Ct where
  c : Nat → Addr
  T : List (Addr × Str)
  P : Program
  w : World
  x : List (Addr × Str × V) := []
  lam : Nat → Option LamD := fun _ => none
/-- the mutable objects' addresses by number; all addresses whose lists may change -/
structure Wd where
  ι : List Addr
  M : List Addr

/-- a tuple stands at a: in the heap, or in the written part -/
def TupAt (K : PySem.W.Frag) (H : Hp) (a : Addr) (vs : List V) : Prop := H a = some (.tup vs) ∨
  ∃ (o : Obj) (its : Array Value) (n : Nat), K.lookup a = some o ∧ o.cls = .type "tuple" ∧ o.data = .seq its n ∧ its.size ≤ sizeLine ∧ Vals vs its.toList
theorem TupAt.sq {K : PySem.W.Frag} {H : Hp} {a : Addr} {vs : List V} (h : TupAt K H a vs) : SqT K H a vs := h.elim (fun h => SqT.of h) .inr

/-- a list that is never changed stands at a: locked, or in the written part -/
def FrzAt (K : PySem.W.Frag) (H : Hp) (a : Addr) (vs : List V) : Prop := (∃ o, H a = some (.frz o (.lst vs))) ∨
  ∃ (o : Obj) (its : Array Value) (n : Nat), K.lookup a = some o ∧ o.cls = .type "list" ∧ o.dict = none ∧ o.data = .seq its n ∧ its.size ≤ sizeLine ∧ Vals vs its.toList
theorem FrzAt.sq {K : PySem.W.Frag} {H : Hp} {a : Addr} {vs : List V} (h : FrzAt K H a vs) : SqL K H a vs := h.elim (fun ⟨o, h⟩ => .inl (.inr ⟨o, h⟩)) .inr

mutual
inductive Rep (K : PySem.W.Frag) (ι : Wd) (H : Hp) : D → V → Prop
  | non : Rep K ι H .non .non
  | bl (b : Bool) : Rep K ι H (.bl b) (.bl b)
  | int (i : Int) : Rep K ι H (.int i) (.int i)
  | str (x : Str) : Rep K ι H (.str x) (.str x)
  | ty (n : String) : Rep K ι H (.ty n) (.ty n)
  | tup {a : Addr} {vs : List V} {ds : List D} : TupAt K H a vs → Reps K ι H ds vs → Rep K ι H (.tup ds) (.ref a)
  | lst {a : Addr} {vs : List V} {ds : List D} : H a = some (.lst vs) → a ∉ ι.M → Reps K ι H ds vs → Rep K ι H (.lst ds) (.ref a)
  | frz {a : Addr} {vs : List V} {ds : List D} : FrzAt K H a vs → Reps K ι H ds vs → Rep K ι H (.frz ds) (.ref a)
  | frz2 {a : Addr} {vs : List V} {ds : List D} : H a = some (.lst vs) → a ∉ ι.M → Reps K ι H ds vs → Rep K ι H (.frz ds) (.ref a)
  | obj {a : Addr} {n : Nat} : ι.ι[n]? = some a → Rep K ι H (.obj n) (.ref a)
  | raw (a : Addr) : Rep K ι H (.raw a) (.ref a)
inductive Reps (K : PySem.W.Frag) (ι : Wd) (H : Hp) : List D → List V → Prop
  | nil : Reps K ι H [] []
  | cons {d : D} {ds : List D} {v : V} {vs : List V} : Rep K ι H d v → Reps K ι H ds vs → Reps K ι H (d :: ds) (v :: vs)
end

/-- not a table of code objects -/
def NoTab (o : HO) : Prop := ∀ ps, o ≠ .tbl ps
theorem noTab_lst {xs : List V} : NoTab (.lst xs) := fun _ z => by cases z
/-- what a value's form leans on is kept -/
structure Ke (ι : Wd) (H : Hp) (ι' : Wd) (H' : Hp) : Prop where
  pre : ι.ι <+: ι'.ι
  keep : ∀ a o, H a = some o → NoTab o → a ∉ ι.M → H' a = some o ∧ a ∉ ι'.M
  tup : ∀ a xs, H a = some (.tup xs) → H' a = some (.tup xs)
  frz : ∀ a o u, H a = some (.frz o u) → H' a = some (.frz o u)
/-- all but the mutable objects is kept -/
structure Le (ι : Wd) (H : Hp) (ι' : Wd) (H' : Hp) : Prop extends Ke ι H ι' H' where
  stay : ∀ a o, H a = some o → NoTab o → a ∉ ι.ι → H' a = some o ∧ a ∉ ι'.ι
  sub : ∀ a ∈ ι.M, a ∈ ι'.M

theorem Ke.refl {ι : Wd} {H : Hp} : Ke ι H ι H := ⟨List.prefix_rfl, fun _ _ h _ n => ⟨h, n⟩, fun _ _ h => h, fun _ _ _ h => h⟩
theorem Le.refl {ι : Wd} {H : Hp} : Le ι H ι H := ⟨.refl, fun _ _ h _ n => ⟨h, n⟩, fun _ h => h⟩
theorem Ke.trans {ι ι1 ι2 : Wd} {H H1 H2 : Hp} (a : Ke ι H ι1 H1) (b : Ke ι1 H1 ι2 H2) : Ke ι H ι2 H2 :=
  ⟨a.pre.trans b.pre, fun c o h t n => let q := a.keep c o h t n; b.keep c o q.1 t q.2, fun c xs h => b.tup c xs (a.tup c xs h), fun c o u h => b.frz c o u (a.frz c o u h)⟩
theorem Le.trans {ι ι1 ι2 : Wd} {H H1 H2 : Hp} (a : Le ι H ι1 H1) (b : Le ι1 H1 ι2 H2) : Le ι H ι2 H2 :=
  ⟨a.toKe.trans b.toKe, fun c o h t n => let q := a.stay c o h t n; b.stay c o q.1 t q.2, fun c h => b.sub c (a.sub c h)⟩
theorem Ke.get {ι ι' : Wd} {H H' : Hp} (l : Ke ι H ι' H') {n : Nat} {a : Addr} (h : ι.ι[n]? = some a) : ι'.ι[n]? = some a := by
  obtain ⟨t, e⟩ := l.pre
  rw [← e, List.getElem?_append_left (List.getElem?_eq_some_iff.mp h).1]; exact h
theorem Ke.tupAt {K : PySem.W.Frag} {ι ι' : Wd} {H H' : Hp} {a : Addr} {vs : List V} (l : Ke ι H ι' H') (h : TupAt K H a vs) : TupAt K H' a vs := h.elim (fun h => .inl (l.tup _ _ h)) .inr

theorem Ke.frzAt {K : PySem.W.Frag} {ι ι' : Wd} {H H' : Hp} {a : Addr} {vs : List V} (l : Ke ι H ι' H') (h : FrzAt K H a vs) : FrzAt K H' a vs := h.elim (fun ⟨o, h⟩ => .inl ⟨o, l.frz _ _ _ h⟩) .inr

mutual
theorem Rep.monoK {K : PySem.W.Frag} {ι ι' : Wd} {H H' : Hp} (l : Ke ι H ι' H') : ∀ {d : D} {v : V}, Rep K ι H d v → Rep K ι' H' d v
  | _, _, .non => .non
  | _, _, .bl b => .bl b
  | _, _, .int i => .int i
  | _, _, .str x => .str x
  | _, _, .ty n => .ty n
  | _, _, .tup h r => .tup (l.tupAt h) (Reps.monoK l r)
  | _, _, .lst h n r => .lst (l.keep _ _ h noTab_lst n).1 (l.keep _ _ h noTab_lst n).2 (Reps.monoK l r)
  | _, _, .frz h r => .frz (l.frzAt h) (Reps.monoK l r)
  | _, _, .frz2 h n r => .frz2 (l.keep _ _ h noTab_lst n).1 (l.keep _ _ h noTab_lst n).2 (Reps.monoK l r)
  | _, _, .obj h => .obj (l.get h)
  | _, _, .raw a => .raw a
theorem Reps.monoK {K : PySem.W.Frag} {ι ι' : Wd} {H H' : Hp} (l : Ke ι H ι' H') : ∀ {ds : List D} {vs : List V}, Reps K ι H ds vs → Reps K ι' H' ds vs
  | _, _, .nil => .nil
  | _, _, .cons r t => .cons (Rep.monoK l r) (Reps.monoK l t)
end
theorem Rep.mono {K : PySem.W.Frag} {ι ι' : Wd} {H H' : Hp} {d : D} {v : V} (r : Rep K ι H d v) (l : Le ι H ι' H') : Rep K ι' H' d v := Rep.monoK l.toKe r
theorem Reps.mono {K : PySem.W.Frag} {ι ι' : Wd} {H H' : Hp} {d : List D} {v : List V} (r : Reps K ι H d v) (l : Le ι H ι' H') : Reps K ι' H' d v := Reps.monoK l.toKe r
section
variable {K : PySem.W.Frag} {ι : Wd} {H : Hp}
theorem Reps.length : ∀ {ds : List D} {vs : List V}, Reps K ι H ds vs → ds.length = vs.length
  | _, _, .nil => rfl
  | _, _, .cons _ t => congrArg (· + 1) (Reps.length t)
theorem Reps.get : ∀ {ds : List D} {vs : List V} {i : Nat} {d : D}, Reps K ι H ds vs → ds[i]? = some d → ∃ v, vs[i]? = some v ∧ Rep K ι H d v
  | _, _, _, _, .nil, e => by simp at e
  | _, _, 0, _, .cons r _, e => by simp at e; subst e; exact ⟨_, rfl, r⟩
  | _, _, i + 1, _, .cons _ t, e => by
    obtain ⟨v, h1, h2⟩ := Reps.get (i := i) t (by simpa using e)
    exact ⟨v, by simpa using h1, h2⟩
theorem Reps.getV : ∀ {ds : List D} {vs : List V} {i : Nat} {v : V}, Reps K ι H ds vs → vs[i]? = some v → ∃ d, ds[i]? = some d ∧ Rep K ι H d v
  | _, _, _, _, .nil, e => by simp at e
  | _, _, 0, _, .cons r _, e => by simp at e; subst e; exact ⟨_, rfl, r⟩
  | _, _, i + 1, _, .cons _ t, e => by
    obtain ⟨v, h1, h2⟩ := Reps.getV (i := i) t (by simpa using e)
    exact ⟨v, by simpa using h1, h2⟩
theorem Reps.append : ∀ {ds es : List D} {vs ws : List V}, Reps K ι H ds vs → Reps K ι H es ws → Reps K ι H (ds ++ es) (vs ++ ws)
  | _, _, _, _, .nil, s => s
  | _, _, _, _, .cons r t, s => .cons r (Reps.append t s)
theorem Reps.take : ∀ {ds : List D} {vs : List V} (n : Nat), Reps K ι H ds vs → Reps K ι H (ds.take n) (vs.take n)
  | _, _, 0, _ => .nil
  | _, _, _ + 1, .nil => .nil
  | _, _, n + 1, .cons r t => .cons r (Reps.take n t)
theorem Reps.drop : ∀ {ds : List D} {vs : List V} (n : Nat), Reps K ι H ds vs → Reps K ι H (ds.drop n) (vs.drop n)
  | _, _, 0, r => r
  | _, _, _ + 1, .nil => .nil
  | _, _, n + 1, .cons _ t => Reps.drop n t
theorem Reps.set {d : D} {v : V} (r : Rep K ι H d v) : ∀ {ds : List D} {vs : List V} (i : Nat), Reps K ι H ds vs → Reps K ι H (ds.set i d) (vs.set i v)
  | _, _, _, .nil => .nil
  | _, _, 0, .cons _ t => .cons r t
  | _, _, i + 1, .cons q t => .cons q (Reps.set r i t)
theorem Reps.rep {d : D} {v : V} (r : Rep K ι H d v) : ∀ n : Nat, Reps K ι H (List.replicate n d) (List.replicate n v)
  | 0 => .nil
  | n + 1 => .cons r (Reps.rep r n)
theorem Reps.flat {ds : List D} {vs : List V} (r : Reps K ι H ds vs) : ∀ k : Nat, Reps K ι H (List.replicate k ds).flatten (List.replicate k vs).flatten
  | 0 => .nil
  | k + 1 => by rw [List.replicate_succ, List.replicate_succ, List.flatten_cons, List.flatten_cons]; exact r.append (Reps.flat r k)
theorem Reps.ints : ∀ {ns : List Int} {vs : List V}, Reps K ι H (ns.map D.int) vs → vs = ns.map V.int
  | [], _, h => by cases h; rfl
  | n :: ns, _, h => by
    cases h with
    | cons r t => cases r; rw [Reps.ints t]; rfl
theorem Reps.bls : ∀ {ns : List Bool} {vs : List V}, Reps K ι H (ns.map D.bl) vs → vs = ns.map V.bl
  | [], _, h => by cases h; rfl
  | n :: ns, _, h => by
    cases h with
    | cons r t => cases r; rw [Reps.bls t]; rfl
theorem Reps.strs : ∀ {ns : List Str} {vs : List V}, Reps K ι H (ns.map D.str) vs → vs = ns.map V.str
  | [], _, h => by cases h; rfl
  | n :: ns, _, h => by
    cases h with
    | cons r t => cases r; rw [Reps.strs t]; rfl
end

/-! ### dicts whose keys are data -/
mutual
/-- the key that data is -/
def keyN : D → Option NestedKey
  | .non => some .none
  | .bl b => some (.num (if b then 1 else 0))
  | .int i => some (.num i)
  | .str x => some (.text x)
  | .tup ds => (keysN ds).map NestedKey.tup
  | .lst _ => none
  | .frz _ => none
  | .ty _ => none
  | .obj _ => none
  | .raw _ => none
def keysN : List D → Option (List NestedKey)
  | [] => some []
  | d :: ds => match keyN d, keysN ds with
    | some p, some ps => some (p :: ps)
    | _, _ => none
end
/-- how deep -/
def okKey (k : NestedKey) : Bool := decide (k.depth ≤ 8)
/-- a dict by its entries, as it lies -/
def DN (P : Program) (w : World) (a : Addr) (xs : List (NestedKey × Addr × Value)) : HO := .ext fun h => ∃ (o : Obj) (es : Array DictEntry) (ep : Nat), h.get? a = some o ∧ o.ExactDict ∧ o.data = .dict es ep ∧
  es.toList = xs.map (entryOfKey (nestedKind P w)) ∧ (xs.map fun x => x.1).Nodup ∧ (a == sysModules) = false
theorem DN_ne {P : Program} {w : World} {a : Addr} {xs : List (NestedKey × Addr × Value)} (nd : (xs.map fun x => x.1).Nodup) (ns : (a == sysModules) = false) (c : Addr) (q : Str) : DN P w a xs ≠ LamX.CodeO c q := by
  intro z
  unfold DN LamX.CodeO at z
  injection z with z
  let ob : Obj := { cls := .type "dict", data := .dict (xs.map (entryOfKey (nestedKind P w))).toArray 0 }
  let h0 : Heap := { objs := Array.replicate (a + 1) ob, life := {} }
  have g : ∀ b o, h0.get? b = some o → o = ob := fun b o e => by
    unfold Heap.get? at e
    simp only [h0, Array.getElem?_replicate] at e
    by_cases hb : b < a + 1
    · rw [if_pos hb] at e
      exact (Option.some.inj e).symm
    · rw [if_neg hb] at e; cases e
  have ga : h0.get? a = some ob := by
    unfold Heap.get?
    simp only [h0, Array.getElem?_replicate]
    rw [if_pos (Nat.lt_succ_self a)]
  have := (congrFun z h0).mp ⟨ob, (xs.map (entryOfKey (nestedKind P w))).toArray, 0, ga, ⟨rfl, rfl, rfl⟩, rfl, by simp, nd, ns⟩
  obtain ⟨oc, vs, t, h1, h2, _⟩ := this
  rw [g _ _ h1] at h2
  cases h2
/-- entries, pair by pair -/
def RepN (K : PySem.W.Frag) (ι : Wd) (H : Hp) : List (D × D) → List (NestedKey × Addr × Value) → Prop := Paired fun p x => keyN p.1 = some x.1 ∧ okKey x.1 = true ∧ Rep K ι H p.1 (.ref x.2.1) ∧ ∃ v, RelV v x.2.2 ∧ Rep K ι H p.2 v
theorem RepN.monoK {K : PySem.W.Frag} {ι ι' : Wd} {H H' : Hp} (l : Ke ι H ι' H') {xs : List (D × D)} {ys : List (NestedKey × Addr × Value)} (r : RepN K ι H xs ys) : RepN K ι' H' xs ys :=
  Paired.mapP r fun _ _ q => ⟨q.1, q.2.1, Rep.monoK l q.2.2.1, let ⟨v, a, b⟩ := q.2.2.2; ⟨v, a, Rep.monoK l b⟩⟩
/-- what may change -/
def MutJ : HO → Prop
  | .lst _ => True
  | .dK _ => True
  | .ins _ _ _ => True
  | .ext φ => ∀ c q, HO.ext φ ≠ LamX.CodeO c q
  | _ => False
theorem MutJ.mut {o : HO} (h : MutJ o) : Mut (some o) := by
  cases o <;> first | trivial | exact h.elim
theorem MutJ.noTab {o : HO} (h : MutJ o) : NoTab o := fun ps z => by rw [z] at h; exact h
theorem MutJ.noCode {o : HO} (h : MutJ o) {c : Addr} {q : Str} : o ≠ LamX.CodeO c q := fun z => by
  have h2 : MutJ (LamX.CodeO c q) := z ▸ h
  exact h2 c q rfl
/-- the tables of code objects stand -/
def TabJ (T : List (Addr × Str)) (ι : Wd) (H : Hp) : Prop := ∀ p ∈ T, ∃ ps : Array Value, H p.1 = some (.tbl ps) ∧ p.1 ∉ ι.M ∧ TriplesOk ps.toList ∧ ∀ (pos : Pos) (cv : Value), codeAmong pos ps.toList = some cv → ∃ c, cv = .ref c ∧ H c = some (LamX.CodeO c p.2) ∧ c ∉ ι.M
theorem TabJ.keep {T : List (Addr × Str)} {ι ι' : Wd} {H H' : Hp} (t : TabJ T ι H) (k : ∀ a o, H a = some o → a ∉ ι.M → H' a = some o ∧ a ∉ ι'.M) : TabJ T ι' H' := fun p hp => by
  obtain ⟨ps, h1, h2, h3, h4⟩ := t p hp
  refine ⟨ps, (k _ _ h1 h2).1, (k _ _ h1 h2).2, h3, fun pos cv hc => ?_⟩
  obtain ⟨c, e, h5, h6⟩ := h4 pos cv hc
  exact ⟨c, e, (k _ _ h5 h6).1, (k _ _ h5 h6).2⟩
theorem TabJ.tabs {T : List (Addr × Str)} {ι : Wd} {H : Hp} (t : TabJ T ι H) : LamX.Tabs T H := fun p hp => by
  obtain ⟨ps, h1, h2, h3, h4⟩ := t p hp
  exact ⟨ps, h1, h3, fun pos cv hc => let ⟨c, e, h5, _⟩ := h4 pos cv hc; ⟨c, e, h5⟩⟩
/-- the dicts of the errors that are held stand -/
def ExcsJ (x : List (Addr × Str × V)) (ι : Wd) (H : Hp) : Prop := ∀ p ∈ x, ∃ fs, H p.1 = some (.xd fs) ∧ p.1 ∉ ι.M ∧ fs.lookup p.2.1 = some p.2.2
structure TabsJ (T : List (Addr × Str)) (x : List (Addr × Str × V)) (ι : Wd) (H : Hp) : Prop where
  t : TabJ T ι H
  e : ExcsJ x ι H
theorem TabsJ.keep {T : List (Addr × Str)} {x : List (Addr × Str × V)} {ι ι' : Wd} {H H' : Hp} (t : TabsJ T x ι H) (k : ∀ a o, H a = some o → a ∉ ι.M → H' a = some o ∧ a ∉ ι'.M) : TabsJ T x ι' H' :=
  ⟨t.t.keep k, fun p hp => let ⟨fs, h1, h2, h3⟩ := t.e p hp; ⟨fs, (k _ _ h1 h2).1, (k _ _ h1 h2).2, h3⟩⟩
theorem TabsJ.tabs {T : List (Addr × Str)} {x : List (Addr × Str × V)} {ι : Wd} {H : Hp} (t : TabsJ T x ι H) : LamX.Tabs T H := t.t.tabs
/-- a lambda as it lies -/
def LamD.fd (d : LamD) (pm cv ctv dV doc : Value) : FuncData := { name := "<lambda>", qualname := d.q, params := d.params, body := .expr d.body, scope := d.scope, globals := mainGlobals, closure := d.cl, defaults := dV, kwdefaults := .none, doc := doc, pyModule := pm, annotations := none, code := cv, closureTuple := ctv, builtins := builtinsNs }
def LamO (a : Addr) (fd : FuncData) : HO := .ext fun h => h.get? a = some ({ cls := .type "function", data := .func fd } : Obj)
theorem LamO_ne {a : Addr} {fd : FuncData} (c : Addr) (q : Str) : LamO a fd ≠ LamX.CodeO c q := by
  intro z
  unfold LamO LamX.CodeO at z
  injection z with z
  let ob : Obj := { cls := .type "function", data := .func fd }
  let h0 : Heap := { objs := Array.replicate (a + 1) ob, life := {} }
  have g : ∀ b o, h0.get? b = some o → o = ob := fun b o e => by
    unfold Heap.get? at e
    simp only [h0, Array.getElem?_replicate] at e
    by_cases hb : b < a + 1
    · rw [if_pos hb] at e
      exact (Option.some.inj e).symm
    · rw [if_neg hb] at e; cases e
  have ga : h0.get? a = some ob := by
    unfold Heap.get?
    simp only [h0, Array.getElem?_replicate]
    rw [if_pos (Nat.lt_succ_self a)]
  obtain ⟨oc, vs, t, h1, h2, _⟩ := (congrFun z h0).mp ga
  rw [g _ _ h1] at h2
  cases h2
theorem LamO_mut {a : Addr} {fd : FuncData} : MutJ (LamO a fd) := fun c q => LamO_ne c q
/-- a lambda stands at a -/
def LamAt (ι : Wd) (H : Hp) (a : Addr) (d : LamD) : Prop := ∃ (c' : Addr) (pm ctv dV doc : Value), H a = some (LamO a (d.fd pm (.ref c') ctv dV doc)) ∧ (H c' = some (LamX.CodeO c' d.q) ∧ c' ∉ ι.M) ∧
  ((d.dfl = [] ∧ dV = .none) ∨ ∃ T, dV = .ref T ∧ H T = some (.tup d.dfl))
theorem LamAt.monoK {ι ι' : Wd} {H H' : Hp} (l : Ke ι H ι' H') {a : Addr} {d : LamD} (e : H' a = H a) (q : LamAt ι H a d) : LamAt ι' H' a d := by
  obtain ⟨c', pm, ctv, dV, doc, h1, h2, h3⟩ := q
  refine ⟨c', pm, ctv, dV, doc, e.trans h1, l.keep _ _ h2.1 (fun ps z => by cases z) h2.2, h3.imp id fun ⟨T, a, b⟩ => ⟨T, a, l.tup _ _ b⟩⟩
/-- keyed values, pair by pair -/
def RepF {κ : Type} (K : PySem.W.Frag) (ι : Wd) (H : Hp) : List (κ × D) → List (κ × V) → Prop := Paired fun p q => p.1 = q.1 ∧ Rep K ι H p.2 q.2
def RepO (K : PySem.W.Frag) (ca : Ct) (ι : Wd) (H : Hp) (a : Addr) : IO → Prop
  | .lst ds => ∃ vs, H a = some (.lst vs) ∧ Reps K ι H ds vs
  | .dic kvs => ∃ ws, H a = some (.dK ws) ∧ RepF K ι H kvs ws
  | .ins c fs => ∃ dx ws, H a = some (.ins (ca.c c) dx ws) ∧ RepF K ι H fs ws
  | .dcd kvs => ∃ xs, H a = some (DN ca.P ca.w a xs) ∧ RepN K ι H kvs xs
  | .lam k => match ca.lam k with
    | none => ∃ o, H a = some o ∧ MutJ o
    | some d => LamAt ι H a d
theorem RepF.monoK {κ : Type} {K : PySem.W.Frag} {ι ι' : Wd} {H H' : Hp} (l : Ke ι H ι' H') {xs : List (κ × D)} {ys : List (κ × V)} (r : RepF K ι H xs ys) : RepF K ι' H' xs ys :=
  Paired.mapP r fun _ _ q => ⟨q.1, Rep.monoK l q.2⟩
theorem RepF.mono {κ : Type} {K : PySem.W.Frag} {ι ι' : Wd} {H H' : Hp} (l : Le ι H ι' H') {xs : List (κ × D)} {ys : List (κ × V)} (r : RepF K ι H xs ys) : RepF K ι' H' xs ys := RepF.monoK l.toKe r
structure Sim (K : PySem.W.Frag) (ca : Ct) (ι : Wd) (s : S) (H : Hp) : Prop where
  len : ι.ι.length = s.length
  nd : ι.ι.Nodup
  sub : ∀ a ∈ ι.ι, a ∈ ι.M
  tr : ∀ a ∈ ι.M, ∃ o, H a = some o ∧ MutJ o
  tab : TabsJ ca.T ca.x ι H
  ob : ∀ (n : Nat) (a : Addr) (o : IO), ι.ι[n]? = some a → s[n]? = some o → RepO K ca ι H a o
/-- the names' values -/
structure RelS (K : PySem.W.Frag) (ι : Wd) (H : Hp) (ρ : Env) (σ : L2.St) : Prop where
  len : ρ.length = σ.length
  at_ : ∀ (i : Nat) (d : D), ρ[i]? = some (some d) → ∃ v, σ[i]? = some (some v) ∧ Rep K ι H d v
def RepX (K : PySem.W.Frag) (ca : Ct) (ι : Wd) (H : Hp) (e : Ex) (cv : Value) (d : Option Addr) : Prop :=
  cv = .ref (ca.c e.cls) ∧ (e.arg = none → d = none) ∧ ∀ f x, e.arg = some (f, x) → ∃ dd fs v, d = some dd ∧ H dd = some (.xd fs) ∧ fs.lookup f = some v ∧ Rep K ι H x v
section
variable {K : PySem.W.Frag} {ca : Ct} {ι ι' : Wd} {H H' : Hp} {ρ : Env} {σ : L2.St} {s : S}
theorem RelS.mono (r : RelS K ι H ρ σ) (l : Le ι H ι' H') : RelS K ι' H' ρ σ := ⟨r.len, fun i d h => let ⟨v, a, b⟩ := r.at_ i d h; ⟨v, a, b.mono l⟩⟩
theorem RelS.set (r : RelS K ι H ρ σ) {d : D} {v : V} (q : Rep K ι H d v) (i : Nat) : RelS K ι H (ρ.set i (some d)) (σ.set i (some v)) := by
  refine ⟨by simp [r.len], fun j e h => ?_⟩
  by_cases hj : i = j
  · subst hj
    have hl : i < ρ.length := by
      have := (List.getElem?_eq_some_iff.mp h).1
      simpa using this
    rw [List.getElem?_set_self hl] at h
    cases h
    exact ⟨v, List.getElem?_set_self (by rw [← r.len]; exact hl), q⟩
  · rw [List.getElem?_set_ne hj] at h
    rw [List.getElem?_set_ne hj]
    exact r.at_ j e h
theorem RelS.wipe (r : RelS K ι H ρ σ) : ∀ vs : List Nat, RelS K ι H (vs.foldr (fun v l => l.set v none) ρ) (L2.wipe σ vs)
  | [] => r
  | v :: vs => by
    have q := RelS.wipe r vs
    refine ⟨by simp [L2.wipe, q.len], fun j e h => ?_⟩
    simp only [List.foldr_cons] at h
    unfold L2.wipe
    by_cases hj : v = j
    · subst hj
      rw [List.getElem?_set] at h
      simp at h
    · rw [List.getElem?_set_ne hj] at h
      rw [List.getElem?_set_ne hj]
      exact q.at_ j e h
theorem RepO.monoK (l : Ke ι H ι' H') {a : Addr} {u : IO} (e : H' a = H a) (q : RepO K ca ι H a u) : RepO K ca ι' H' a u := by
  cases u with
  | lst ds => obtain ⟨vs, h, r⟩ := q; exact ⟨vs, by rw [e]; exact h, Reps.monoK l r⟩
  | dic kvs => obtain ⟨vs, h, r⟩ := q; exact ⟨vs, by rw [e]; exact h, RepF.monoK l r⟩
  | ins c fs => obtain ⟨dx, ws, h, r⟩ := q; exact ⟨dx, ws, by rw [e]; exact h, RepF.monoK l r⟩
  | dcd kvs => obtain ⟨xs, h, r⟩ := q; exact ⟨xs, by rw [e]; exact h, RepN.monoK l r⟩
  | lam k =>
    simp only [RepO] at q ⊢
    cases h : ca.lam k with
    | none => rw [h] at q; obtain ⟨o, h1, h2⟩ := q; exact ⟨o, e.trans h1, h2⟩
    | some d => rw [h] at q; exact LamAt.monoK l e q
theorem RepO.mono (l : Le ι H ι' H') {a : Addr} {u : IO} (q : RepO K ca ι H a u) (e : H' a = H a) : RepO K ca ι' H' a u := RepO.monoK l.toKe e q
theorem Sim.tracked (m : Sim K ca ι s H) {a : Addr} (h : a ∈ ι.ι) : ∃ o, H a = some o ∧ MutJ o := m.tr a (m.sub a h)
theorem Sim.ne (m : Sim K ca ι s H) {p : Addr} (h : H p = none) : p ∉ ι.M := fun hp => by
  obtain ⟨o, q, _⟩ := m.tr p hp
  rw [h] at q; cases q
/-- a new object -/
theorem Le.new {p : Addr} {o : HO} (h : H p = none) : Le ι H ι (upd H p o) :=
  ⟨⟨List.prefix_rfl, fun a u q _ n => ⟨by rw [upd_ne (ne_of_none q h)]; exact q, n⟩, fun a xs q => by rw [upd_ne (ne_of_none q h)]; exact q, fun a xs u q => by rw [upd_ne (ne_of_none q h)]; exact q⟩,
    fun a u q _ n => ⟨by rw [upd_ne (ne_of_none q h)]; exact q, n⟩, fun _ h => h⟩
/-- a heap that changed nowhere but at what may change, apart from the objects by number -/
theorem Sim.grow (m : Sim K ca ι s H) (l : Le ι H ι H') (k : ∀ a ∈ ι.M, H' a = H a) (kt : ∀ a o, H a = some o → a ∉ ι.M → H' a = some o) : Sim K ca ι s H' :=
  ⟨m.len, m.nd, m.sub, fun a h => by rw [k a h]; exact m.tr a h, m.tab.keep fun a o h n => ⟨kt a o h n, n⟩, fun n a u hn hs => (m.ob n a u hn hs).mono l (k a (m.sub a (List.mem_of_getElem? hn)))⟩
/-- a new object that is never changed -/
theorem Sim.new (m : Sim K ca ι s H) {p : Addr} {o : HO} (h : H p = none) : Le ι H ι (upd H p o) ∧ Sim K ca ι s (upd H p o) :=
  ⟨Le.new h, m.grow (Le.new h) (fun a ha => upd_ne fun z => m.ne h (z ▸ ha)) fun a u q _ => by rw [upd_ne (ne_of_none q h)]; exact q⟩
/-- a new mutable object -/
theorem Sim.alloc (m : Sim K ca ι s H) {p : Addr} {o : HO} {u : IO} (h : H p = none) (mu : MutJ o) (hr : Le ι H ⟨ι.ι ++ [p], p :: ι.M⟩ (upd H p o) → RepO K ca ⟨ι.ι ++ [p], p :: ι.M⟩ (upd H p o) p u) :
    Le ι H ⟨ι.ι ++ [p], p :: ι.M⟩ (upd H p o) ∧ Sim K ca ⟨ι.ι ++ [p], p :: ι.M⟩ (s ++ [u]) (upd H p o) := by
  have l : Le ι H ⟨ι.ι ++ [p], p :: ι.M⟩ (upd H p o) := ⟨⟨List.prefix_append _ _, fun a x q _ n => ⟨by rw [upd_ne (ne_of_none q h)]; exact q, fun z => by
      rcases List.mem_cons.mp z with z | z
      · exact ne_of_none q h z
      · exact n z⟩, fun a xs q => by rw [upd_ne (ne_of_none q h)]; exact q, fun a xs u q => by rw [upd_ne (ne_of_none q h)]; exact q⟩,
    fun a x q _ n => ⟨by rw [upd_ne (ne_of_none q h)]; exact q, fun z => by
      rcases List.mem_append.mp z with z | z
      · exact n z
      · exact ne_of_none q h (by simpa using z)⟩, fun a ha => List.mem_cons_of_mem _ ha⟩
  refine ⟨l, by simp [m.len], ?_, fun a ha => ?_, fun a ha => ?_, m.tab.keep fun a x q n => ⟨by rw [upd_ne (ne_of_none q h)]; exact q, fun z => by
      rcases List.mem_cons.mp z with z | z
      · exact ne_of_none q h z
      · exact n z⟩, fun n a x hn hs => ?_⟩
  · refine List.nodup_append.mpr ⟨m.nd, by simp, fun a ha b hb => ?_⟩
    have : b = p := by simpa using hb
    subst this
    exact fun z => m.ne h (z ▸ m.sub a ha)
  · rcases List.mem_append.mp ha with z | z
    · exact List.mem_cons_of_mem _ (m.sub a z)
    · rw [show a = p by simpa using z]; exact List.mem_cons_self
  · rcases List.mem_cons.mp ha with z | z
    · subst z; exact ⟨o, upd_same, mu⟩
    · rw [upd_ne (show a ≠ p from fun e => m.ne h (by rw [← e]; exact z))]; exact m.tr a z
  · by_cases hlt : n < ι.ι.length
    · have hn' : ι.ι[n]? = some a := by rw [← hn]; exact (List.getElem?_append_left hlt).symm
      rw [List.getElem?_append_left (by rw [← m.len]; exact hlt)] at hs
      exact (m.ob n a x hn' hs).mono l (upd_ne fun z => m.ne h (z ▸ m.sub a (List.mem_of_getElem? hn')))
    · have hn2 : n = ι.ι.length := by
        have := (List.getElem?_eq_some_iff.mp hn).1
        simp at this; omega
      subst hn2
      have hn' : some p = some a := by rw [← hn]; simp
      rw [List.getElem?_append_right (by rw [m.len]; exact Nat.le_refl _)] at hs
      simp [m.len] at hs
      cases hn'
      subst hs
      exact hr l
/-- what may change is changed -/
theorem Ke.write (m : Sim K ca ι s H) {a : Addr} {o : HO} (ha : a ∈ ι.M) : Ke ι H ι (upd H a o) := by
  obtain ⟨x, hx, mu⟩ := m.tr a ha
  exact ⟨List.prefix_rfl, fun b y q _ nb => ⟨by rw [upd_ne (fun z : b = a => nb (by rw [z]; exact ha))]; exact q, nb⟩, fun b xs q => by
      rw [upd_ne (fun z : b = a => by rw [z, hx] at q; cases q; exact mu)]; exact q, fun b ob y q => by
      rw [upd_ne (fun z : b = a => by rw [z, hx] at q; cases q; exact mu)]; exact q⟩
theorem Le.write (m : Sim K ca ι s H) {a : Addr} {o : HO} (ha : a ∈ ι.ι) : Le ι H ι (upd H a o) :=
  ⟨Ke.write m (m.sub a ha), fun b y q _ nb => ⟨by rw [upd_ne (fun z : b = a => nb (by rw [z]; exact ha))]; exact q, nb⟩, fun _ h => h⟩
theorem Sim.idx (m : Sim K ca ι s H) {n j : Nat} {a : Addr} (hn : ι.ι[n]? = some a) (hj : ι.ι[j]? = some a) : n = j := by
  obtain ⟨h1, e1⟩ := List.getElem?_eq_some_iff.mp hn
  obtain ⟨h2, e2⟩ := List.getElem?_eq_some_iff.mp hj
  exact (List.getElem_inj m.nd).mp (e1.trans e2.symm)
/-- a mutable object is changed -/
theorem Sim.write (m : Sim K ca ι s H) {n : Nat} {a : Addr} {o : HO} {u : IO} (hn : ι.ι[n]? = some a) (mu : MutJ o) (hr : Le ι H ι (upd H a o) → RepO K ca ι (upd H a o) a u) :
    Le ι H ι (upd H a o) ∧ Sim K ca ι (s.set n u) (upd H a o) := by
  have l : Le ι H ι (upd H a o) := Le.write m (List.mem_of_getElem? hn)
  refine ⟨l, by simp [m.len], m.nd, m.sub, fun b hb => ?_, m.tab.keep fun b y q nb => ⟨by rw [upd_ne (fun z : b = a => nb (by rw [z]; exact m.sub a (List.mem_of_getElem? hn)))]; exact q, nb⟩, fun j b y hj hs => ?_⟩
  · by_cases e : b = a
    · subst e; exact ⟨o, upd_same, mu⟩
    · rw [upd_ne e]; exact m.tr b hb
  · by_cases e : n = j
    · subst e
      rw [hn] at hj; cases hj
      have hl : n < s.length := by rw [← m.len]; exact (List.getElem?_eq_some_iff.mp hn).1
      rw [List.getElem?_set_self hl] at hs
      cases hs
      exact hr l
    · rw [List.getElem?_set_ne e] at hs
      exact (m.ob j b y hj hs).mono l (upd_ne fun z => e (m.idx hn (z ▸ hj)))
/-- a list that is being filled (not by number) is changed -/
theorem Sim.fill (m : Sim K ca ι s H) {a : Addr} {o : HO} (ha : a ∈ ι.M) (hn : a ∉ ι.ι) (mu : MutJ o) : Ke ι H ι (upd H a o) ∧ Sim K ca ι s (upd H a o) := by
  have l : Ke ι H ι (upd H a o) := Ke.write m ha
  refine ⟨l, m.len, m.nd, m.sub, fun b hb => ?_, m.tab.keep fun b y q nb => ⟨by rw [upd_ne (fun z : b = a => nb (by rw [z]; exact ha))]; exact q, nb⟩, fun j b y hj hs => ?_⟩
  · by_cases e : b = a
    · subst e; exact ⟨o, upd_same, mu⟩
    · rw [upd_ne e]; exact m.tr b hb
  · exact (m.ob j b y hj hs).monoK l (upd_ne fun z => hn (z ▸ List.mem_of_getElem? hj))
/-- a list to be filled comes -/
theorem Sim.open (m : Sim K ca ι s H) {p : Addr} {o : HO} (h : H p = none) (mu : MutJ o) : Le ι H ⟨ι.ι, p :: ι.M⟩ (upd H p o) ∧ Sim K ca ⟨ι.ι, p :: ι.M⟩ s (upd H p o) := by
  have l : Le ι H ⟨ι.ι, p :: ι.M⟩ (upd H p o) := ⟨⟨List.prefix_rfl, fun a x q _ n => ⟨by rw [upd_ne (ne_of_none q h)]; exact q, fun z => by
      rcases List.mem_cons.mp z with z | z
      · exact ne_of_none q h z
      · exact n z⟩, fun a xs q => by rw [upd_ne (ne_of_none q h)]; exact q, fun a xs u q => by rw [upd_ne (ne_of_none q h)]; exact q⟩,
    fun a x q _ n => ⟨by rw [upd_ne (ne_of_none q h)]; exact q, n⟩, fun a ha => List.mem_cons_of_mem _ ha⟩
  refine ⟨l, m.len, m.nd, fun a ha => List.mem_cons_of_mem _ (m.sub a ha), fun a ha => ?_, m.tab.keep fun a x q n => ⟨by rw [upd_ne (ne_of_none q h)]; exact q, fun z => by
      rcases List.mem_cons.mp z with z | z
      · exact ne_of_none q h z
      · exact n z⟩, fun n a x hn hs => ?_⟩
  · rcases List.mem_cons.mp ha with z | z
    · subst z; exact ⟨o, upd_same, mu⟩
    · rw [upd_ne (show a ≠ p from fun e => m.ne h (by rw [← e]; exact z))]; exact m.tr a z
  · exact (m.ob n a x hn hs).mono l (upd_ne fun z => m.ne h (z ▸ m.sub a (List.mem_of_getElem? hn)))
/-- it is filled: from now on it never changes -/
theorem Sim.shut (m : Sim K ca ι s H) {p : Addr} (hn : p ∉ ι.ι) : Ke ι H ⟨ι.ι, ι.M.filter (· ≠ p)⟩ H ∧ Sim K ca ⟨ι.ι, ι.M.filter (· ≠ p)⟩ s H := by
  have l : Ke ι H ⟨ι.ι, ι.M.filter (· ≠ p)⟩ H := ⟨List.prefix_rfl, fun a o h _ n => ⟨h, fun z => n (List.mem_filter.mp z).1⟩, fun _ _ h => h, fun _ _ _ h => h⟩
  refine ⟨l, m.len, m.nd, fun a ha => List.mem_filter.mpr ⟨m.sub a ha, ?_⟩, fun a ha => m.tr a (List.mem_filter.mp ha).1, m.tab.keep fun a o h n => ⟨h, fun z => n (List.mem_filter.mp z).1⟩, fun n a x hn hs => (m.ob n a x hn hs).monoK l rfl⟩
  simp only [ne_eq, decide_not, Bool.not_eq_true', decide_eq_false_iff_not]
  exact fun z => hn (z ▸ ha)
end

/-! ### readings of mirrors -/
def PostE (K : PySem.W.Frag) (ca : Ct) (ι : Wd) (H : Hp) (r : R D) (Q : VK) (E : XK) : Prop := match r with
  | .ok d s' => ∀ ι' v H', Le ι H ι' H' → Sim K ca ι' s' H' → Rep K ι' H' d v → Q v H'
  | .err e s' => ∀ ι' cv dd H', Le ι H ι' H' → Sim K ca ι' s' H' → RepX K ca ι' H' e cv dd → E cv dd H'
  | .no => False
def tG (K : PySem.W.Frag) (ca : Ct) (W : WX) (g : GE) : TE := fun σ H Q => ∃ ι ρ s, RelS K ι H ρ σ ∧ Sim K ca ι s H ∧ PostE K ca ι H (g ρ s) Q (fun cv dd H' => W cv dd σ H')
def PostT (K : PySem.W.Frag) (ca : Ct) (ι : Wd) (H : Hp) (r : R Bool) (Q : Bool → Hp → Prop) (E : XK) : Prop := match r with
  | .ok b s' => ∀ ι' H', Le ι H ι' H' → Sim K ca ι' s' H' → Q b H'
  | .err e s' => ∀ ι' cv dd H', Le ι H ι' H' → Sim K ca ι' s' H' → RepX K ca ι' H' e cv dd → E cv dd H'
  | .no => False
def tT (K : PySem.W.Frag) (ca : Ct) (W : WX) (g : GT) : TT := fun σ H Q => ∃ ι ρ s, RelS K ι H ρ σ ∧ Sim K ca ι s H ∧ PostT K ca ι H (g ρ s) Q (fun cv dd H' => W cv dd σ H')
def PostA (K : PySem.W.Frag) (ca : Ct) (ι : Wd) (H : Hp) (r : R (List D)) (Q : List V → Hp → Prop) (E : XK) : Prop := match r with
  | .ok ds s' => ∀ ι' vs H', Le ι H ι' H' → Sim K ca ι' s' H' → Reps K ι' H' ds vs → Q vs H'
  | .err e s' => ∀ ι' cv dd H', Le ι H ι' H' → Sim K ca ι' s' H' → RepX K ca ι' H' e cv dd → E cv dd H'
  | .no => False
def tA (K : PySem.W.Frag) (ca : Ct) (W : WX) (g : GA) : TA := fun σ H Q => ∃ ι ρ s, RelS K ι H ρ σ ∧ Sim K ca ι s H ∧ PostA K ca ι H (g ρ s) Q (fun cv dd H' => W cv dd σ H')
def PostS (K : PySem.W.Frag) (ca : Ct) (ι : Wd) (H : Hp) (W : WX) (r : R Fl) (D : Ends) : Prop := match r with
  | .ok (.nx ρ') s' => ∀ ι' σ' H', Le ι H ι' H' → Sim K ca ι' s' H' → RelS K ι' H' ρ' σ' → D.nx σ' H'
  | .ok (.bk ρ') s' => ∀ ι' σ' H', Le ι H ι' H' → Sim K ca ι' s' H' → RelS K ι' H' ρ' σ' → D.bk σ' H'
  | .ok (.ct ρ') s' => ∀ ι' σ' H', Le ι H ι' H' → Sim K ca ι' s' H' → RelS K ι' H' ρ' σ' → D.ct σ' H'
  | .ok (.rt d) s' => ∀ ι' v H', Le ι H ι' H' → Sim K ca ι' s' H' → Rep K ι' H' d v → D.rt v H'
  | .err e s' => ∀ ι' cv dd H' σ', Le ι H ι' H' → Sim K ca ι' s' H' → RepX K ca ι' H' e cv dd → W cv dd σ' H'
  | .no => False
def tS (K : PySem.W.Frag) (ca : Ct) (W : WX) (g : GS) : TS := fun D σ H => ∃ ι ρ s, RelS K ι H ρ σ ∧ Sim K ca ι s H ∧ PostS K ca ι H W (g ρ s) D

section
variable {K : PySem.W.Frag} {ca : Ct} {ι ι' : Wd} {H H' : Hp} {r : R D} {Q Q' : VK} {E E' : XK}
theorem PostE.mono (p : PostE K ca ι H r Q E) (l : Le ι H ι' H') : PostE K ca ι' H' r Q E := by
  cases r with
  | ok d s => exact fun ι2 v H2 l2 m q => p ι2 v H2 (l.trans l2) m q
  | err e s => exact fun ι2 cv dd H2 l2 m q => p ι2 cv dd H2 (l.trans l2) m q
  | no => exact p
theorem PostT.mono {r : R Bool} {Q : Bool → Hp → Prop} (p : PostT K ca ι H r Q E) (l : Le ι H ι' H') : PostT K ca ι' H' r Q E := by
  cases r with
  | ok d s => exact fun ι2 H2 l2 m => p ι2 H2 (l.trans l2) m
  | err e s => exact fun ι2 cv dd H2 l2 m q => p ι2 cv dd H2 (l.trans l2) m q
  | no => exact p
theorem PostA.mono {r : R (List D)} {Q : List V → Hp → Prop} (p : PostA K ca ι H r Q E) (l : Le ι H ι' H') : PostA K ca ι' H' r Q E := by
  cases r with
  | ok d s => exact fun ι2 v H2 l2 m q => p ι2 v H2 (l.trans l2) m q
  | err e s => exact fun ι2 cv dd H2 l2 m q => p ι2 cv dd H2 (l.trans l2) m q
  | no => exact p
theorem PostS.mono {W : WX} {r : R Fl} {D : Ends} (p : PostS K ca ι H W r D) (l : Le ι H ι' H') : PostS K ca ι' H' W r D := by
  cases r with
  | ok f s => cases f with
    | nx ρ => exact fun ι2 v H2 l2 m q => p ι2 v H2 (l.trans l2) m q
    | bk ρ => exact fun ι2 v H2 l2 m q => p ι2 v H2 (l.trans l2) m q
    | ct ρ => exact fun ι2 v H2 l2 m q => p ι2 v H2 (l.trans l2) m q
    | rt d => exact fun ι2 v H2 l2 m q => p ι2 v H2 (l.trans l2) m q
  | err e s => exact fun ι2 cv dd H2 σ' l2 m q => p ι2 cv dd H2 σ' (l.trans l2) m q
  | no => exact p
end
end J


set_option Elab.async false
set_option linter.all false
set_option maxRecDepth 100000
set_option maxHeartbeats 4000000
/-! J1: operations on data; the judgements; names, constants, operators, comparisons, tests, displays. -/
namespace J
open PySem PySem.Spec L2

/-! ### operations on data -/
mutual
def D.toPy : D → Option PyData
  | .non => some .none
  | .bl b => some (.bool b)
  | .int i => some (.int i)
  | .str x => some (.str x)
  | .tup ds => (D.toPys ds).map PyData.tuple
  | .lst ds => (D.toPys ds).map PyData.list
  | .frz ds => (D.toPys ds).map PyData.list
  | .ty _ => none
  | .obj _ => none
  | .raw _ => none
def D.toPys : List D → Option (List PyData)
  | [] => some []
  | d :: ds => match D.toPy d, D.toPys ds with
    | some p, some ps => some (p :: ps)
    | _, _ => none
end
/-- the items of a list (of a mutable one: as they stand) -/
def itemsL (s : S) : D → Option (List D)
  | .lst ds => some ds
  | .frz ds => some ds
  | .obj n => match s[n]? with | some (.lst ds) => some ds | _ => none
  | _ => none
def itemsT : D → Option (List D)
  | .tup ds => some ds
  | _ => none
/-- a mutable list as a value for reading -/
def deref (s : S) : D → D
  | .obj n => match s[n]? with | some (.lst ds) => .lst ds | _ => .obj n
  | d => d
def eqD (s : S) (x y : D) : Option Bool := match (deref s x).toPy, (deref s y).toPy with
  | some a, some b => if SeqAt.shaped a && SeqAt.shaped b then some (PyData.eqv a b) else none
  | _, _ => none
def fEq (s : S) (x y : D) : Option D := (eqD s x y).map .bl
def fNe (s : S) (x y : D) : Option D := (eqD s x y).map fun b => .bl !b
def fitL (n : Nat) : Bool := n ≤ 16777216
def fAdd (_ : S) : D → D → Option D
  | .int i, .int j => some (.int (i + j))
  | .str x, .str y => if fitL (x.length + y.length) then some (.str (x ++ y)) else none
  | .tup x, .tup y => if fitL (x.length + y.length) then some (.tup (x ++ y)) else none
  | .lst x, .lst y => if fitL (x.length + y.length) then some (.lst (x ++ y)) else none
  | _, _ => none
def fSub (_ : S) : D → D → Option D
  | .int i, .int j => some (.int (i - j))
  | _, _ => none
def small64 (i : Int) : Bool := decide (-(2 ^ 64) < i) && decide (i < 2 ^ 64)
def fMul (_ : S) : D → D → Option D
  | .int i, .int j => if small64 i || small64 j then some (.int (i * j)) else none
  | .lst x, .int j => if decide (-(2 ^ 63) ≤ j) && decide (j < 2 ^ 63) && fitL (x.length * j.toNat) then some (.lst (List.replicate j.toNat x).flatten) else none
  | .tup x, .int j => if !x.isEmpty && decide (2 ≤ j) && decide (j ≤ 1000) && decide (x.length ≤ 1000) then some (.tup (List.replicate j.toNat x).flatten) else none
  | _, _ => none
def fDiv (_ : S) : D → D → Option D
  | .int i, .int j => if decide (0 < j) && decide (j < 1073741824) then some (.int (i / j)) else none
  | _, _ => none
def fMod (_ : S) : D → D → Option D
  | .int i, .int j => if decide (0 < j) then some (.int (i % j)) else none
  | _, _ => none
def fPow (_ : S) : D → D → Option D
  | .int i, .int j => if decide (0 ≤ j) && decide (j ≤ 1000000) && decide (i.natAbs < 2 ^ 64) then some (.int (i ^ j.toNat)) else none
  | _, _ => none
def fLt (_ : S) : D → D → Option D
  | .int i, .int j => some (.bl (decide (i < j)))
  | .str i, .str j => some (.bl (decide (i.cps.toList < j.cps.toList)))
  | _, _ => none
def fLe (_ : S) : D → D → Option D
  | .int i, .int j => some (.bl (decide (i ≤ j)))
  | _, _ => none
def fGt (_ : S) : D → D → Option D
  | .int i, .int j => some (.bl (decide (j < i)))
  | _, _ => none
def fGe (_ : S) : D → D → Option D
  | .int i, .int j => some (.bl (decide (j ≤ i)))
  | _, _ => none
/-- x is y, y None, True or False -/
def isD : D → D → Option Bool
  | .non, .non => some true
  | .bl a, .bl b => some (decide (a = b))
  | _, .non => some false
  | _, _ => none
def fIs (_ : S) (x y : D) : Option D := (isD x y).map .bl
def fIsN (_ : S) (x y : D) : Option D := (isD x y).map fun b => .bl !b
/-- x in y -/
def inD (s : S) (x y : D) : Option Bool := match y with
  | .str j => match x with | .str i => some (!(Builtin.Str.occurrences j i 0 j.length 1).isEmpty) | _ => none
  | .tup ds => match D.toPy x, D.toPys ds with
    | some p, some ps => if SeqAt.shaped p && SeqAt.shaped (.tuple ps) then some (ps.any fun z => PyData.eqv z p) else none
    | _, _ => none
  | y => match itemsL s y with
    | some ds => match D.toPy x, D.toPys ds with
      | some p, some ps => if SeqAt.shaped p && SeqAt.shaped (.list ps) then some (ps.any fun z => PyData.eqv z p) else none
      | _, _ => none
    | none => none
def fIn (s : S) (x y : D) : Option D := (inD s x y).map .bl
def fNotIn (s : S) (x y : D) : Option D := (inD s x y).map fun b => .bl !b
/-- x[i] -/
def fIdx (s : S) (x i : D) : Option D := match i with
  | .int i => match x with
    | .str z => if fitL z.length then (atI z.cps.toList i).map fun c => .str ⟨#[c]⟩ else none
    | .tup ds => atI ds i
    | x => (itemsL s x).bind fun ds => atI ds i
  | _ => none
def fLen (s : S) (x : D) : Option D := match x with
  | .str z => if fitL z.length then some (.int z.length) else none
  | .tup ds => some (.int ds.length)
  | x => (itemsL s x).map fun ds => .int ds.length

/-! ### data in the heap -/
section
variable {K : PySem.W.Frag} {ca : Ct} {ι ι' : Wd} {H H' : Hp} {s : S}
theorem Sim.items (m : Sim K ca ι s H) {d : D} {v : V} {ds : List D} (r : Rep K ι H d v) (h : itemsL s d = some ds) : ∃ a vs, v = .ref a ∧ SqL K H a vs ∧ Reps K ι H ds vs := by
  cases r with
  | lst h1 h2 h3 => cases h; exact ⟨_, _, rfl, SqL.of h1, h3⟩
  | frz h1 h3 => cases h; exact ⟨_, _, rfl, h1.sq, h3⟩
  | frz2 h1 h2 h3 => cases h; exact ⟨_, _, rfl, SqL.of h1, h3⟩
  | @obj a n h1 =>
    simp only [itemsL] at h
    split at h
    · rename_i e
      cases h
      obtain ⟨vs, h2, h3⟩ := m.ob n a _ h1 e
      exact ⟨_, _, rfl, SqL.of h2, h3⟩
    · cases h
  | _ => cases h
theorem Rep.tupOf {ds : List D} {v : V} (r : Rep K ι H (.tup ds) v) : ∃ a vs, v = .ref a ∧ TupAt K H a vs ∧ Reps K ι H ds vs := by
  cases r with
  | tup h r => exact ⟨_, _, rfl, h, r⟩
mutual
theorem Rep.dp : ∀ {d : D} {v : V} {p : PyData}, Rep K ι H d v → d.toPy = some p → Dp K H v p
  | _, _, _, .non, h => by cases h; exact .non
  | _, _, _, .bl b, h => by cases h; exact .bl b
  | _, _, _, .int i, h => by cases h; exact .int i
  | _, _, _, .str x, h => by cases h; exact .str x
  | _, _, _, .ty _, h => by simp [D.toPy] at h
  | _, _, _, .obj _, h => by simp [D.toPy] at h
  | _, _, _, .raw _, h => by simp [D.toPy] at h
  | _, _, _, .tup h1 r, h => by
    simp only [D.toPy, Option.map_eq_some_iff] at h
    obtain ⟨ps, e, rfl⟩ := h
    exact .tup h1.sq (Reps.dp r e)
  | _, _, _, .lst h1 _ r, h => by
    simp only [D.toPy, Option.map_eq_some_iff] at h
    obtain ⟨ps, e, rfl⟩ := h
    exact .lst (SqL.of h1) (Reps.dp r e)
  | _, _, _, .frz h1 r, h => by
    simp only [D.toPy, Option.map_eq_some_iff] at h
    obtain ⟨ps, e, rfl⟩ := h
    exact .lst h1.sq (Reps.dp r e)
  | _, _, _, .frz2 h1 _ r, h => by
    simp only [D.toPy, Option.map_eq_some_iff] at h
    obtain ⟨ps, e, rfl⟩ := h
    exact .lst (SqL.of h1) (Reps.dp r e)
theorem Reps.dp : ∀ {ds : List D} {vs : List V} {ps : List PyData}, Reps K ι H ds vs → D.toPys ds = some ps → DpAll K H vs ps
  | _, _, _, .nil, h => by cases h; exact .nil
  | _, _, _, .cons r t, h => by
    simp only [D.toPys] at h
    split at h
    · rename_i e1 e2
      cases h
      exact .cons (Rep.dp r e1) (Reps.dp t e2)
    · cases h
end
theorem Sim.dp (m : Sim K ca ι s H) {d : D} {v : V} {p : PyData} (r : Rep K ι H d v) (h : (deref s d).toPy = some p) : Dp K H v p := by
  cases r with
  | @obj a n h1 =>
    simp only [deref] at h
    split at h
    · rename_i ds e
      obtain ⟨vs, h2, h3⟩ := m.ob n a _ h1 e
      simp only [D.toPy, Option.map_eq_some_iff] at h
      obtain ⟨ps, e, rfl⟩ := h
      exact .lst (SqL.of h2) (Reps.dp h3 e)
    · simp [D.toPy] at h
  | non => exact Rep.dp (ι := ι) .non h
  | bl b => exact Rep.dp (ι := ι) (.bl b) h
  | int i => exact Rep.dp (ι := ι) (.int i) h
  | str x => exact Rep.dp (ι := ι) (.str x) h
  | ty n => simp [deref, D.toPy] at h
  | raw n => simp [deref, D.toPy] at h
  | tup a b => exact Rep.dp (.tup a b) h
  | lst a b c => exact Rep.dp (.lst a b c) h
  | frz a b => exact Rep.dp (.frz a b) h
  | frz2 a b c => exact Rep.dp (.frz2 a b c) h
end
theorem fitL_le {n : Nat} (h : fitL n = true) : n ≤ sizeLine := by
  rw [sizeLine_eq]
  simpa [fitL] using h

/-! ### two values to one -/
def OpJ (K : PySem.W.Frag) (ca : Ct) (r : R2) (f : S → D → D → Option D) : Prop :=
  ∀ (ι : Wd) (s : S) (H : Hp) (d e : D) (v u : V) (x : D) (Q : VK), Sim K ca ι s H → Rep K ι H d v → Rep K ι H e u → f s d e = some x →
    (∀ ι' v' H', Le ι H ι' H' → Sim K ca ι' s H' → Rep K ι' H' x v' → Q v' H') → r v u H Q
section
variable {X : Cx} {ca : Ct}
theorem OpR.imp {f : Value → Value → Sem Value} {r r' : R2} (h : OpR X f r) (i : ∀ x y H Q, r' x y H Q → r x y H Q) : OpR X f r' := fun pins s σ H x y v u Q I rx ry q => h pins s σ H x y v u Q I rx ry (i _ _ _ _ q)

/-- the reading: some mirror value, and what follows of it -/
def rJ (K : PySem.W.Frag) (ca : Ct) (f : S → D → D → Option D) : R2 := fun v u H Q => ∃ ι s d e x, Sim K ca ι s H ∧ Rep K ι H d v ∧ Rep K ι H e u ∧ f s d e = some x ∧
  ∀ ι' v' H', Le ι H ι' H' → Sim K ca ι' s H' → Rep K ι' H' x v' → Q v' H'
theorem oj_add : OpR X (binaryOp .Add) (rJ X.K ca fAdd) := by
  refine OpR.imp (((op_add.or op_add_str).or op_catA).or op_cat) fun v u H Q ⟨ι, s, d, e, x, m, rd, re, hf, q⟩ => ?_
  cases rd <;> cases re <;> simp only [fAdd] at hf <;> first | cases hf | skip
  · exact .inl (.inl (.inl ⟨_, _, rfl, rfl, q _ _ _ .refl m (.int _)⟩))
  · split at hf
    · rename_i hl
      cases hf
      exact .inl (.inl (.inr ⟨_, _, rfl, rfl, fitL_le hl, q _ _ _ .refl m (.str _)⟩))
    · cases hf
  · rename_i a vs ds h1 h2 b ws es h3 h4 _
    split at hf
    · rename_i hl
      cases hf
      refine .inl (.inr ⟨_, _, _, _, rfl, rfl, h1.sq, h3.sq, by rw [← h2.length, ← h4.length]; exact fitL_le hl, fun e => ?_, fun _ e => ?_, fun _ _ p hp => ?_⟩)
      · subst e
        cases h2
        exact q _ _ _ .refl m (.tup h3 h4)
      · subst e
        cases h4
        rw [List.append_nil] at q
        exact q _ _ _ .refl m (.tup h1 h2)
      · obtain ⟨l, m'⟩ := m.new (o := .tup (vs ++ ws)) hp
        exact q _ _ _ l m' (.tup (.inl upd_same) ((h2.append h4).mono l))
    · cases hf
  · rename_i a vs ds h1 n1 h2 b ws es h3 n3 h4 _
    split at hf
    · rename_i hl
      cases hf
      refine .inr ⟨_, _, _, _, rfl, rfl, h1, h3, by rw [← h2.length, ← h4.length]; exact fitL_le hl, fun p hp => ?_⟩
      obtain ⟨l, m'⟩ := m.new (o := .lst (vs ++ ws)) hp
      exact q _ _ _ l m' (.lst upd_same (m.ne hp) ((h2.append h4).mono l))
    · cases hf
theorem oj_sub : OpR X (binaryOp .Sub) (rJ X.K ca fSub) := by
  refine OpR.imp op_sub fun v u H Q ⟨ι, s, d, e, x, m, rd, re, hf, q⟩ => ?_
  cases rd <;> cases re <;> simp only [fSub] at hf <;> first | cases hf | skip
  exact ⟨_, _, rfl, rfl, q _ _ _ .refl m (.int _)⟩
theorem oj_mul : OpR X (binaryOp .Mult) (rJ X.K ca fMul) := by
  refine OpR.imp ((op_mul.or op_rep).or op_repT) fun v u H Q ⟨ι, s, d, e, x, m, rd, re, hf, q⟩ => ?_
  cases rd <;> cases re <;> simp only [fMul] at hf <;> first | cases hf | skip
  · split at hf
    · rename_i hl
      cases hf
      refine .inl (.inl ⟨_, _, rfl, rfl, ?_, q _ _ _ .refl m (.int _)⟩)
      simp only [small64, Bool.or_eq_true, Bool.and_eq_true, decide_eq_true_eq] at hl
      exact hl
    · cases hf
  · rename_i a vs ds h1 h2 j _
    split at hf
    · rename_i hl
      cases hf
      simp only [Bool.and_eq_true, decide_eq_true_eq, Bool.not_eq_true'] at hl
      obtain ⟨⟨⟨l1, l2⟩, l3⟩, l4⟩ := hl
      refine .inr ⟨_, _, _, rfl, rfl, h1.sq, fun z => ?_, l2, l3, by rw [← h2.length]; exact l4, fun p hp => ?_⟩
      · subst z
        cases h2
        simp at l1
      · obtain ⟨l, m'⟩ := m.new (o := .tup (List.replicate j.toNat vs).flatten) hp
        exact q _ _ _ l m' (.tup (.inl upd_same) ((h2.flat _).mono l))
    · cases hf
  · rename_i a vs ds h1 n1 h2 j _
    split at hf
    · rename_i hl
      cases hf
      simp only [Bool.and_eq_true, decide_eq_true_eq] at hl
      obtain ⟨⟨l1, l2⟩, l3⟩ := hl
      refine .inl (.inr ⟨_, _, _, rfl, rfl, h1, l1, l2, by rw [← h2.length]; exact fitL_le l3, fun p hp => ?_⟩)
      obtain ⟨l, m'⟩ := m.new (o := .lst (List.replicate j.toNat vs).flatten) hp
      exact q _ _ _ l m' (.lst upd_same (m.ne hp) ((h2.flat _).mono l))
    · cases hf
theorem oj_div : OpR X (binaryOp .FloorDiv) (rJ X.K ca fDiv) := by
  refine OpR.imp op_fdiv fun v u H Q ⟨ι, s, d, e, x, m, rd, re, hf, q⟩ => ?_
  cases rd <;> cases re <;> simp only [fDiv] at hf <;> first | cases hf | skip
  split at hf
  · rename_i hl
    cases hf
    simp only [Bool.and_eq_true, decide_eq_true_eq] at hl
    exact ⟨_, _, rfl, rfl, hl, q _ _ _ .refl m (.int _)⟩
  · cases hf
theorem oj_mod : OpR X (binaryOp .Mod) (rJ X.K ca fMod) := by
  refine OpR.imp op_mod fun v u H Q ⟨ι, s, d, e, x, m, rd, re, hf, q⟩ => ?_
  cases rd <;> cases re <;> simp only [fMod] at hf <;> first | cases hf | skip
  split at hf
  · rename_i hl
    cases hf
    simp only [decide_eq_true_eq] at hl
    exact ⟨_, _, rfl, rfl, hl, q _ _ _ .refl m (.int _)⟩
  · cases hf
theorem oj_pow : OpR X (binaryOp .Pow) (rJ X.K ca fPow) := by
  refine OpR.imp op_pow fun v u H Q ⟨ι, s, d, e, x, m, rd, re, hf, q⟩ => ?_
  cases rd <;> cases re <;> simp only [fPow] at hf <;> first | cases hf | skip
  split at hf
  · rename_i hl
    cases hf
    simp only [Bool.and_eq_true, decide_eq_true_eq] at hl
    exact ⟨_, _, rfl, rfl, ⟨hl.1.1, hl.1.2, hl.2⟩, q _ _ _ .refl m (.int _)⟩
  · cases hf
theorem oj_lt : OpR X (compareOp .Lt) (rJ X.K ca fLt) := by
  refine OpR.imp (op_lt.or op_lt_str) fun v u H Q ⟨ι, s, d, e, x, m, rd, re, hf, q⟩ => ?_
  cases rd <;> cases re <;> simp only [fLt] at hf <;> first | cases hf | skip
  · exact .inl ⟨_, _, rfl, rfl, q _ _ _ .refl m (.bl _)⟩
  · exact .inr ⟨_, _, rfl, rfl, q _ _ _ .refl m (.bl _)⟩
theorem oj_le : OpR X (compareOp .LtE) (rJ X.K ca fLe) := by
  refine OpR.imp op_le fun v u H Q ⟨ι, s, d, e, x, m, rd, re, hf, q⟩ => ?_
  cases rd <;> cases re <;> simp only [fLe] at hf <;> first | cases hf | skip
  exact ⟨_, _, rfl, rfl, q _ _ _ .refl m (.bl _)⟩
theorem oj_gt : OpR X (compareOp .Gt) (rJ X.K ca fGt) := by
  refine OpR.imp op_gt fun v u H Q ⟨ι, s, d, e, x, m, rd, re, hf, q⟩ => ?_
  cases rd <;> cases re <;> simp only [fGt] at hf <;> first | cases hf | skip
  exact ⟨_, _, rfl, rfl, q _ _ _ .refl m (.bl _)⟩
theorem oj_ge : OpR X (compareOp .GtE) (rJ X.K ca fGe) := by
  refine OpR.imp op_ge fun v u H Q ⟨ι, s, d, e, x, m, rd, re, hf, q⟩ => ?_
  cases rd <;> cases re <;> simp only [fGe] at hf <;> first | cases hf | skip
  exact ⟨_, _, rfl, rfl, q _ _ _ .refl m (.bl _)⟩
theorem oj_eq (hu : X.A.units + 64 < cLine) : OpR X (compareOp .Eq) (rJ X.K ca fEq) := by
  refine OpR.imp (op_eqD hu) fun v u H Q ⟨ι, s, d, e, x, m, rd, re, hf, q⟩ => ?_
  simp only [fEq, Option.map_eq_some_iff] at hf
  obtain ⟨b, hb, rfl⟩ := hf
  unfold eqD at hb
  split at hb
  · rename_i p1 p2 e1 e2
    split at hb
    · rename_i hs
      cases hb
      simp only [Bool.and_eq_true] at hs
      exact ⟨_, _, m.dp rd e1, m.dp re e2, hs.1, hs.2, q _ _ _ .refl m (.bl _)⟩
    · cases hb
  · cases hb
theorem oj_ne (hu : X.A.units + 64 < cLine) : OpR X (compareOp .NotEq) (rJ X.K ca fNe) := by
  refine OpR.imp (op_neD hu) fun v u H Q ⟨ι, s, d, e, x, m, rd, re, hf, q⟩ => ?_
  simp only [fNe, Option.map_eq_some_iff] at hf
  obtain ⟨b, hb, rfl⟩ := hf
  unfold eqD at hb
  split at hb
  · rename_i p1 p2 e1 e2
    split at hb
    · rename_i hs
      cases hb
      simp only [Bool.and_eq_true] at hs
      exact ⟨_, _, m.dp rd e1, m.dp re e2, hs.1, hs.2, q _ _ _ .refl m (.bl _)⟩
    · cases hb
  · cases hb
theorem isD_none {K : PySem.W.Frag} {ι : Wd} {H : Hp} {d : D} {v : V} {b : Bool} (r : Rep K ι H d v) (h : isD d .non = some b) : decide (v = V.non) = b := by
  cases r <;> simp only [isD] at h <;> cases h <;> rfl
theorem oj_is : OpR X (compareOp .Is) (rJ X.K ca fIs) := by
  refine OpR.imp (op_isN.or op_is_bl) fun v u H Q ⟨ι, s, d, e, x, m, rd, re, hf, q⟩ => ?_
  simp only [fIs, Option.map_eq_some_iff] at hf
  obtain ⟨b, hb, rfl⟩ := hf
  cases re with
  | non => exact .inl ⟨rfl, by rw [isD_none rd hb]; exact q _ _ _ .refl m (.bl _)⟩
  | bl c =>
    cases rd <;> simp only [isD] at hb <;> first | cases hb | skip
    exact .inr ⟨_, _, rfl, rfl, q _ _ _ .refl m (.bl _)⟩
  | _ => cases rd <;> simp only [isD] at hb <;> cases hb
theorem oj_isnot : OpR X (compareOp .IsNot) (rJ X.K ca fIsN) := by
  refine OpR.imp (op_notN.or op_isnot_bl) fun v u H Q ⟨ι, s, d, e, x, m, rd, re, hf, q⟩ => ?_
  simp only [fIsN, Option.map_eq_some_iff] at hf
  obtain ⟨b, hb, rfl⟩ := hf
  cases re with
  | non => exact .inl ⟨rfl, by rw [isD_none rd hb]; exact q _ _ _ .refl m (.bl _)⟩
  | bl c =>
    cases rd <;> simp only [isD] at hb <;> first | cases hb | skip
    exact .inr ⟨_, _, rfl, rfl, q _ _ _ .refl m (.bl _)⟩
  | _ => cases rd <;> simp only [isD] at hb <;> cases hb
/-- x in a tuple of data -/
theorem op_inTD (hu : X.A.units + 65 < cLine) : OpR X (compareOp .In) (fun x y H Q => ∃ d ds, Dp X.K H x d ∧ Dp X.K H y (.tuple ds) ∧ SeqAt.shaped d = true ∧ SeqAt.shaped (.tuple ds) = true ∧ Q (.bl (ds.any fun z => PyData.eqv z d)) H) := by
  intro pins s σ H x y v u Q I rx ry h
  obtain ⟨d, ds, hd, he, sd, se, q⟩ := h
  obtain ⟨as, r1⟩ := Dp.reads I d x v hd rx
  obtain ⟨bs, r2⟩ := Dp.reads I (.tuple ds) y u he ry
  exact SeqAt.in_tuple_reads r2 r1 (SeqAt.canLay_of_shaped se) (SeqAt.canLay_of_shaped sd) (PyProof.Rows.room_in_shaped sd hu) ⟨.bl _, H, I, rfl, q⟩
theorem op_notInTD (hu : X.A.units + 65 < cLine) : OpR X (compareOp .NotIn) (fun x y H Q => ∃ d ds, Dp X.K H x d ∧ Dp X.K H y (.tuple ds) ∧ SeqAt.shaped d = true ∧ SeqAt.shaped (.tuple ds) = true ∧ Q (.bl (!ds.any fun z => PyData.eqv z d)) H) := by
  intro pins s σ H x y v u Q I rx ry h
  obtain ⟨d, ds, hd, he, sd, se, q⟩ := h
  obtain ⟨as, r1⟩ := Dp.reads I d x v hd rx
  obtain ⟨bs, r2⟩ := Dp.reads I (.tuple ds) y u he ry
  exact SeqAt.notIn_tuple_reads r2 r1 (SeqAt.canLay_of_shaped se) (SeqAt.canLay_of_shaped sd) (PyProof.Rows.room_in_shaped sd hu) ⟨.bl _, H, I, rfl, q⟩
theorem inD_cases {K : PySem.W.Frag} {ι : Wd} {H : Hp} {s : S} {x y : D} {v u : V} {b : Bool} (m : Sim K ca ι s H) (rd : Rep K ι H x v) (re : Rep K ι H y u) (h : inD s x y = some b) :
    (∃ i j, v = .str i ∧ u = .str j ∧ b = !(Builtin.Str.occurrences j i 0 j.length 1).isEmpty) ∨
    (∃ d ds, Dp K H v d ∧ Dp K H u (.tuple ds) ∧ SeqAt.shaped d = true ∧ SeqAt.shaped (.tuple ds) = true ∧ b = ds.any fun z => PyData.eqv z d) ∨
    (∃ d ds, Dp K H v d ∧ Dp K H u (.list ds) ∧ SeqAt.shaped d = true ∧ SeqAt.shaped (.list ds) = true ∧ b = ds.any fun z => PyData.eqv z d) := by
  have lists : ∀ {ds : List D}, itemsL s y = some ds → (match D.toPy x, D.toPys ds with
      | some p, some ps => if SeqAt.shaped p && SeqAt.shaped (.list ps) then some (ps.any fun z => PyData.eqv z p) else none
      | _, _ => none) = some b → ∃ d ds, Dp K H v d ∧ Dp K H u (.list ds) ∧ SeqAt.shaped d = true ∧ SeqAt.shaped (.list ds) = true ∧ b = ds.any fun z => PyData.eqv z d := fun {ds} hi hb => by
    obtain ⟨a, vs, rfl, h1, h2⟩ := m.items re hi
    split at hb
    · rename_i p ps e1 e2
      split at hb
      · rename_i hs
        cases hb
        simp only [Bool.and_eq_true] at hs
        exact ⟨_, _, Rep.dp rd e1, .lst h1 (Reps.dp h2 e2), hs.1, hs.2, rfl⟩
      · cases hb
    · cases hb
  cases re with
  | str j =>
    simp only [inD] at h
    cases rd <;> simp only at h <;> cases h
    exact .inl ⟨_, _, rfl, rfl, rfl⟩
  | @tup a vs ds h1 h2 =>
    simp only [inD] at h
    split at h
    · rename_i p ps e1 e2
      split at h
      · rename_i hs
        cases h
        simp only [Bool.and_eq_true] at hs
        exact .inr (.inl ⟨_, _, Rep.dp rd e1, .tup h1.sq (Reps.dp h2 e2), hs.1, hs.2, rfl⟩)
      · cases h
    · cases h
  | non => simp [inD, itemsL] at h
  | bl _ => simp [inD, itemsL] at h
  | int _ => simp [inD, itemsL] at h
  | ty _ => simp [inD, itemsL] at h
  | raw _ => simp [inD, itemsL] at h
  | @lst a vs ds _ _ _ => exact .inr (.inr (lists (ds := ds) rfl h))
  | @frz a vs ds _ _ => exact .inr (.inr (lists (ds := ds) rfl h))
  | @frz2 a vs ds _ _ _ => exact .inr (.inr (lists (ds := ds) rfl h))
  | @obj a n _ =>
    cases e : itemsL s (.obj n) with
    | none => simp only [inD, e] at h; cases h
    | some ds => simp only [inD, e] at h; exact .inr (.inr (lists e h))
theorem oj_in (hu : X.A.units + 65 < cLine) : OpR X (compareOp .In) (rJ X.K ca fIn) := by
  refine OpR.imp (op_in_str.or ((op_inTD hu).or (op_inD hu))) fun v u H Q ⟨ι, s, d, e, x, m, rd, re, hf, q⟩ => ?_
  simp only [fIn, Option.map_eq_some_iff] at hf
  obtain ⟨b, hb, rfl⟩ := hf
  rcases inD_cases m rd re hb with ⟨i, j, rfl, rfl, rfl⟩ | ⟨p, ps, h1, h2, h3, h4, rfl⟩ | ⟨p, ps, h1, h2, h3, h4, rfl⟩
  · exact .inl ⟨_, _, rfl, rfl, q _ _ _ .refl m (.bl _)⟩
  · exact .inr (.inl ⟨_, _, h1, h2, h3, h4, q _ _ _ .refl m (.bl _)⟩)
  · exact .inr (.inr ⟨_, _, h1, h2, h3, h4, q _ _ _ .refl m (.bl _)⟩)
theorem oj_notin (hu : X.A.units + 65 < cLine) : OpR X (compareOp .NotIn) (rJ X.K ca fNotIn) := by
  refine OpR.imp (op_notin_str.or ((op_notInTD hu).or (op_notInD hu))) fun v u H Q ⟨ι, s, d, e, x, m, rd, re, hf, q⟩ => ?_
  simp only [fNotIn, Option.map_eq_some_iff] at hf
  obtain ⟨b, hb, rfl⟩ := hf
  rcases inD_cases m rd re hb with ⟨i, j, rfl, rfl, rfl⟩ | ⟨p, ps, h1, h2, h3, h4, rfl⟩ | ⟨p, ps, h1, h2, h3, h4, rfl⟩
  · exact .inl ⟨_, _, rfl, rfl, q _ _ _ .refl m (.bl _)⟩
  · exact .inr (.inl ⟨_, _, h1, h2, h3, h4, q _ _ _ .refl m (.bl _)⟩)
  · exact .inr (.inr ⟨_, _, h1, h2, h3, h4, q _ _ _ .refl m (.bl _)⟩)
theorem IxR.imp {r r' : R2} (h : IxR X r) (i : ∀ x y H Q, r' x y H Q → r x y H Q) : IxR X r' := fun value slice pins s σ H x y v u Q I rx ry q hs => h value slice pins s σ H x y v u Q I rx ry (i _ _ _ _ q) hs
theorem Reps.atI {K : PySem.W.Frag} {ι : Wd} {H : Hp} {ds : List D} {vs : List V} {i : Int} {d : D} (r : Reps K ι H ds vs) (h : L2.atI ds i = some d) : ∃ v, L2.atI vs i = some v ∧ Rep K ι H d v := by
  unfold L2.atI at h ⊢
  rw [← r.length]
  cases e : ixN ds.length i with
  | none => rw [e] at h; cases h
  | some j =>
    rw [e] at h
    exact r.get h
theorem ij_ix : IxR X (rJ X.K ca fIdx) := by
  refine IxR.imp ix_seq fun v u H Q ⟨ι, s, d, e, x, m, rd, re, hf, q⟩ => ?_
  have lists : ∀ {ds : List D} {i : Int}, u = .int i → itemsL s d = some ds → L2.atI ds i = some x → rIx X.K v u H Q := fun {ds i} hu hi ha => by
    subst hu
    obtain ⟨a, vs, rfl, h1, h2⟩ := m.items rd hi
    obtain ⟨v', h3, h4⟩ := h2.atI ha
    exact .inl ⟨_, _, _, _, rfl, rfl, h1, h3, q _ _ _ .refl m h4⟩
  cases re <;> simp only [fIdx] at hf <;> first | cases hf | skip
  rename_i i
  cases rd with
  | str z =>
    simp only at hf
    split at hf
    · rename_i hl
      simp only [Option.map_eq_some_iff] at hf
      obtain ⟨c, hc, rfl⟩ := hf
      exact .inr (.inr ⟨_, _, _, rfl, rfl, fitL_le hl, hc, q _ _ _ .refl m (.str _)⟩)
    · cases hf
  | @tup a vs ds h1 h2 =>
    obtain ⟨v', h3, h4⟩ := h2.atI hf
    exact .inr (.inl ⟨_, _, _, _, rfl, rfl, h1.sq, h3, q _ _ _ .refl m h4⟩)
  | non => simp [itemsL] at hf
  | bl _ => simp [itemsL] at hf
  | int _ => simp [itemsL] at hf
  | ty _ => simp [itemsL] at hf
  | raw _ => simp [itemsL] at hf
  | @lst a vs ds _ _ _ => exact lists (ds := ds) rfl rfl hf
  | @frz a vs ds _ _ => exact lists (ds := ds) rfl rfl hf
  | @frz2 a vs ds _ _ _ => exact lists (ds := ds) rfl rfl hf
  | @obj a n _ =>
    cases e : itemsL s (.obj n) with
    | none => simp only [e] at hf; cases hf
    | some ds => simp only [e] at hf; exact lists rfl e hf
end
end J


set_option Elab.async false
set_option linter.all false
set_option maxRecDepth 100000
set_option maxHeartbeats 4000000
/-! J2: the judgements; names, constants, operators, comparisons, tests, displays, calls of built-ins. -/
namespace J
open PySem PySem.Spec L2

def R.ofO {α : Type} (o : Option α) (s : S) : R α := match o with | some a => .ok a s | none => .no
@[simp] theorem R.ofO_some {α : Type} (a : α) (s : S) : R.ofO (some a) s = .ok a s := rfl
@[simp] theorem R.ofO_none {α : Type} (s : S) : R.ofO (none : Option α) s = .no := rfl
@[simp] theorem R.bind_ok {α β : Type} (a : α) (s : S) (k : α → S → R β) : (R.ok a s).bind k = k a s := rfl
@[simp] theorem R.bind_err {α β : Type} (e : Ex) (s : S) (k : α → S → R β) : (R.err e s).bind k = .err e s := rfl
@[simp] theorem R.bind_no {α β : Type} (k : α → S → R β) : (R.no : R α).bind k = .no := rfl

def JE (X : Cx) (ca : Ct) (W : WX) (e : Expr) (g : GE) : Prop := PE X e (tG X.K ca W g)
def JT (X : Cx) (ca : Ct) (W : WX) (e : Expr) (g : GT) : Prop := PT X e (tT X.K ca W g)
def JW (X : Cx) (ca : Ct) (W : WX) (e : Expr) (g : GT) : Prop := PW X e (tT X.K ca W g)
def JA (X : Cx) (ca : Ct) (W : WX) (es : List Expr) (g : GA) : Prop := PA X es (tA X.K ca W g)

structure Fam (K : PySem.W.Frag) (ca : Ct) (E : XK) {β : Type} (Φ : Wd → Hp → R β → Prop) : Prop where
  mono : ∀ {ι H ι' H' r}, Φ ι H r → Le ι H ι' H' → Φ ι' H' r
  err : ∀ {ι H e s}, Φ ι H (.err e s) → ∀ ι' cv dd H', Le ι H ι' H' → Sim K ca ι' s H' → RepX K ca ι' H' e cv dd → E cv dd H'
  no : ∀ {ι H}, ¬ Φ ι H .no
section
variable {K : PySem.W.Frag} {ca : Ct} {ι : Wd} {H : Hp} {ρ : Env} {σ : L2.St} {s : S} {W : WX}
theorem famE {E : XK} {Q : VK} : Fam K ca E (fun ι H r => PostE K ca ι H r Q E) := ⟨fun h l => h.mono l, fun h => h, fun h => h⟩
theorem famT {E : XK} {Q : Bool → Hp → Prop} : Fam K ca E (fun ι H r => PostT K ca ι H r Q E) := ⟨fun h l => h.mono l, fun h => h, fun h => h⟩
theorem famA {E : XK} {Q : List V → Hp → Prop} : Fam K ca E (fun ι H r => PostA K ca ι H r Q E) := ⟨fun h l => h.mono l, fun h => h, fun h => h⟩
theorem famS {D : Ends} : Fam K ca (fun cv dd H' => W cv dd σ H') (fun ι H r => PostS K ca ι H W r D) := ⟨fun h l => h.mono l, fun h ι' cv dd H' l m x => h ι' cv dd H' σ l m x, fun h => h⟩
variable {β : Type} {Φ : Wd → Hp → R β → Prop}
theorem bindE {g : GE} {k : D → S → R β} {Rr : VK} (F : Fam K ca (fun cv dd H' => W cv dd σ H') Φ) (hr : RelS K ι H ρ σ) (hm : Sim K ca ι s H) (h : Φ ι H ((g ρ s).bind k))
    (step : ∀ ι' s' d v H', Le ι H ι' H' → RelS K ι' H' ρ σ → Sim K ca ι' s' H' → Rep K ι' H' d v → Φ ι' H' (k d s') → Rr v H') : tG K ca W g σ H Rr := by
  refine ⟨ι, ρ, s, hr, hm, ?_⟩
  cases e : g ρ s with
  | ok d s' =>
    rw [e] at h
    exact fun ι' v H' l m q => step ι' s' d v H' l (hr.mono l) m q (F.mono h l)
  | err x s' =>
    rw [e] at h
    exact F.err h
  | no =>
    rw [e] at h
    exact F.no h
theorem bindT {g : GT} {k : Bool → S → R β} {Rr : Bool → Hp → Prop} (F : Fam K ca (fun cv dd H' => W cv dd σ H') Φ) (hr : RelS K ι H ρ σ) (hm : Sim K ca ι s H) (h : Φ ι H ((g ρ s).bind k))
    (step : ∀ ι' s' b H', Le ι H ι' H' → RelS K ι' H' ρ σ → Sim K ca ι' s' H' → Φ ι' H' (k b s') → Rr b H') : tT K ca W g σ H Rr := by
  refine ⟨ι, ρ, s, hr, hm, ?_⟩
  cases e : g ρ s with
  | ok d s' =>
    rw [e] at h
    exact fun ι' H' l m => step ι' s' d H' l (hr.mono l) m (F.mono h l)
  | err x s' =>
    rw [e] at h
    exact F.err h
  | no =>
    rw [e] at h
    exact F.no h
theorem bindA {g : GA} {k : List D → S → R β} {Rr : List V → Hp → Prop} (F : Fam K ca (fun cv dd H' => W cv dd σ H') Φ) (hr : RelS K ι H ρ σ) (hm : Sim K ca ι s H) (h : Φ ι H ((g ρ s).bind k))
    (step : ∀ ι' s' ds vs H', Le ι H ι' H' → RelS K ι' H' ρ σ → Sim K ca ι' s' H' → Reps K ι' H' ds vs → Φ ι' H' (k ds s') → Rr vs H') : tA K ca W g σ H Rr := by
  refine ⟨ι, ρ, s, hr, hm, ?_⟩
  cases e : g ρ s with
  | ok d s' =>
    rw [e] at h
    exact fun ι' v H' l m q => step ι' s' d v H' l (hr.mono l) m q (F.mono h l)
  | err x s' =>
    rw [e] at h
    exact F.err h
  | no =>
    rw [e] at h
    exact F.no h
end
section
variable {X : Cx} {ca : Ct} {W : WX} {e a b c : Expr} {es : List Expr} {pos : Pos} {g ga gb gc : GE} {t ta tb : GT}
theorem PE.imp {t t' : TE} (h : PE X e t) (i : ∀ σ H Q, t' σ H Q → t σ H Q) : PE X e t' := ⟨fun pins s σ H Q I q => h.run pins s σ H Q I (i _ _ _ q)⟩
theorem PT.imp {t t' : TT} (h : PT X e t) (i : ∀ σ H Q, t' σ H Q → t σ H Q) : PT X e t' := ⟨fun pins s σ H Q I q => h.run pins s σ H Q I (i _ _ _ q)⟩
theorem PW.imp {t t' : TT} (h : PW X e t) (i : ∀ σ H Q, t' σ H Q → t σ H Q) : PW X e t' := ⟨fun wh pins s σ H Q I q => h.run wh pins s σ H Q I (i _ _ _ q)⟩
theorem PA.imp {t t' : TA} (h : PA X es t) (i : ∀ σ H Q, t' σ H Q → t σ H Q) : PA X es t' := ⟨fun p pins s σ H Q I q => h.run p pins s σ H Q I (i _ _ _ q)⟩

/-! ### names, constants -/
def gVar (i : Nat) : GE := fun ρ s => match ρ[i]? with | some (some d) => .ok d s | _ => .no
def gC (d : D) : GE := fun _ s => .ok d s
theorem je_var (i : Nat) {x : Str} (hN : X.N[i]? = some x := by rfl) (hv : Vis X.env.scope x := by first | exact Or.inl rfl | exact Or.inr (Or.inl rfl) | exact Or.inr (Or.inr rfl)) (hd : (x == ("__debug__" : Str)) = false := by decide)
    (hcd : (x == ("__classdict__" : Str)) = false := by decide) : JE X ca W (.Name x pos) (gVar i) := by
  refine PE.imp (pe_var hN hv hd hcd) fun σ H Q ⟨ι, ρ, s, hr, hm, h⟩ => ?_
  unfold gVar at h
  split at h
  · rename_i d e
    obtain ⟨v, h1, h2⟩ := hr.at_ i d e
    exact ⟨v, h1, h ι v H .refl hm h2⟩
  · exact h.elim
theorem je_c {d : D} {v : V} (h : PE X e (tC v)) (r : ∀ ι H, Rep X.K ι H d v) : JE X ca W e (gC d) := PE.imp h fun σ H Q ⟨ι, ρ, s, hr, hm, h⟩ => h ι v H .refl hm (r ι H)
theorem je_int {i j} : JE X ca W (.Constant (.int i) j pos) (gC (.int i)) := je_c pe_int fun _ _ => .int i
theorem je_bl {b j} : JE X ca W (.Constant (.bool b) j pos) (gC (.bl b)) := je_c pe_bl fun _ _ => .bl b
theorem je_non {j} : JE X ca W (.Constant .none j pos) (gC .non) := je_c pe_non fun _ _ => .non
theorem je_str {x j} : JE X ca W (.Constant (.str x) j pos) (gC (.str x)) := je_c pe_str fun _ _ => .str x
/-- a constant of the module -/
theorem je_glob {x : Str} {d : D} {v : V} {u : Value} (hm : X.mg x = some u) (r : RelV v u) (q : ∀ ι H, Rep X.K ι H d v) (hg : Gl X x := by rfl) (hd : (x == ("__debug__" : Str)) = false := by decide) : JE X ca W (.Name x pos) (gC d) := je_c (pe_glob hg hm r hd) q
/-- a built-in class as a value -/
theorem je_ty {x : Str} {n : String} (hm : X.mg x = none) (hv : bootBuiltins x = some (.type n)) (hg : Gl X x := by rfl) (hn : x ≠ "__name__" := by decide) (hd : (x == ("__debug__" : Str)) = false := by decide) : JE X ca W (.Name x pos) (gC (.ty n)) :=
  je_c (v := .ty n) (pe_bltn hg hm hv rfl hn hd) fun _ _ => .ty n

/-! ### operators -/
def gOp2 (f : S → D → D → Option D) (ga gb : GE) : GE := fun ρ s => (ga ρ s).bind fun x s1 => (gb ρ s1).bind fun y s2 => R.ofO (f s2 x y) s2
theorem tG_op2 {f : S → D → D → Option D} {σ : L2.St} {H : Hp} {Q : VK} (h : tG X.K ca W (gOp2 f ga gb) σ H Q) : tOp (rJ X.K ca f) (tG X.K ca W ga) (tG X.K ca W gb) σ H Q := by
  obtain ⟨ι, ρ, s, hr, hm, h⟩ := h
  refine bindE famE hr hm h fun ι1 s1 x v H1 l1 hr1 hm1 rx h1 => bindE famE hr1 hm1 h1 fun ι2 s2 y u H2 l2 hr2 hm2 ry h2 => ?_
  cases e : f s2 x y with
  | none => rw [e] at h2; exact h2.elim
  | some z =>
    rw [e] at h2
    exact ⟨ι2, s2, x, y, z, hm2, rx.mono l2, ry, e, fun ι' v' H' l m r => h2 ι' v' H' l m r⟩
theorem je_op {op : Operator} {f : S → D → D → Option D} (ho : OpR X (binaryOp op) (rJ X.K ca f)) (ha : JE X ca W a ga) (hb : JE X ca W b gb) : JE X ca W (.BinOp a op b pos) (gOp2 f ga gb) := PE.imp (pe_op ho ha hb) fun _ _ _ h => tG_op2 h
theorem je_cmp {op : CmpOp} {f : S → D → D → Option D} (ho : OpR X (compareOp op) (rJ X.K ca f)) (ha : JE X ca W a ga) (hb : JE X ca W b gb) (hm : behindInMarks op b = false := by first | exact nomark _ | rfl) : JE X ca W (.Compare a [op] [b] pos) (gOp2 f ga gb) :=
  PE.imp (pe_cmpR ho ha hb hm) fun _ _ _ h => tG_op2 h
theorem je_ix (ha : JE X ca W a ga) (hb : JE X ca W b gb) (hs : PlainIx b := by exact fun _ _ => rfl) : JE X ca W (.Subscript a b pos) (gOp2 fIdx ga gb) := PE.imp (pe_ix ij_ix ha hb hs) fun _ _ _ h => tG_op2 h
/-- a bool's value -/
def gB (g : GE) : GT := fun ρ s => (g ρ s).bind fun d s1 => match d with | .bl b => .ok b s1 | _ => .no
theorem tT_gB {σ : L2.St} {H : Hp} {Q : Bool → Hp → Prop} (h : tT X.K ca W (gB g) σ H Q) : tG X.K ca W g σ H fun v H' => ∃ k, v = .bl k ∧ Q k H' := by
  obtain ⟨ι, ρ, s, hr, hm, h⟩ := h
  refine bindE famT hr hm h fun ι1 s1 x v H1 l1 hr1 hm1 rx h1 => ?_
  cases rx with
  | bl b => exact ⟨b, rfl, h1 ι1 H1 .refl hm1⟩
  | _ => exact h1.elim
theorem jt_cmp {op : CmpOp} {f : S → D → D → Option D} (ho : OpR X (compareOp op) (rJ X.K ca f)) (ha : JE X ca W a ga) (hb : JE X ca W b gb) (hm : behindInMarks op b = false := by first | exact nomark _ | rfl) : JT X ca W (.Compare a [op] [b] pos) (gB (gOp2 f ga gb)) := by
  refine PT.imp (pt_cmpR ho ha hb hm) fun σ H Q h => ?_
  have h := tT_gB h
  exact tG_op2 h
theorem jt_val (h : JE X ca W e g) (he : ∀ whole, isTrue e X.env whole = (do let v ← whole; standAt e.pos; holding [v] (truthy v)) := by intro _; rfl) : JT X ca W e (gB g) := PT.imp (pt_val h he) fun _ _ _ h => tT_gB h
/-- a < b < c -/
def gChain (f f' : S → D → D → Option D) (ga gb gc : GE) : GE := fun ρ s => (ga ρ s).bind fun x s1 => (gb ρ s1).bind fun y s2 => (R.ofO (f s2 x y) s2).bind fun z s3 => match z with
  | .bl true => (gc ρ s3).bind fun w s4 => R.ofO (f' s4 y w) s4
  | .bl false => .ok (.bl false) s3
  | _ => .no
theorem je_chain {op op' : CmpOp} {f f' : S → D → D → Option D} (ho : OpR X (compareOp op) (rJ X.K ca f)) (ho' : OpR X (compareOp op') (rJ X.K ca f')) (ha : JE X ca W a ga) (hb : JE X ca W b gb) (hc : JE X ca W c gc)
    (h1 : lastMarks [op, op'] [b, c] = false := by rfl) : JE X ca W (.Compare a [op, op'] [b, c] pos) (gChain f f' ga gb gc) := by
  refine PE.imp (pe_chain ho ho' ha hb hc (by exact h1)) fun σ H Q ⟨ι, ρ, s, hr, hm, h⟩ => ?_
  refine bindE famE hr hm h fun ι1 s1 x v H1 l1 hr1 hm1 rx h1 => bindE famE hr1 hm1 h1 fun ι2 s2 y u H2 l2 hr2 hm2 ry h2 => ?_
  cases e : f s2 x y with
  | none => rw [e] at h2; exact h2.elim
  | some z =>
    rw [e] at h2
    refine ⟨ι2, s2, x, y, z, hm2, rx.mono l2, ry, e, fun ι3 v3 H3 l3 m3 r3 => ?_⟩
    have h3 := PostE.mono h2 l3
    cases r3 with
    | bl k =>
      refine ⟨k, rfl, ?_⟩
      cases k with
      | true =>
        rw [if_pos rfl]
        refine bindE famE (hr2.mono l3) m3 h3 fun ι4 s4 w q H4 l4 hr4 hm4 rw' h4 => ?_
        cases e' : f' s4 y w with
        | none => rw [e'] at h4; exact h4.elim
        | some z' =>
          rw [e'] at h4
          exact ⟨ι4, s4, y, w, z', hm4, (ry.mono l3).mono l4, rw', e', fun ι' v' H' l m r => h4 ι' v' H' l m r⟩
      | false =>
        rw [if_neg Bool.false_ne_true]
        exact h3 ι3 _ H3 .refl m3 (.bl false)
    | _ => exact h3.elim

/-! ### tests -/
def gNot (t : GT) : GT := fun ρ s => (t ρ s).bind fun b s1 => .ok (!b) s1
def gAnd (t u : GT) : GT := fun ρ s => (t ρ s).bind fun b s1 => if b then u ρ s1 else .ok false s1
def gOr (t u : GT) : GT := fun ρ s => (t ρ s).bind fun b s1 => if b then .ok true s1 else u ρ s1
def gV (t : GT) : GE := fun ρ s => (t ρ s).bind fun b s1 => .ok (.bl b) s1
def gAndV (ga gb : GE) : GE := fun ρ s => (ga ρ s).bind fun d s1 => match d with | .bl true => gb ρ s1 | .bl false => .ok (.bl false) s1 | _ => .no
def gOrV (ga gb : GE) : GE := fun ρ s => (ga ρ s).bind fun d s1 => match d with | .bl true => .ok (.bl true) s1 | .bl false => gb ρ s1 | _ => .no
def gNotV (ga : GE) : GE := fun ρ s => (ga ρ s).bind fun d s1 => match d with | .bl b => .ok (.bl !b) s1 | _ => .no
def gIf (t : GT) (ga gb : GE) : GE := fun ρ s => (t ρ s).bind fun b s1 => if b then ga ρ s1 else gb ρ s1
theorem jt_not (h : JT X ca W a ta) : JT X ca W (.UnaryOp .Not a pos) (gNot ta) := PT.imp (pt_not h) fun σ H Q ⟨ι, ρ, s, hr, hm, h⟩ => bindT famT hr hm h fun ι1 s1 b H1 l1 hr1 hm1 h1 => h1 ι1 H1 .refl hm1
theorem jw_and1 (h : JT X ca W a ta) : JW X ca W (.BoolOp .And [a] pos) ta := pw_and1 h
theorem jw_or1 (h : JT X ca W a ta) : JW X ca W (.BoolOp .Or [a] pos) ta := pw_or1 h
theorem jw_and (ha : JT X ca W a ta) (hb : JW X ca W (.BoolOp .And (b :: es) pos) tb) : JW X ca W (.BoolOp .And (a :: b :: es) pos) (gAnd ta tb) := by
  refine PW.imp (pw_and ha hb) fun σ H Q ⟨ι, ρ, s, hr, hm, h⟩ => bindT famT hr hm h fun ι1 s1 k H1 l1 hr1 hm1 h1 => ?_
  cases k with
  | true => rw [if_pos rfl]; exact ⟨ι1, ρ, s1, hr1, hm1, h1⟩
  | false => rw [if_neg Bool.false_ne_true]; exact h1 ι1 H1 .refl hm1
theorem jw_or (ha : JT X ca W a ta) (hb : JW X ca W (.BoolOp .Or (b :: es) pos) tb) : JW X ca W (.BoolOp .Or (a :: b :: es) pos) (gOr ta tb) := by
  refine PW.imp (pw_or ha hb) fun σ H Q ⟨ι, ρ, s, hr, hm, h⟩ => bindT famT hr hm h fun ι1 s1 k H1 l1 hr1 hm1 h1 => ?_
  cases k with
  | true => rw [if_pos rfl]; exact h1 ι1 H1 .refl hm1
  | false => rw [if_neg Bool.false_ne_true]; exact ⟨ι1, ρ, s1, hr1, hm1, h1⟩
theorem jw_t (h : JW X ca W e t) : JT X ca W e t := PW.pt h
theorem je_one {op} (h : JE X ca W a g) : JE X ca W (.BoolOp op [a] pos) g := pe_one h
theorem je_and (ha : JE X ca W a ga) (hb : JE X ca W (.BoolOp .And (b :: es) pos) gb) : JE X ca W (.BoolOp .And (a :: b :: es) pos) (gAndV ga gb) := by
  refine PE.imp (pe_and ha hb) fun σ H Q ⟨ι, ρ, s, hr, hm, h⟩ => bindE famE hr hm h fun ι1 s1 d v H1 l1 hr1 hm1 rd h1 => ?_
  cases rd with
  | bl k =>
    refine ⟨k, rfl, ?_⟩
    cases k with
    | true => rw [if_pos rfl]; exact ⟨ι1, ρ, s1, hr1, hm1, h1⟩
    | false => rw [if_neg Bool.false_ne_true]; exact h1 ι1 _ H1 .refl hm1 (.bl false)
  | _ => exact h1.elim
theorem je_or (ha : JE X ca W a ga) (hb : JE X ca W (.BoolOp .Or (b :: es) pos) gb) : JE X ca W (.BoolOp .Or (a :: b :: es) pos) (gOrV ga gb) := by
  refine PE.imp (pe_or ha hb) fun σ H Q ⟨ι, ρ, s, hr, hm, h⟩ => bindE famE hr hm h fun ι1 s1 d v H1 l1 hr1 hm1 rd h1 => ?_
  cases rd with
  | bl k =>
    refine ⟨k, rfl, ?_⟩
    cases k with
    | true => rw [if_pos rfl]; exact h1 ι1 _ H1 .refl hm1 (.bl true)
    | false => rw [if_neg Bool.false_ne_true]; exact ⟨ι1, ρ, s1, hr1, hm1, h1⟩
  | _ => exact h1.elim
theorem je_not (ha : JE X ca W a ga) : JE X ca W (.UnaryOp .Not a pos) (gNotV ga) := by
  refine PE.imp (pe_not ha) fun σ H Q ⟨ι, ρ, s, hr, hm, h⟩ => bindE famE hr hm h fun ι1 s1 d v H1 l1 hr1 hm1 rd h1 => ?_
  cases rd with
  | bl k => exact ⟨k, rfl, h1 ι1 _ H1 .refl hm1 (.bl _)⟩
  | _ => exact h1.elim
theorem je_if (hc : JT X ca W c t) (ha : JE X ca W a ga) (hb : JE X ca W b gb) : JE X ca W (.IfExp c a b pos) (gIf t ga gb) := by
  refine PE.imp (pe_ifExp hc ha hb) fun σ H Q ⟨ι, ρ, s, hr, hm, h⟩ => bindT famE hr hm h fun ι1 s1 k H1 l1 hr1 hm1 h1 => ?_
  cases k with
  | true => rw [if_pos rfl]; exact ⟨ι1, ρ, s1, hr1, hm1, h1⟩
  | false => rw [if_neg Bool.false_ne_true]; exact ⟨ι1, ρ, s1, hr1, hm1, h1⟩
def gNeg (ga : GE) : GE := fun ρ s => (ga ρ s).bind fun d s1 => match d with | .int i => .ok (.int (-i)) s1 | _ => .no
theorem je_neg (ha : JE X ca W a ga) : JE X ca W (.UnaryOp .USub a pos) (gNeg ga) := by
  refine PE.imp (pe_un un_neg ha) fun σ H Q ⟨ι, ρ, s, hr, hm, h⟩ => bindE famE hr hm h fun ι1 s1 d v H1 l1 hr1 hm1 rd h1 => ?_
  cases rd with
  | int k => exact ⟨k, rfl, h1 ι1 _ H1 .refl hm1 (.int _)⟩
  | _ => exact h1.elim

/-! ### arguments, displays -/
def gaNil : GA := fun _ s => .ok [] s
def gaCons (g : GE) (r : GA) : GA := fun ρ s => (g ρ s).bind fun d s1 => (r ρ s1).bind fun ds s2 => .ok (d :: ds) s2
theorem ja_nil : JA X ca W [] gaNil := PA.imp pa_nil fun σ H Q ⟨ι, ρ, s, hr, hm, h⟩ => h ι [] H .refl hm .nil
theorem ja_cons {gr : GA} (h : JE X ca W e g) (hr : JA X ca W es gr) (hs : starEach (e :: es) X.env = (false, eval e X.env) :: starEach es X.env := by rfl) : JA X ca W (e :: es) (gaCons g gr) := by
  refine PA.imp (pa_cons h hr hs) fun σ H Q ⟨ι, ρ, s, hr, hm, h⟩ => bindE famA hr hm h fun ι1 s1 d v H1 l1 hr1 hm1 rd h1 => bindA famA hr1 hm1 h1 fun ι2 s2 ds vs H2 l2 hr2 hm2 rs h2 => ?_
  exact h2 ι2 _ H2 .refl hm2 (.cons (rd.mono l2) rs)
def gTup (g : GA) : GE := fun ρ s => (g ρ s).bind fun ds s1 => if fitL ds.length then .ok (.tup ds) s1 else .no
def gLst (g : GA) : GE := fun ρ s => (g ρ s).bind fun ds s1 => if fitL ds.length then .ok (.lst ds) s1 else .no
/-- a list that may change -/
def gLstM (g : GA) : GE := fun ρ s => (g ρ s).bind fun ds s1 => if fitL ds.length then .ok (.obj s1.length) (s1 ++ [.lst ds]) else .no
theorem je_tup {x1} {gr : GA} (h : JA X ca W es gr) : JE X ca W (.Tuple es x1 pos) (gTup gr) := by
  refine PE.imp (pe_tup h) fun σ H Q ⟨ι, ρ, s, hr, hm, h⟩ => bindA famE hr hm h fun ι1 s1 ds vs H1 l1 hr1 hm1 rs h1 => ?_
  split at h1
  · rename_i hf
    refine ⟨by rw [← rs.length]; exact fitL_le hf, fun p hp => ?_⟩
    obtain ⟨l, m⟩ := hm1.new (o := .tup vs) hp
    exact h1 _ _ _ l m (.tup (.inl upd_same) (rs.mono l))
  · exact h1.elim
theorem je_lst {gr : GA} (h : JA X ca W es gr) : JE X ca W (.List es pos) (gLst gr) := by
  refine PE.imp (pe_lst h) fun σ H Q ⟨ι, ρ, s, hr, hm, h⟩ => bindA famE hr hm h fun ι1 s1 ds vs H1 l1 hr1 hm1 rs h1 => ?_
  split at h1
  · rename_i hf
    refine ⟨by rw [← rs.length]; exact fitL_le hf, fun p hp => ?_⟩
    obtain ⟨l, m⟩ := hm1.new (o := .lst vs) hp
    exact h1 _ _ _ l m (.lst upd_same (hm1.ne hp) (rs.mono l))
  · exact h1.elim
theorem je_lstM {gr : GA} (h : JA X ca W es gr) : JE X ca W (.List es pos) (gLstM gr) := by
  refine PE.imp (pe_lst h) fun σ H Q ⟨ι, ρ, s, hr, hm, h⟩ => bindA famE hr hm h fun ι1 s1 ds vs H1 l1 hr1 hm1 rs h1 => ?_
  split at h1
  · rename_i hf
    refine ⟨by rw [← rs.length]; exact fitL_le hf, fun p hp => ?_⟩
    obtain ⟨l, m⟩ := hm1.alloc (o := .lst vs) (u := .lst ds) hp trivial fun l => ⟨vs, upd_same, rs.mono l⟩
    exact h1 _ _ _ l m (.obj (by simp [← hm1.len]))
  · exact h1.elim

/-! ### built-ins by values -/
def rCJ (K : PySem.W.Frag) (ca : Ct) (f : S → List D → Option D) : List V → Hp → VK → Prop := fun vs H Q => ∃ ι s ds x, Sim K ca ι s H ∧ Reps K ι H ds vs ∧ f s ds = some x ∧
  ∀ ι' v' H', Le ι H ι' H' → Sim K ca ι' s H' → Rep K ι' H' x v' → Q v' H'
theorem CallR.imp {f : Value} {r r' : List V → Hp → VK → Prop} (h : CallR X f r) (i : ∀ vs H Q, r' vs H Q → r vs H Q) : CallR X f r' := fun pins s σ H xs us Q I r q => h pins s σ H xs us Q I r (i _ _ _ q)
def gF (f : S → List D → Option D) (gr : GA) : GE := fun ρ s => (gr ρ s).bind fun ds s1 => R.ofO (f s1 ds) s1
theorem tG_gF {f : S → List D → Option D} {gr : GA} {σ : L2.St} {H : Hp} {Q : VK} (h : tG X.K ca W (gF f gr) σ H Q) : tCB (rCJ X.K ca f) (tA X.K ca W gr) σ H Q := by
  obtain ⟨ι, ρ, s, hr, hm, h⟩ := h
  refine bindA famE hr hm h fun ι1 s1 ds vs H1 l1 hr1 hm1 rs h1 => ?_
  cases e : f s1 ds with
  | none => rw [e] at h1; exact h1.elim
  | some z => rw [e] at h1; exact ⟨ι1, s1, ds, z, hm1, rs, e, fun ι' v' H' l m r => h1 ι' v' H' l m r⟩
theorem je_B {x : Str} {p : Pos} {id : String} {f : S → List D → Option D} {gr : GA} (hc : CallR X (.builtin id) (rCJ X.K ca f)) (hm : X.mg x = none) (hv : bootBuiltins x = some (.builtin id)) (ha : JA X ca W (e :: es) gr) (hg : Gl X x := by rfl) (hn : x ≠ "__name__" := by decide)
    (hdb : (x == ("__debug__" : Str)) = false := by decide) (he : starEach (e :: es) X.env = (false, eval e X.env) :: starEach es X.env := by rfl) (hpl : (backTo pos (starEach es X.env)).any (·.1) = false := by rfl) : JE X ca W (.Call (.Name x p) (e :: es) [] pos) (gF f gr) :=
  PE.imp (pe_callB hc hg hm hv ha hn hdb he hpl) fun _ _ _ h => tG_gF h
theorem je_Ty {x : Str} {p : Pos} {id : String} {f : S → List D → Option D} {gr : GA} (hc : CallR X (.type id) (rCJ X.K ca f)) (hm : X.mg x = none) (hv : bootBuiltins x = some (.type id)) (ha : JA X ca W (e :: es) gr) (hg : Gl X x := by rfl) (hn : x ≠ "__name__" := by decide)
    (hdb : (x == ("__debug__" : Str)) = false := by decide) (he : starEach (e :: es) X.env = (false, eval e X.env) :: starEach es X.env := by rfl) (hpl : (backTo pos (starEach es X.env)).any (·.1) = false := by rfl) : JE X ca W (.Call (.Name x p) (e :: es) [] pos) (gF f gr) :=
  PE.imp (pe_callTy hc hg hm hv ha hn hdb he hpl) fun _ _ _ h => tG_gF h
end
end J


set_option Elab.async false
set_option linter.all false
set_option maxRecDepth 100000
set_option maxHeartbeats 4000000
/-! J3: statements, loops, comprehensions, defs and their calls. -/
namespace J
open PySem PySem.Spec L2
open PyProof.Rows (envOfC)

abbrev W0 : WX := fun _ _ _ _ => False
def JS (X : Cx) (ca : Ct) (W : WX) (st : Stmt) (g : GS) : Prop := PS X st (tS X.K ca W g)
def JSs (X : Cx) (ca : Ct) (W : WX) (st : List Stmt) (g : GS) : Prop := PSs X st (tS X.K ca W g)
/-- a target -/
abbrev TD := D → Env → Option Env
def tgJ (K : PySem.W.Frag) (ca : Ct) (t : TD) : TG := fun v σ H Q => ∃ ι ρ s d ρ', RelS K ι H ρ σ ∧ Sim K ca ι s H ∧ Rep K ι H d v ∧ t d ρ = some ρ' ∧ ∀ ι' σ' H', Le ι H ι' H' → Sim K ca ι' s H' → RelS K ι' H' ρ' σ' → Q σ' H'
def tgsJ (K : PySem.W.Frag) (ca : Ct) (t : List D → Env → Option Env) : TGs := fun vs σ H Q => ∃ ι ρ s ds ρ', RelS K ι H ρ σ ∧ Sim K ca ι s H ∧ Reps K ι H ds vs ∧ t ds ρ = some ρ' ∧ ∀ ι' σ' H', Le ι H ι' H' → Sim K ca ι' s H' → RelS K ι' H' ρ' σ' → Q σ' H'
def JG (X : Cx) (ca : Ct) (tg : Expr) (t : TD) : Prop := PG X tg (tgJ X.K ca t)
def JGs (X : Cx) (ca : Ct) (tgs : List Expr) (t : List D → Env → Option Env) : Prop := PGs X tgs (tgsJ X.K ca t)
theorem PG.imp {X : Cx} {e : Expr} {t t' : TG} (h : PG X e t) (i : ∀ v σ H Q, t' v σ H Q → t v σ H Q) : PG X e t' := ⟨fun pins s σ H v u Q I r q => h.run pins s σ H v u Q I r (i _ _ _ _ q)⟩
theorem PGs.imp {X : Cx} {e : List Expr} {t t' : TGs} (h : PGs X e t) (i : ∀ v σ H Q, t' v σ H Q → t v σ H Q) : PGs X e t' := ⟨fun pins s σ H v u Q I r q => h.run pins s σ H v u Q I r (i _ _ _ _ q)⟩
theorem PS.imp {X : Cx} {e : Stmt} {t t' : TS} (h : PS X e t) (i : ∀ D σ H, t' D σ H → t D σ H) : PS X e t' := ⟨fun pins s σ H D I q => h.run pins s σ H D I (i _ _ _ q)⟩
theorem PSs.imp {X : Cx} {e : List Stmt} {t t' : TS} (h : PSs X e t) (i : ∀ D σ H, t' D σ H → t D σ H) : PSs X e t' := ⟨fun pins s σ H D I q => h.run pins s σ H D I (i _ _ _ q)⟩
theorem PI.imp {X : Cx} {tg e : Expr} {t t' : TI} (h : PI X tg e t) (i : ∀ σ H R, t' σ H R → t σ H R) : PI X tg e t' := ⟨fun pins s σ H R I q => h.run pins s σ H R I (i _ _ _ q)⟩
theorem PI.or {X : Cx} {tg e : Expr} {t t' : TI} (h : PI X tg e t) (h' : PI X tg e t') : PI X tg e (fun σ H R => t σ H R ∨ t' σ H R) := ⟨fun pins s σ H R I q => q.elim (h.run pins s σ H R I) (h'.run pins s σ H R I)⟩
section
variable {X : Cx} {ca : Ct} {W : WX} {e tg : Expr} {es : List Expr} {pos : Pos} {g : GE} {st : Stmt} {sts : List Stmt} {b b' : GS}
def dName (i : Nat) : TD := fun d ρ => some (ρ.set i (some d))
theorem jg_name (i : Nat) {x : Str} (hN : X.N.Nodup) (hi : X.N[i]? = some x := by rfl) (hx : Loc X.env.scope x := by first | exact Or.inl rfl | exact Or.inr rfl) (hf : X.fn x = true ∨ X.env.scope.names.lookup x = some .local := by first | exact .inl rfl | exact .inr rfl) : JG X ca (.Name x pos) (dName i) :=
  PG.imp (pg_name (i := i) hN hi hx hf) fun v σ H Q ⟨ι, ρ, s, d, ρ', hr, hm, rd, e, q⟩ => by
    cases e
    exact q ι _ H .refl hm (hr.set rd i)
def dsNil : List D → Env → Option Env := fun ds ρ => match ds with | [] => some ρ | _ => none
def dsCons (t : TD) (r : List D → Env → Option Env) : List D → Env → Option Env := fun ds ρ => match ds with | d :: ds => (t d ρ).bind (r ds) | _ => none
theorem jgs_nil : JGs X ca [] dsNil := PGs.imp pgs_nil fun v σ H Q ⟨ι, ρ, s, ds, ρ', hr, hm, rs, e, q⟩ => by
  cases rs with
  | nil => cases e; exact ⟨rfl, q ι _ H .refl hm hr⟩
  | cons _ _ => cases e
theorem jgs_cons {t : TD} {r : List D → Env → Option Env} (h1 : JG X ca e t) (h2 : JGs X ca es r) (hs : (assignEach (e :: es) X.env).map (·.2) = assign e X.env :: (assignEach es X.env).map (·.2) := by rfl) : JGs X ca (e :: es) (dsCons t r) :=
  PGs.imp (pgs_cons h1 h2 hs) fun v σ H Q ⟨ι, ρ, s, ds, ρ', hr, hm, rs, e, q⟩ => by
    cases rs with
    | nil => cases e
    | cons rd rs =>
      simp only [dsCons, Option.bind_eq_some_iff] at e
      obtain ⟨ρ1, e1, e2⟩ := e
      exact ⟨_, _, rfl, ι, ρ, s, _, ρ1, hr, hm, rd, e1, fun ι1 σ1 H1 l1 m1 r1 => ⟨ι1, ρ1, s, _, ρ', r1, m1, rs.mono l1, e2, fun ι2 σ2 H2 l2 m2 r2 => q ι2 σ2 H2 (l1.trans l2) m2 r2⟩⟩
def dTup (n : Nat) (t : List D → Env → Option Env) : TD := fun d ρ => match d with | .tup ds => if ds.length = n then t ds ρ else none | _ => none
theorem jg_tup {t : List D → Env → Option Env} {k n : Nat} (hc : X.calm = true) (h : JGs X ca es t) (hn : (assignEach es X.env).length = n := by rfl) (hst : (assignEach es X.env).findIdx? (·.1) = none := by rfl) : JG X ca (.Tuple es k pos) (dTup n t) :=
  PG.imp (pg_tup hc h hn hst) fun v σ H Q ⟨ι, ρ, s, d, ρ', hr, hm, rd, e, q⟩ => by
    cases rd with
    | tup h1 h2 =>
      simp only [dTup] at e
      split at e
      · rename_i hl
        exact ⟨_, _, rfl, h1.sq, by rw [← h2.length]; exact hl, ι, ρ, s, _, ρ', hr, hm, h2, e, q⟩
      · cases e
    | _ => simp [dTup] at e

/-! ### statements -/
def sNext : GS := fun ρ s => .ok (.nx ρ) s
def sSeq (a b : GS) : GS := fun ρ s => (a ρ s).bind fun f s1 => match f with | .nx ρ1 => b ρ1 s1 | f => .ok f s1
def sExpr (g : GE) : GS := fun ρ s => (g ρ s).bind fun _ s1 => .ok (.nx ρ) s1
def sRet (g : GE) : GS := fun ρ s => (g ρ s).bind fun d s1 => .ok (.rt d) s1
def sRetN : GS := fun _ s => .ok (.rt .non) s
def sAsg (g : GE) (t : TD) : GS := fun ρ s => (g ρ s).bind fun d s1 => match t d ρ with | some ρ1 => .ok (.nx ρ1) s1 | none => .no
def sIf (t : GT) (a b : GS) : GS := fun ρ s => (t ρ s).bind fun k s1 => if k then a ρ s1 else b ρ s1
def sBreak : GS := fun ρ s => .ok (.bk ρ) s
def sCont : GS := fun ρ s => .ok (.ct ρ) s
theorem jss_nil : JSs X ca W [] sNext := PSs.imp pss_nil fun D σ H ⟨ι, ρ, s, hr, hm, h⟩ => h ι σ H .refl hm hr
theorem jss_cons (h1 : JS X ca W st b) (h2 : JSs X ca W sts b') : JSs X ca W (st :: sts) (sSeq b b') := PSs.imp (pss_cons h1 h2) fun D σ H ⟨ι, ρ, s, hr, hm, h⟩ => by
  refine ⟨ι, ρ, s, hr, hm, ?_⟩
  unfold sSeq at h
  cases e : b ρ s with
  | ok f s1 =>
    rw [e] at h
    cases f with
    | nx ρ1 => exact fun ι' σ' H' l m r => ⟨ι', ρ1, s1, r, m, PostS.mono h l⟩
    | rt d => exact h
    | bk ρ1 => exact h
    | ct ρ1 => exact h
  | err x s1 => rw [e] at h; exact h
  | no => rw [e] at h; exact h
theorem jss_one (h1 : JS X ca W st b) : JSs X ca W [st] b := pss_one h1
theorem js_pass : JS X ca W (.Pass pos) sNext := PS.imp ps_pass fun D σ H ⟨ι, ρ, s, hr, hm, h⟩ => h ι σ H .refl hm hr
theorem js_break : JS X ca W (.Break pos) sBreak := PS.imp ps_break fun D σ H ⟨ι, ρ, s, hr, hm, h⟩ => h ι σ H .refl hm hr
theorem js_cont : JS X ca W (.Continue pos) sCont := PS.imp ps_continue fun D σ H ⟨ι, ρ, s, hr, hm, h⟩ => h ι σ H .refl hm hr
theorem js_expr (h : JE X ca W e g) (hs : swapsWith e none pos.line X.env = pure false := by rfl) : JS X ca W (.Expr e pos) (sExpr g) := PS.imp (ps_expr h hs) fun D σ H ⟨ι, ρ, s, hr, hm, h⟩ =>
  bindE famS hr hm h fun ι1 s1 d v H1 l1 hr1 hm1 rd h1 => h1 ι1 σ H1 .refl hm1 hr1
theorem js_ret (h : JE X ca W e g) : JS X ca W (.Return (some e) pos) (sRet g) := PS.imp (ps_ret h) fun D σ H ⟨ι, ρ, s, hr, hm, h⟩ =>
  bindE famS hr hm h fun ι1 s1 d v H1 l1 hr1 hm1 rd h1 => h1 ι1 v H1 .refl hm1 rd
theorem js_retN : JS X ca W (.Return none pos) sRetN := PS.imp ps_retN fun D σ H ⟨ι, ρ, s, hr, hm, h⟩ => h ι _ H .refl hm .non
theorem js_set (i : Nat) {x : Str} {pos' : Pos} (hN : X.N.Nodup) (he : JE X ca W e g) (hi : X.N[i]? = some x := by rfl) (hx : Loc X.env.scope x := by first | exact Or.inl rfl | exact Or.inr rfl) (hs : swapsWith e (some (.Name x pos')) pos.line X.env = pure false := by rfl)
    (hf : X.fn x = true ∨ X.env.scope.names.lookup x = some .local := by first | exact .inl rfl | exact .inr rfl) : JS X ca W (.Assign [.Name x pos'] e pos) (sAsg g (dName i)) := PS.imp (ps_set (i := i) hN hi hx he hs hf) fun D σ H ⟨ι, ρ, s, hr, hm, h⟩ =>
  bindE famS hr hm h fun ι1 s1 d v H1 l1 hr1 hm1 rd h1 => h1 ι1 _ H1 .refl hm1 (hr1.set rd i)
theorem js_asg {t : TD} (he : JE X ca W e g) (hg : JG X ca tg t) (hs : swapsWithSole [tg] e pos.line X.env = pure false := by rfl) (hw : swappedStores [tg] e X.env = pure none := by rfl)
    (h1 : (assignEach [tg] X.env).map (·.2) = [assign tg X.env] := by rfl) : JS X ca W (.Assign [tg] e pos) (sAsg g t) := PS.imp (ps_asg he hg hs hw h1) fun D σ H ⟨ι, ρ, s, hr, hm, h⟩ =>
  bindE famS hr hm h fun ι1 s1 d v H1 l1 hr1 hm1 rd h1 => by
    cases e : t d ρ with
    | none => rw [e] at h1; exact h1.elim
    | some ρ' => rw [e] at h1; exact ⟨ι1, ρ, s1, d, ρ', hr1, hm1, rd, e, fun ι' σ' H' l m r => h1 ι' σ' H' l m r⟩
def sPar (i j : Nat) (gr : GA) : GS := fun ρ s => (gr ρ s).bind fun ds s1 => match ds with | [d, e] => .ok (.nx ((ρ.set i (some d)).set j (some e))) s1 | _ => .no
theorem js_par (i j : Nat) {x y : Str} {a c : Expr} {gr : GA} {px py pt : Pos} {kt k2 pt2} (hc : X.calm = true) (hN : X.N.Nodup) (ha : JA X ca W [a, c] gr) (hi : X.N[i]? = some x := by rfl) (hj : X.N[j]? = some y := by rfl) (hij : i ≠ j := by decide)
    (hx : X.env.scope.names.lookup x = some .local := by rfl) (hy : X.env.scope.names.lookup y = some .local := by rfl)
    (hw : swappedStores [.Tuple [.Name x px, .Name y py] kt pt] (.Tuple [a, c] k2 pt2) X.env = pure (some [x, y]) := by rfl)
    (hs : swapsWithSole [.Tuple [.Name x px, .Name y py] kt pt] (.Tuple [a, c] k2 pt2) pos.line X.env = pure false := by rfl) :
    JS X ca W (.Assign [.Tuple [.Name x px, .Name y py] kt pt] (.Tuple [a, c] k2 pt2) pos) (sPar i j gr) := PS.imp (ps_par hc hN hi hj hij hx hy ha hw hs) fun D σ H ⟨ι, ρ, s, hr, hm, h⟩ =>
  bindA famS hr hm h fun ι1 s1 ds vs H1 l1 hr1 hm1 rs h1 => by
    cases rs with
    | nil => exact h1.elim
    | cons r1 rs =>
      cases rs with
      | nil => exact h1.elim
      | cons r2 rs =>
        cases rs with
        | nil => exact ⟨_, _, rfl, h1 ι1 _ H1 .refl hm1 ((hr1.set r1 i).set r2 j)⟩
        | cons _ _ => exact h1.elim
theorem js_if {c : Expr} {t : GT} {sa sb : List Stmt} (hc : JT X ca W c t) (ha : JSs X ca W sa b) (hb : JSs X ca W sb b') : JS X ca W (.If c sa sb pos) (sIf t b b') := PS.imp (ps_if hc ha hb) fun D σ H ⟨ι, ρ, s, hr, hm, h⟩ =>
  bindT famS hr hm h fun ι1 s1 k H1 l1 hr1 hm1 h1 => by
    cases k with
    | true => rw [if_pos rfl]; exact ⟨ι1, ρ, s1, hr1, hm1, h1⟩
    | false => rw [if_neg Bool.false_ne_true]; exact ⟨ι1, ρ, s1, hr1, hm1, h1⟩

/-! ### what is walked -/
/-- the iterator yields these, as long as what stands stands -/
def ItJ (K : PySem.W.Frag) (ι : Wd) (H : Hp) (J : It) (ds : List D) : Prop := ∀ ι' H', Le ι H ι' H' →
  (∀ i d, ds[i]? = some d → J.go i H' ∧ ∀ x H'', J.yld i H' x H'' → H'' = H' ∧ Rep K ι' H' d x) ∧ ∀ i, ds.length ≤ i → J.stop i H'
def PostI (K : PySem.W.Frag) (ca : Ct) (ι : Wd) (H : Hp) (r : R (List D)) (Q : It → Hp → Prop) (E : XK) : Prop := match r with
  | .ok ds s' => ∀ ι' J H', Le ι H ι' H' → Sim K ca ι' s' H' → ItJ K ι' H' J ds → Q J H'
  | .err e s' => ∀ ι' cv dd H', Le ι H ι' H' → Sim K ca ι' s' H' → RepX K ca ι' H' e cv dd → E cv dd H'
  | .no => False
theorem famI {K : PySem.W.Frag} {E : XK} {Q : It → Hp → Prop} : Fam K ca E (fun ι H r => PostI K ca ι H r Q E) := ⟨fun {ι H ι' H' r} h l => by
  cases r with
  | ok d s => exact fun ι2 v H2 l2 m q => h ι2 v H2 (l.trans l2) m q
  | err e s => exact fun ι2 cv dd H2 l2 m q => h ι2 cv dd H2 (l.trans l2) m q
  | no => exact h, fun h => h, fun h => h⟩
def tI (K : PySem.W.Frag) (ca : Ct) (W : WX) (g : GA) : TI := fun σ H R => ∃ ι ρ s, RelS K ι H ρ σ ∧ Sim K ca ι s H ∧ PostI K ca ι H (g ρ s) R (fun cv dd H' => W cv dd σ H')
def JI (X : Cx) (ca : Ct) (W : WX) (tg e : Expr) (g : GA) : Prop := PI X tg e (tI X.K ca W g)
def itemsF : D → Option (List D)
  | .lst ds => some ds
  | .frz ds => some ds
  | .tup ds => some ds
  | _ => none
def gItems (g : GE) : GA := fun ρ s => (g ρ s).bind fun d s1 => R.ofO (itemsF d) s1
theorem itJ_list {K : PySem.W.Frag} {ι : Wd} {H : Hp} {a : Addr} {vs : List V} {ds : List D} (h : ∀ ι' H', Le ι H ι' H' → SqL K H' a vs) (u : ∀ ι' H' ys, Le ι H ι' H' → SqL K H' a ys → ys = vs) (r : Reps K ι H ds vs) : ItJ K ι H (Itl K a) ds := fun ι' H' l =>
  ⟨fun i d hd => let ⟨x, hx, _⟩ := r.get hd; ⟨⟨vs, x, h ι' H' l, hx⟩, fun y H'' ⟨e, q⟩ => ⟨e, by
    have hy := q vs (h ι' H' l)
    obtain ⟨d', h1, h2⟩ := r.getV hy
    rw [hd] at h1; cases h1
    exact h2.mono l⟩⟩, fun i hi => ⟨vs, h ι' H' l, by rw [← r.length]; exact hi⟩⟩
theorem itJ_tup {K : PySem.W.Frag} {ι : Wd} {H : Hp} {a : Addr} {vs : List V} {ds : List D} (h : ∀ ι' H', Le ι H ι' H' → SqT K H' a vs) (r : Reps K ι H ds vs) : ItJ K ι H (Itt K a) ds := fun ι' H' l =>
  ⟨fun i d hd => let ⟨x, hx, _⟩ := r.get hd; ⟨⟨vs, x, h ι' H' l, hx⟩, fun y H'' ⟨e, q⟩ => ⟨e, by
    have hy := q vs (h ι' H' l)
    obtain ⟨d', h1, h2⟩ := r.getV hy
    rw [hd] at h1; cases h1
    exact h2.mono l⟩⟩, fun i hi => ⟨vs, h ι' H' l, by rw [← r.length]; exact hi⟩⟩
theorem ji_seq (h : JE X ca W e g) : JI X ca W tg e (gItems g) := by
  refine PI.imp (PI.or (pi_list h) (pi_tup h)) fun σ H R ⟨ι, ρ, s, hr, hm, h⟩ => ?_
  unfold gItems at h
  cases e : g ρ s with
  | err x s1 =>
    rw [e] at h
    exact .inl ⟨ι, ρ, s, hr, hm, by rw [e]; exact h⟩
  | no => rw [e] at h; exact h.elim
  | ok d s1 =>
    rw [e] at h
    have bnd : ∀ (T : VK), (∀ ι' v H', Le ι H ι' H' → Sim X.K ca ι' s1 H' → Rep X.K ι' H' d v → PostI X.K ca ι' H' (J.R.ofO (itemsF d) s1) R (fun cv dd H' => W cv dd σ H') → T v H') → tG X.K ca W g σ H T := fun T k =>
      ⟨ι, ρ, s, hr, hm, by rw [e]; exact fun ι' v H' l m r => k ι' v H' l m r (famI.mono h l)⟩
    cases d with
    | tup ds =>
      refine .inr (bnd (fun x H1 => ∃ a, x = .ref a ∧ (∃ xs, SqT X.K H1 a xs) ∧ R (Itt X.K a) H1) fun ι' v H' l m r q => ?_)
      obtain ⟨a, vs, rfl, h1, h2⟩ := r.tupOf
      exact ⟨a, rfl, ⟨vs, h1.sq⟩, q ι' _ H' .refl m (itJ_tup (fun _ _ l2 => (l2.toKe.tupAt h1).sq) h2)⟩
    | lst ds =>
      refine .inl (bnd (fun x H1 => ∃ a, x = .ref a ∧ (∃ xs, SqL X.K H1 a xs) ∧ R (Itl X.K a) H1) fun ι' v H' l m r q => ?_)
      cases r with
      | lst h1 hn h2 =>
        refine ⟨_, rfl, ⟨_, SqL.of h1⟩, q ι' _ H' .refl m ?_⟩
        intro ι2 H2 l2
        have h3 := (l2.keep _ _ h1 noTab_lst hn).1
        refine ⟨fun i d hd => let ⟨x, hx, rx⟩ := h2.get hd; ⟨⟨_, x, SqL.of h3, hx⟩, fun y H'' ⟨e, q⟩ => ⟨e, ?_⟩⟩, fun i hi => ⟨_, SqL.of h3, by rw [← h2.length]; exact hi⟩⟩
        have hy := q _ (SqL.of h3)
        rw [hx] at hy; cases hy
        exact rx.mono l2
    | frz ds =>
      refine .inl (bnd (fun x H1 => ∃ a, x = .ref a ∧ (∃ xs, SqL X.K H1 a xs) ∧ R (Itl X.K a) H1) fun ι' v H' l m r q => ?_)
      cases r with
      | frz h1 h2 =>
        refine ⟨_, rfl, ⟨_, h1.sq⟩, q ι' _ H' .refl m ?_⟩
        intro ι2 H2 l2
        have h3 := l2.toKe.frzAt h1
        refine ⟨fun i d hd => let ⟨x, hx, rx⟩ := h2.get hd; ⟨⟨_, x, h3.sq, hx⟩, fun y H'' ⟨e, q⟩ => ⟨e, ?_⟩⟩, fun i hi => ⟨_, h3.sq, by rw [← h2.length]; exact hi⟩⟩
        have hy := q _ h3.sq
        rw [hx] at hy; cases hy
        exact rx.mono l2
      | frz2 h1 hn h2 =>
        refine ⟨_, rfl, ⟨_, SqL.of h1⟩, q ι' _ H' .refl m ?_⟩
        intro ι2 H2 l2
        have h3 := (l2.keep _ _ h1 noTab_lst hn).1
        refine ⟨fun i d hd => let ⟨x, hx, rx⟩ := h2.get hd; ⟨⟨_, x, SqL.of h3, hx⟩, fun y H'' ⟨e, q⟩ => ⟨e, ?_⟩⟩, fun i hi => ⟨_, SqL.of h3, by rw [← h2.length]; exact hi⟩⟩
        have hy := q _ (SqL.of h3)
        rw [hx] at hy; cases hy
        exact rx.mono l2
    | _ => exact h.elim
/-- the ints lo, lo + 1, .. below hi -/
def rangeD (lo hi : Int) : List D := (List.range (hi - lo).toNat).map fun (k : Nat) => D.int (lo + k)
def okR (i : Int) : Bool := decide (-(2 ^ 62) ≤ i) && decide (i < 2 ^ 62)
def gRange1 (gr : GA) : GA := fun ρ s => (gr ρ s).bind fun ds s1 => match ds with | [.int j] => if okR j then .ok (rangeD 0 j) s1 else .no | _ => .no
def gRange2 (gr : GA) : GA := fun ρ s => (gr ρ s).bind fun ds s1 => match ds with | [.int i, .int j] => if okR i && okR j then .ok (rangeD i j) s1 else .no | _ => .no
theorem itJ_range {K : PySem.W.Frag} {ι : Wd} {H : Hp} {lo hi : Int} : ItJ K ι H (Itr lo (hi - lo).toNat) (rangeD lo hi) := by
  intro ι' H' l
  refine ⟨fun i d hd => ?_, fun i h => by
    rw [rangeD, List.length_map, List.length_range] at h; exact h⟩
  · 
    unfold rangeD at hd
    rw [List.getElem?_map] at hd
    by_cases hi' : i < (hi - lo).toNat
    · rw [List.getElem?_range hi'] at hd
      cases hd
      exact ⟨hi', fun y H'' ⟨e, q⟩ => ⟨e, by rw [q]; exact .int _⟩⟩
    · rw [List.getElem?_eq_none (by simpa using hi')] at hd
      cases hd
theorem ji_range1 {a : Expr} {gr : GA} {p : Pos} (hm : X.mg "range" = none) (ha : JA X ca W [a] gr) (hg : Gl X "range" := by rfl) (hs : starEach [a] X.env = [(false, eval a X.env)] := by rfl) : JI X ca W tg (.Call (.Name "range" p) [a] [] pos) (gRange1 gr) := by
  refine PI.imp (pi_range1 hg hm ha hs) fun σ H R ⟨ι, ρ, s, hr, hm, h⟩ => bindA famI hr hm h fun ι1 s1 ds vs H1 l1 hr1 hm1 rs h1 => ?_
  split at h1
  · split at h1
    · rename_i hk
      cases rs with
      | cons r1 rs =>
        cases rs
        cases r1
        simp only [okR, Bool.and_eq_true, decide_eq_true_eq] at hk
        refine ⟨_, rfl, hk.1, hk.2, h1 ι1 _ H1 .refl hm1 ?_⟩
        have := itJ_range (K := X.K) (ι := ι1) (H := H1) (lo := 0) (hi := ‹Int›)
        rwa [Int.sub_zero] at this
    · exact h1.elim
  · exact h1.elim
theorem ji_range2 {a c : Expr} {gr : GA} {p : Pos} (hm : X.mg "range" = none) (ha : JA X ca W [a, c] gr) (hg : Gl X "range" := by rfl) (hs : starEach [a, c] X.env = [(false, eval a X.env), (false, eval c X.env)] := by rfl) (hs2 : starEach [c] X.env = [(false, eval c X.env)] := by rfl) :
    JI X ca W tg (.Call (.Name "range" p) [a, c] [] pos) (gRange2 gr) := by
  refine PI.imp (pi_range2 hg hm ha hs hs2) fun σ H R ⟨ι, ρ, s, hr, hm, h⟩ => bindA famI hr hm h fun ι1 s1 ds vs H1 l1 hr1 hm1 rs h1 => ?_
  split at h1
  · split at h1
    · rename_i hk
      cases rs with
      | cons r1 rs =>
        cases rs with
        | cons r2 rs =>
          cases rs
          cases r1
          cases r2
          simp only [okR, Bool.and_eq_true, decide_eq_true_eq] at hk
          exact ⟨_, _, rfl, ⟨hk.1.1, hk.1.2, hk.2.1, hk.2.2⟩, h1 ι1 _ H1 .refl hm1 itJ_range⟩
    · exact h1.elim
  · exact h1.elim

/-! ### for -/
def forLoop (t : TD) (b : GS) : List D → Env → S → R Fl
  | [], ρ, s => .ok (.nx ρ) s
  | x :: xs, ρ, s => match t x ρ with
    | none => .no
    | some ρ1 => (b ρ1 s).bind fun f s1 => match f with
      | .nx ρ2 => forLoop t b xs ρ2 s1
      | .ct ρ2 => forLoop t b xs ρ2 s1
      | .bk ρ2 => .ok (.nx ρ2) s1
      | .rt d => .ok (.rt d) s1
def sFor (t : TD) (gi : GA) (b : GS) : GS := fun ρ s => (gi ρ s).bind fun ds s1 => forLoop t b ds ρ s1
theorem js_for {iter : Expr} {body : List Stmt} {gi : GA} {t : TD} (hp : PassesOwn (model X.prog X.w) X.A X.env X.xe) (hc : X.calm = true) (hi : JI X ca W tg iter gi) (hg : JG X ca tg t) (hb : JSs X ca W body b) (hs : ∀ x, foldedSetIterable iter X.env x = pure x := by intro _; rfl) :
    JS X ca W (.For tg iter body [] pos) (sFor t gi b) := by
  refine PS.imp (ps_for hp hc hi hg hb hs) fun D σ H ⟨ι, ρ, s, hr, hm, h⟩ => ?_
  refine ⟨ι, ρ, s, hr, hm, ?_⟩
  unfold sFor at h
  cases e : gi ρ s with
  | err x s1 => rw [e] at h; exact fun ι' cv dd H' l m q => h ι' cv dd H' σ l m q
  | no => rw [e] at h; exact h
  | ok ds s1 =>
    rw [e] at h
    intro ι1 J H1 l1 hm1 it
    refine ⟨fun i m σ' H' => m = ds.length - i ∧ ∃ ι' ρ' s', Le ι1 H1 ι' H' ∧ RelS X.K ι' H' ρ' σ' ∧ Sim X.K ca ι' s' H' ∧ PostS X.K ca ι H W (forLoop t b (ds.drop i) ρ' s') D, ⟨_, rfl, ι1, ρ, s1, .refl, hr.mono l1, hm1, h⟩, ?_⟩
    rintro i m σ' H' ⟨rfl, ι', ρ', s', l', hr', hm', h'⟩
    obtain ⟨i1, i2⟩ := it ι' H' l'
    have l0 := l1.trans l'
    by_cases hlt : i < ds.length
    · have hd : ds[i]? = some ds[i] := List.getElem?_eq_getElem hlt
      obtain ⟨g1, g2⟩ := i1 i _ hd
      refine .inr ⟨g1, fun σ2 H2 => ∃ ι2 ρ2 s2, Le ι1 H1 ι2 H2 ∧ RelS X.K ι2 H2 ρ2 σ2 ∧ Sim X.K ca ι2 s2 H2 ∧ PostS X.K ca ι H W (forLoop t b (ds.drop (i + 1)) ρ2 s2) D, fun σ2 H2 w => ⟨_, by omega, rfl, w⟩, fun x H2 y => ?_⟩
      obtain ⟨rfl, rx⟩ := g2 x H2 y
      rw [List.drop_eq_getElem_cons hlt] at h'
      unfold forLoop at h'
      cases e2 : t ds[i] ρ' with
      | none => rw [e2] at h'; exact h'.elim
      | some ρ2 =>
        rw [e2] at h'
        refine ⟨ι', ρ', s', _, ρ2, hr', hm', rx, e2, fun ι3 σ3 H3 l3 m3 r3 => ⟨ι3, ρ2, s', r3, m3, ?_⟩⟩
        simp only at h'
        cases e3 : b ρ2 s' with
        | err x s4 => rw [e3] at h'; exact PostS.mono (show PostS X.K ca ι H W (.err x s4) _ from h') (l0.trans l3)
        | no => rw [e3] at h'; exact h'
        | ok f s4 =>
          rw [e3] at h'
          cases f with
          | nx ρ4 => exact fun ι4 σ4 H4 l4 m4 r4 => ⟨ι4, ρ4, s4, (l'.trans l3).trans l4, r4, m4, h'⟩
          | ct ρ4 => exact fun ι4 σ4 H4 l4 m4 r4 => ⟨ι4, ρ4, s4, (l'.trans l3).trans l4, r4, m4, h'⟩
          | bk ρ4 => exact fun ι4 σ4 H4 l4 m4 r4 => h' ι4 σ4 H4 ((l0.trans l3).trans l4) m4 r4
          | rt d => exact fun ι4 v H4 l4 m4 r4 => h' ι4 v H4 ((l0.trans l3).trans l4) m4 r4
    · refine .inl ⟨i2 i (by omega), ?_⟩
      rw [List.drop_eq_nil_of_le (by omega)] at h'
      exact h' ι' σ' H' l0 hm' hr'

/-! ### list comprehensions -/
def noErr {α : Type} (r : R α) : R α := match r with | .err _ _ => .no | r => r
theorem noErr_ok {α : Type} {r : R α} {a : α} {s : S} (h : noErr r = .ok a s) : r = .ok a s := by
  cases r with
  | ok _ _ => exact h
  | err _ _ => cases h
  | no => cases h
def wipeD (vs : List Nat) (ρ : Env) : Env := vs.foldr (fun v l => l.set v none) ρ
def lcLoop (t : TD) (gt : GT) (ge : GE) (ρ : Env) : List D → S → R (List D)
  | [], s => .ok [] s
  | x :: xs, s => match t x ρ with
    | none => .no
    | some ρ1 => (noErr (gt ρ1 s)).bind fun b s1 => if b then (noErr (ge ρ1 s1)).bind fun y s2 => (lcLoop t gt ge ρ xs s2).bind fun ys s3 => .ok (y :: ys) s3 else lcLoop t gt ge ρ xs s1
def gLc (own : List Nat) (gi : GA) (t : TD) (gt : GT) (ge : GE) : GE := fun ρ s => (gi ρ s).bind fun ds s1 => if fitL ds.length then (lcLoop t gt ge (wipeD own ρ) ds s1).bind fun ys s2 => .ok (.lst ys) s2 else .no
def gYes : GT := fun _ s => .ok true s
def JTs (X : Cx) (ca : Ct) (W : WX) (ifs : List Expr) (g : GT) : Prop := PTs X ifs (tT X.K ca W g)
theorem jts_nil : JTs X ca W [] gYes := ⟨fun pins s σ H Q I ⟨ι, ρ, s', hr, hm, h⟩ => pts_nil.run pins s σ H Q I (h ι H .refl hm)⟩
theorem jts_one {c : Expr} {t : GT} (h : JT X ca W c t) : JTs X ca W [c] t := pts_one h
/-- a comprehension's target, told exactly -/
structure LcT (X : Cx) (own : List Nat) (tg : Expr) (g : TG) (t : TD) : Prop where
  pg : PG X tg g
  to : ∀ {K : PySem.W.Frag} {ι : Wd} {H : Hp} {ρ ρ' : Env} {σ : L2.St} {d : D} {v : V} {Q : L2.St → Hp → Prop}, RelS K ι H (wipeD own ρ) (wipe σ own) → Rep K ι H d v → t d (wipeD own ρ) = some ρ' →
    (∀ σ', RelS K ι H ρ' σ' → wipe σ' own = wipe σ own → Q σ' H) → g v (wipe σ own) H Q
theorem Le.updNone {ι ι' : Wd} {H H' : Hp} {p : Addr} {o : HO} (l : Le ι H ι' H') (h : H p = none) : Le ι H ι' (upd H' p o) :=
  ⟨⟨l.pre, fun a u q t n => ⟨by rw [upd_ne (ne_of_none q h)]; exact (l.keep a u q t n).1, (l.keep a u q t n).2⟩, fun a xs q => by rw [upd_ne (ne_of_none q h)]; exact l.tup a xs q, fun a xs u q => by rw [upd_ne (ne_of_none q h)]; exact l.frz a xs u q⟩,
    fun a u q t n => ⟨by rw [upd_ne (ne_of_none q h)]; exact (l.stay a u q t n).1, (l.stay a u q t n).2⟩, l.sub⟩
theorem Le.shutNone {ι ι' : Wd} {H H' : Hp} {p : Addr} (l : Le ι H ι' H') (h : H p = none) (hp : p ∉ ι.M) : Le ι H ⟨ι'.ι, ι'.M.filter (· ≠ p)⟩ H' :=
  ⟨⟨l.pre, fun a u q t n => ⟨(l.keep a u q t n).1, fun z => (l.keep a u q t n).2 (List.mem_filter.mp z).1⟩, l.tup, l.frz⟩, l.stay, fun a ha => List.mem_filter.mpr ⟨l.sub a ha, by
    simp only [ne_eq, decide_not, Bool.not_eq_true', decide_eq_false_iff_not]
    exact fun z => hp (z ▸ ha)⟩⟩
theorem tG_lc {ca : Ct} {K : PySem.W.Frag} {W : WX} {own : List Nat} {gi : GA} {t : TD} {gt : GT} {ge : GE} {tgt : TG} {σ : L2.St} {H : Hp} {Q : VK}
    (to : ∀ {ι : Wd} {H : Hp} {ρ ρ' : Env} {σ : L2.St} {d : D} {v : V} {Q : L2.St → Hp → Prop}, RelS K ι H (wipeD own ρ) (wipe σ own) → Rep K ι H d v → t d (wipeD own ρ) = some ρ' → (∀ σ', RelS K ι H ρ' σ' → wipe σ' own = wipe σ own → Q σ' H) → tgt v (wipe σ own) H Q)
    (h : tG K ca W (gLc own gi t gt ge) σ H Q) : tLc (tI K ca W gi) tgt (tT K ca W0 gt) (tG K ca W0 ge) own σ H Q := by
  obtain ⟨ι, ρ, s, hr, hm, h⟩ := h
  refine ⟨ι, ρ, s, hr, hm, ?_⟩
  unfold gLc at h
  cases e : gi ρ s with
  | err x s1 => rw [e] at h; exact h
  | no => rw [e] at h; exact h
  | ok ds s1 =>
    rw [e] at h
    intro ι1 J H1 l1 hm1 it Da hDa
    simp only [R.bind_ok] at h
    split at h
    · rename_i hfit
      obtain ⟨lo, mo⟩ := hm1.open (o := .lst []) hDa trivial
      have nι : Da ∉ ι1.ι := fun z => hm1.ne hDa (hm1.sub _ z)
      -- the invariant
      refine ⟨fun i m H' => m = ds.length - i ∧ ∃ ι' s' acc vs, Le ι1 H1 ι' H' ∧ Da ∈ ι'.M ∧ Da ∉ ι'.ι ∧ Sim K ca ι' s' H' ∧ H' Da = some (.lst vs) ∧ Reps K ι' H' acc vs ∧ acc.length ≤ i ∧
        PostE K ca ι H ((lcLoop t gt ge (wipeD own ρ) (ds.drop i) s').bind fun ys s2 => .ok (.lst (acc ++ ys)) s2) Q (fun cv dd H' => W cv dd σ H'), ⟨_, rfl, ⟨ι1.ι, Da :: ι1.M⟩, s1, [], [], lo, List.mem_cons_self, nι, mo, upd_same, .nil, Nat.le_refl _, h⟩, ?_⟩
      rintro i m H' ⟨rfl, ι', s', acc, vs, l', hDM, hDι, hm', hD', hacc, hlen, h'⟩
      obtain ⟨i1, i2⟩ := it ι' H' l'
      have l0 := l1.trans l'
      by_cases hlt : i < ds.length
      · have hd : ds[i]? = some ds[i] := List.getElem?_eq_getElem hlt
        obtain ⟨g1, g2⟩ := i1 i _ hd
        refine .inr ⟨g1, fun H2 => ∃ ι' s' acc vs, Le ι1 H1 ι' H2 ∧ Da ∈ ι'.M ∧ Da ∉ ι'.ι ∧ Sim K ca ι' s' H2 ∧ H2 Da = some (.lst vs) ∧ Reps K ι' H2 acc vs ∧ acc.length ≤ i + 1 ∧
          PostE K ca ι H ((lcLoop t gt ge (wipeD own ρ) (ds.drop (i + 1)) s').bind fun ys s2 => .ok (.lst (acc ++ ys)) s2) Q (fun cv dd H' => W cv dd σ H'), fun H2 w => ⟨_, by omega, rfl, w⟩, fun x H2 y => ?_⟩
        obtain ⟨rfl, rx⟩ := g2 x H2 y
        rw [List.drop_eq_getElem_cons hlt] at h'
        unfold lcLoop at h'
        cases e2 : t ds[i] (wipeD own ρ) with
        | none => rw [e2] at h'; exact h'.elim
        | some ρ2 =>
          rw [e2] at h'
          simp only at h'
          refine to ((hr.mono l0).wipe own) rx e2 fun σ2 hr2 hw2 => ⟨hw2, ι', ρ2, s', hr2, hm', ?_⟩
          cases e3 : gt ρ2 s' with
          | err x s4 => rw [e3] at h'; exact h'.elim
          | no => rw [e3] at h'; exact h'.elim
          | ok k s4 =>
            rw [e3] at h'
            simp only [noErr, R.bind_ok] at h'
            intro ι3 H3 l3 m3
            have d3 := l3.stay _ _ hD' noTab_lst hDι
            cases k with
            | false =>
              rw [if_neg Bool.false_ne_true]
              simp only [Bool.false_eq_true, if_false] at h'
              exact ⟨ι3, s4, acc, vs, l'.trans l3, l3.sub _ hDM, d3.2, m3, d3.1, hacc.mono l3, by omega, h'⟩
            | true =>
              rw [if_pos rfl]
              simp only [if_true] at h'
              refine ⟨ι3, ρ2, s4, hr2.mono l3, m3, ?_⟩
              cases e4 : ge ρ2 s4 with
              | err x s5 => rw [e4] at h'; exact h'.elim
              | no => rw [e4] at h'; exact h'.elim
              | ok y s5 =>
                rw [e4] at h'
                simp only [R.bind_ok] at h'
                intro ι4 v4 H4 l4 m4 r4
                have d4 := l4.stay _ _ d3.1 noTab_lst d3.2
                obtain ⟨kf, mf⟩ := m4.fill (o := .lst (vs ++ [v4])) (l4.sub _ (l3.sub _ hDM)) d4.2 trivial
                have hv : vs.length = acc.length := (hacc.length).symm
                refine ⟨vs, d4.1, ?_, ι4, s5, acc ++ [y], vs ++ [v4], ((l'.trans l3).trans l4).updNone hDa, l4.sub _ (l3.sub _ hDM), d4.2, mf, upd_same, (Reps.monoK kf ((hacc.mono l3).mono l4)).append (.cons (Rep.monoK kf r4) .nil), by simp; omega, ?_⟩
                · have := fitL_le hfit
                  omega
                · cases e5 : lcLoop t gt ge (wipeD own ρ) (ds.drop (i + 1)) s5 with
                  | ok ys s6 => rw [e5] at h'; simpa using h'
                  | err x s6 => rw [e5] at h'; exact h'
                  | no => rw [e5] at h'; exact h'
      · refine .inl ⟨i2 i (by omega), ?_⟩
        rw [List.drop_eq_nil_of_le (by omega)] at h'
        simp only [lcLoop, R.bind_ok, List.append_nil] at h'
        obtain ⟨ls, ms⟩ := hm'.shut (p := Da) hDι
        exact h' _ _ H' (l1.trans (l'.shutNone hDa (hm1.ne hDa))) ms (.lst hD' (fun z => by simpa using (List.mem_filter.mp z).2) (Reps.monoK ls hacc))
    · exact h.elim

theorem je_lc {elt iter : Expr} {ifs : List Expr} {scope : Scope} {i : Nat} {x : Str} {tpos : Pos} {gi : GA} {gt : GT} {ge : GE} (hc : X.calm = true) (hN : X.N.Nodup) (hi : JI X ca W (.Name x tpos) iter gi) (ok : BlkOk X.N X.env.scope scope [(x, i)])
    (hg : ∀ (s : Shared) (H : Hp) (C : Addr) (cl : List (Str × Addr)) (fp : List Addr), PG (X.blk s H scope (compEnvC scope cl C X.env) fp) (.Name x tpos) (gName i))
    (ht : ∀ (s : Shared) (H : Hp) (C : Addr) (cl : List (Str × Addr)) (fp : List Addr), JTs (X.blk s H scope (compEnvC scope cl C X.env) fp) ca W0 ifs gt)
    (he : ∀ (s : Shared) (H : Hp) (C : Addr) (cl : List (Str × Addr)) (fp : List Addr), JE (X.blk s H scope (compEnvC scope cl C X.env) fp) ca W0 elt ge) (hs : ∀ x, foldedSetIterable iter X.env x = pure x := by intro _; rfl) :
    JE X ca W (.ListComp elt [⟨.Name x tpos, iter, ifs, 0⟩] scope pos) (gLc [i] gi (dName i) gt ge) :=
  PE.imp (pe_lc (own := [(x, i)]) (g := gName i) (wi := tI X.K ca W gi) (tt := tT X.K ca W0 gt) (te := tG X.K ca W0 ge) hc hN hi ok hg ht he hs) fun σ H Q h => tG_lc (own := [i]) (fun {ι H ρ ρ' σ d v Q} r rd e k => by
    cases e
    refine k _ (r.set rd i) ?_
    show ((wipe σ [i]).set i (some v)).set i none = (σ.set i none)
    show ((σ.set i none).set i (some v)).set i none = (σ.set i none)
    rw [List.set_set, List.set_set]) h

/-! ### defs -/
def spJ (K : PySem.W.Frag) (ca : Ct) (n : Nat) (F : List D → S → R D) : Sp := fun vs H Q E => ∃ ι ds s, Reps K ι H ds vs ∧ Sim K ca ι s H ∧ ds.length = n ∧ PostE K ca ι H (F ds s) Q E
def runF (n : Nat) (b : GS) : List D → S → R D := fun ds s => (b (ds.map some ++ List.replicate (n - ds.length) none) s).bind fun f s1 => match f with
  | .rt d => .ok d s1
  | .nx _ => .ok .non s1
  | _ => .no
theorem relS_start {K : PySem.W.Frag} {ι : Wd} {H : Hp} {ds : List D} {vs : List V} (N : List Str) (r : Reps K ι H ds vs) : RelS K ι H (ds.map some ++ List.replicate (N.length - ds.length) none) (L2.start N vs) := by
  have hl := r.length
  refine ⟨by simp [L2.start, hl], fun i d h => ?_⟩
  by_cases hi : i < ds.length
  · rw [List.getElem?_append_left (by simpa using hi), List.getElem?_map] at h
    cases e : ds[i]? with
    | none => rw [e] at h; cases h
    | some x =>
      rw [e] at h
      cases h
      obtain ⟨v, h1, h2⟩ := r.get e
      refine ⟨v, ?_, h2⟩
      unfold L2.start
      rw [List.getElem?_append_left (by rw [List.length_map, ← hl]; exact hi), List.getElem?_map, h1]
      rfl
  · rw [List.getElem?_append_right (by simpa using hi), List.getElem?_replicate] at h
    split at h <;> cases h
theorem fnJ {P : Program} {w : World} {K : PySem.W.Frag} {mg : Str → Option Value} {base : Heap} {x qual : Str} {f : Addr} {fd : FuncData} {N ps : List Str} {k : Nat} (F : Fun K x qual st f fd) (Sc : FnScope N ps (defScope st))
    (hb : ∀ (cdv : Value) (A : Around) (outer : List PySem.Env) (s : Shared) (H : Hp) (E : XK), Room k (A.deeper (envOfC qual (defScope st) s.heap.objs.size f cdv)) →
      JSs (cxOf (L2.CX P w) P w K mg base N qual (defScope st) f cdv A outer s H E) ca (fun cls d _ H => E cls d H) (defBody st) b) : FnOk P w K mg base (L2.CX P w) (k + 1) f fd ps (spJ K ca ps.length (runF N.length b)) := by
  refine F.okX Sc (fun vs H Q E ⟨ι, ds, s, hr, hm, hl, h⟩ => by rw [← hr.length, hl]) (fun cdv A outer s H vs Q E hr h => ⟨_, hb cdv A outer s H E hr, ?_⟩)
  obtain ⟨ι, ds, s', hrs, hm, hl, h⟩ := h
  refine ⟨ι, _, s', relS_start N hrs, hm, ?_⟩
  unfold runF at h
  cases e : b (ds.map some ++ List.replicate (N.length - ds.length) none) s' with
  | err y s1 => rw [e] at h; exact fun ι' cv dd H' σ' l m q => h ι' cv dd H' l m q
  | no => rw [e] at h; exact h
  | ok fl s1 =>
    rw [e] at h
    cases fl with
    | rt d => exact h
    | nx ρ => exact fun ι' σ' H' l m r => h ι' .non H' l m .non
    | bk ρ => exact h.elim
    | ct ρ => exact h.elim
/-- a def of the module, by its mirror -/
structure JFn (P : Program) (w : World) (K : PySem.W.Frag) (mg : Str → Option Value) (base : Heap) (ca : Ct) (k : Nat) (x : Str) (n : Nat) (F : List D → S → R D) : Prop where
  ex : ∃ f fd ps, mg x = some (.ref f) ∧ PySem.W.keepIn K (.ref f) = true ∧ Binds K fd ps [] ∧ ps.length = n ∧ FnOk P w K mg base (L2.CX P w) k f fd ps (spJ K ca n F)
theorem JFn.mono {P : Program} {w : World} {K : PySem.W.Frag} {mg : Str → Option Value} {base : Heap} {k j n : Nat} {x : Str} {F : List D → S → R D} (h : JFn P w K mg base ca k x n F) (l : k ≤ j) : JFn P w K mg base ca j x n F := by
  obtain ⟨f, fd, ps, a, b, c, d, e⟩ := h.ex
  exact ⟨f, fd, ps, a, b, c, d, e.mono l⟩
/-- another mirror that says no more -/
theorem JFn.imp {P : Program} {w : World} {K : PySem.W.Frag} {mg : Str → Option Value} {base : Heap} {k n : Nat} {x : Str} {F G : List D → S → R D} (h : JFn P w K mg base ca k x n F) (i : ∀ ds s, ds.length = n → G ds s = .no ∨ G ds s = F ds s) : JFn P w K mg base ca k x n G := by
  obtain ⟨f, fd, ps, a, b, c, d, e⟩ := h.ex
  refine ⟨f, fd, ps, a, b, c, d, e.imp fun vs H Q E ⟨ι, ds, s, hr, hm, hl, p⟩ => ⟨ι, ds, s, hr, hm, hl, ?_⟩⟩
  rcases i ds s hl with z | z
  · rw [z] at p; exact p.elim
  · rw [← z]; exact p
def gCall (n : Nat) (F : List D → S → R D) (gr : GA) : GE := fun ρ s => (gr ρ s).bind fun ds s1 => if ds.length = n then F ds s1 else .no
theorem je_call {x : Str} {p : Pos} {k n : Nat} {F : List D → S → R D} {gr : GA} (h : JFn X.prog X.w X.K X.mg X.base ca k x n F) (hr : Room k X.A) (tk : Takes X W) (ha : JA X ca W (e :: es) gr) (hg : Gl X x := by rfl) (hdb : (x == ("__debug__" : Str)) = false := by decide)
    (he : starEach (e :: es) X.env = (false, eval e X.env) :: starEach es X.env := by rfl) (hpl : (backTo pos (starEach es X.env)).any (·.1) = false := by rfl) : JE X ca W (.Call (.Name x p) (e :: es) [] pos) (gCall n F gr) := by
  obtain ⟨f, fd, ps, hm, hk, hb, hn, F⟩ := h.ex
  refine PE.imp (pe_callS F hr hg hm hk hb (fun σ => passAt tk σ) ha hdb he hpl) fun σ H Q ⟨ι, ρ, s, hrs, hms, h⟩ => bindA famE hrs hms h fun ι1 s1 ds vs H1 l1 hr1 hm1 rs h1 => ?_
  split at h1
  · rename_i hl
    exact ⟨ι1, ds, s1, rs, hm1, hl, h1⟩
  · exact h1.elim
/-- f() -/
theorem pe_callS0 {CX : CXT} {k : Nat} {f : Addr} {fd : FuncData} {ps : List Str} {sp : Sp} {E : L2.St → XK} {x : Str} {p : Pos} (F : FnOk X.prog X.w X.K X.mg X.base CX k f fd ps sp) (hr : Room k X.A) (hg : Gl X x) (hm : X.mg x = some (.ref f)) (hk : PySem.W.keepIn X.K (.ref f) = true) (hb : Binds X.K fd ps []) (hx : ∀ σ, PassesAt CX X σ (E σ))
    (hdb : (x == ("__debug__" : Str)) = false := by decide) : PE X (.Call (.Name x p) [] [] pos) (tCallS sp E tNil) := by
  refine ⟨fun pins s σ H Q I h => ?_⟩
  refine wpAny_Call_Name_kw (ld_glob I hg hm ?_ hdb)
  exact PySem.W.callWith_K0 I.kIn hk (run_fnS (us := []) F hr hb (hx σ) I .nil h)
theorem je_call0 {x : Str} {p : Pos} {k : Nat} {F : List D → S → R D} (h : JFn X.prog X.w X.K X.mg X.base ca k x 0 F) (hr : Room k X.A) (tk : Takes X W) (hg : Gl X x := by rfl) (hdb : (x == ("__debug__" : Str)) = false := by decide) : JE X ca W (.Call (.Name x p) [] [] pos) (gCall 0 F gaNil) := by
  obtain ⟨f, fd, ps, hm, hk, hb, hn, F⟩ := h.ex
  refine PE.imp (pe_callS0 F hr hg hm hk hb (fun σ => passAt tk σ) hdb) fun σ H Q ⟨ι, ρ, s, hrs, hms, h⟩ => ⟨ι, [], s, .nil, hms, rfl, h⟩
end
end J


set_option Elab.async false
set_option linter.all false
set_option maxRecDepth 100000
set_option maxHeartbeats 4000000
/-! J4: built-ins by values; slices; stores into lists. -/
namespace J
open PySem PySem.Spec L2

theorem bt_len : bootBuiltins "len" = some (.builtin "len") := by decide +kernel
theorem bt_isinstance : bootBuiltins "isinstance" = some (.builtin "isinstance") := by decide +kernel
theorem bt_all : bootBuiltins "all" = some (.builtin "all") := by decide +kernel
theorem bt_any : bootBuiltins "any" = some (.builtin "any") := by decide +kernel
theorem bt_sum : bootBuiltins "sum" = some (.builtin "sum") := by decide +kernel
theorem bt_min : bootBuiltins "min" = some (.builtin "min") := by decide +kernel
theorem bt_sorted : bootBuiltins "sorted" = some (.builtin "sorted") := by decide +kernel
theorem bt_int : bootBuiltins "int" = some (.type "int") := by decide +kernel
theorem bt_str : bootBuiltins "str" = some (.type "str") := by decide +kernel
theorem bt_bool : bootBuiltins "bool" = some (.type "bool") := by decide +kernel
theorem bt_tuple : bootBuiltins "tuple" = some (.type "tuple") := by decide +kernel
theorem bt_list : bootBuiltins "list" = some (.type "list") := by decide +kernel
theorem bt_dict : bootBuiltins "dict" = some (.type "dict") := by decide +kernel
theorem bt_set : bootBuiltins "set" = some (.type "set") := by decide +kernel

section
variable {K : PySem.W.Frag} {ca : Ct} {ι ι' : Wd} {H H' : Hp} {s : S}
/-! ### isinstance -/
def tyD (s : S) : D → Option String
  | .non => some "NoneType"
  | .bl _ => some "bool"
  | .int _ => some "int"
  | .str _ => some "str"
  | .tup _ => some "tuple"
  | .lst _ => some "list"
  | .frz _ => some "list"
  | .obj n => match s[n]? with | some (.lst _) => some "list" | some (.dic _) => some "dict" | _ => none
  | .ty _ => none
  | .raw _ => none
def tyKnown : List String := ["NoneType", "bool", "int", "str", "tuple", "list", "dict"]
def isT (t c : String) : Bool := t == c || (t == "bool" && c == "int")
theorem isT_ok : ∀ t ∈ tyKnown, ∀ c ∈ tyKnown, kitB t c = some (isT t c) := by decide +kernel
theorem tyD_known {d : D} {t : String} (h : tyD s d = some t) : t ∈ tyKnown := by
  unfold tyD at h
  split at h
  all_goals first
    | (cases h; decide)
    | (cases h; done)
    | (split at h <;> first | (cases h; decide) | (cases h; done))
theorem Sim.tyx (m : Sim K ca ι s H) {d : D} {v : V} {t : String} (r : Rep K ι H d v) (h : tyD s d = some t) : TyX K H v (.type t) := by
  cases r with
  | non => cases h; exact .base .non
  | bl b => cases h; exact .base (.bl b)
  | int b => cases h; exact .base (.int b)
  | str b => cases h; exact .base (.str b)
  | ty n => cases h
  | raw n => cases h
  | tup h1 h2 =>
    cases h
    rcases h1 with h1 | ⟨o, its, n, h1, h3, _⟩
    · exact .base (.tup h1)
    · exact .kTuple h1 h3
  | lst h1 _ _ => cases h; exact .base (.lst h1)
  | frz h1 _ =>
    cases h
    rcases h1 with ⟨o, h1⟩ | ⟨o, its, n, h1, h3, _⟩
    · exact .base (.frz h1)
    · exact .kList h1 h3
  | frz2 h1 _ _ => cases h; exact .base (.lst h1)
  | @obj a n h1 =>
    simp only [tyD] at h
    split at h
    · rename_i e; cases h
      obtain ⟨vs, h2, _⟩ := m.ob n a _ h1 e
      exact .base (.lst h2)
    · rename_i e; cases h
      obtain ⟨vs, h2, _⟩ := m.ob n a _ h1 e
      exact .base (.dK h2)
    · cases h
def tysD : List D → Option (List String)
  | [] => some []
  | .ty n :: ds => (tysD ds).map (n :: ·)
  | _ :: _ => none
def known (c : String) : Bool := tyKnown.any (· == c)
theorem known_mem {c : String} (h : known c = true) : c ∈ tyKnown := by
  obtain ⟨x, hx, e⟩ := List.any_eq_true.mp h
  rw [← eq_of_beq e]; exact hx
def fIsi (s : S) : List D → Option D
  | [x, .ty c] => (tyD s x).bind fun t => if known c then some (.bl (isT t c)) else none
  | [x, .tup cs] => (tyD s x).bind fun t => (tysD cs).bind fun ns => if ns.all known then some (.bl (ns.any (isT t))) else none
  | _ => none
theorem kitAny_all {t : String} (ht : t ∈ tyKnown) : ∀ {ns : List String}, ns.all known = true → PySem.W.kitAny K (.type t) (ns.map Value.type) = some (ns.any (isT t))
  | [], _ => rfl
  | n :: ns, h => by
    simp only [List.all_cons, Bool.and_eq_true] at h
    refine kitAny_cons (kit_ty (isT_ok t ht n (known_mem h.1))) (fun e => ?_) fun e => ?_
    · rw [List.any_cons, e, Bool.false_or]; exact kitAny_all ht h.2
    · rw [List.any_cons, e, Bool.true_or]
theorem reps_tys : ∀ {ds : List D} {vs : List V} {ns : List String}, Reps K ι H ds vs → tysD ds = some ns → vs = ns.map V.ty
  | _, _, _, .nil, h => by cases h; rfl
  | .ty n :: ds, _, _, .cons r t, h => by
    cases r
    simp only [tysD, Option.map_eq_some_iff] at h
    obtain ⟨ms, e, rfl⟩ := h
    rw [reps_tys t e]; rfl
  | .non :: _, _, _, .cons _ _, h => by cases h
  | .bl _ :: _, _, _, .cons _ _, h => by cases h
  | .int _ :: _, _, _, .cons _ _, h => by cases h
  | .str _ :: _, _, _, .cons _ _, h => by cases h
  | .tup _ :: _, _, _, .cons _ _, h => by cases h
  | .lst _ :: _, _, _, .cons _ _, h => by cases h
  | .frz _ :: _, _, _, .cons _ _, h => by cases h
  | .obj _ :: _, _, _, .cons _ _, h => by cases h
  | .raw _ :: _, _, _, .cons _ _, h => by cases h
theorem clsV_tys : ∀ ns : List String, Paired ClsV (ns.map V.ty) (ns.map Value.type)
  | [] => .nil
  | n :: ns => .cons (.ty n) (clsV_tys ns)
theorem vals_tys : ∀ {ns : List String} {us : List Value}, Vals (ns.map V.ty) us → us = ns.map Value.type
  | [], _, h => by cases h; rfl
  | n :: ns, _, h => by
    cases h with
    | cons r t => cases (show _ = _ from r); rw [vals_tys t]; rfl
end
section
variable {X : Cx} {ca : Ct} {W : WX} {e : Expr} {es : List Expr} {pos : Pos}
theorem cj_isinstance : CallR X (.builtin "isinstance") (rCJ X.K ca fIsi) := by
  refine CallR.imp ((call_isi.or call_isiT).or call_isiK) fun vs H Q ⟨ι, s, ds, x, m, rs, hf, q⟩ => ?_
  unfold fIsi at hf
  split at hf
  · rename_i d c
    cases rs with
    | cons r1 rs =>
      cases rs with
      | cons r2 rs =>
        cases rs
        cases r2
        simp only [Option.bind_eq_some_iff] at hf
        obtain ⟨t, ht, hf⟩ := hf
        split at hf
        · rename_i hk
          cases hf
          exact .inl (.inl ⟨_, _, _, _, _, rfl, .ty c, m.tyx r1 ht, kit_ty (isT_ok t (tyD_known ht) c (known_mem hk)), q _ _ _ .refl m (.bl _)⟩)
        · cases hf
  · rename_i d cs
    cases rs with
    | cons r1 rs =>
      cases rs with
      | cons r2 rs =>
        cases rs
        simp only [Option.bind_eq_some_iff] at hf
        obtain ⟨t, ht, ns, hn, hf⟩ := hf
        split at hf
        · rename_i hk
          cases hf
          cases r2 with
          | tup h1 h2 =>
            have ev := reps_tys h2 hn
            subst ev
            rcases h1 with h1 | ⟨o, its, n, h1, h3, h4, h5, h6⟩
            · exact .inl (.inr ⟨_, _, _, _, _, _, rfl, h1, clsV_tys ns, m.tyx r1 ht, kitAny_all (tyD_known ht) hk, q _ _ _ .refl m (.bl _)⟩)
            · obtain ⟨oc, od, dt, sl⟩ := o
              simp only at h3 h4
              subst h3 h4
              have eu := vals_tys h6
              exact .inr ⟨_, _, od, ns.map Value.type, n, sl, _, _, rfl, by rw [h1, ← eu], m.tyx r1 ht, kitAny_all (tyD_known ht) hk, q _ _ _ .refl m (.bl _)⟩
        · cases hf
  · cases hf

/-! ### len, int, str, all, any, sum, tuple, list, min -/
def f1 (f : S → D → Option D) (s : S) : List D → Option D
  | [x] => f s x
  | _ => none
theorem cj1 {fn : Value} {r : List V → Hp → VK → Prop} {f : S → D → Option D} (h : CallR X fn r)
    (i : ∀ (ι : Wd) (s : S) (H : Hp) (d : D) (v : V) (x : D) (Q : VK), Sim X.K ca ι s H → Rep X.K ι H d v → f s d = some x → (∀ ι' v' H', Le ι H ι' H' → Sim X.K ca ι' s H' → Rep X.K ι' H' x v' → Q v' H') → r [v] H Q) : CallR X fn (rCJ X.K ca (f1 f)) :=
  CallR.imp h fun vs H Q ⟨ι, s, ds, x, m, rs, hf, q⟩ => by
    cases rs with
    | nil => cases hf
    | cons r1 rs =>
      cases rs with
      | nil => exact i ι s H _ _ x Q m r1 hf q
      | cons _ _ => cases hf
theorem cj_len : CallR X (.builtin "len") (rCJ X.K ca (f1 fLen)) := by
  refine cj1 (call_len_seq.or call_len_str) fun ι s H d v x Q m r hf q => ?_
  have lists : ∀ {ds : List D}, itemsL s d = some ds → x = .int ds.length → ∃ p ys, [v] = [V.ref p] ∧ (SqL X.K H p ys ∨ SqT X.K H p ys) ∧ Q (.int ys.length) H := fun {ds} hi e => by
    subst e
    obtain ⟨a, vs, rfl, h1, h2⟩ := m.items r hi
    exact ⟨_, _, rfl, .inl h1, by rw [← h2.length]; exact q _ _ _ .refl m (.int _)⟩
  cases r with
  | str z =>
    simp only [fLen] at hf
    split at hf
    · rename_i hl
      cases hf
      exact .inr ⟨_, rfl, fitL_le hl, q _ _ _ .refl m (.int _)⟩
    · cases hf
  | tup h1 h2 => cases hf; exact .inl ⟨_, _, rfl, .inr h1.sq, by rw [← h2.length]; exact q _ _ _ .refl m (.int _)⟩
  | non => simp [fLen, itemsL] at hf
  | bl _ => simp [fLen, itemsL] at hf
  | int _ => simp [fLen, itemsL] at hf
  | ty _ => simp [fLen, itemsL] at hf
  | raw _ => simp [fLen, itemsL] at hf
  | @lst a vs ds _ _ _ => exact .inl (lists (ds := ds) rfl (by simpa [fLen, itemsL] using hf.symm))
  | @frz a vs ds _ _ => exact .inl (lists (ds := ds) rfl (by simpa [fLen, itemsL] using hf.symm))
  | @frz2 a vs ds _ _ _ => exact .inl (lists (ds := ds) rfl (by simpa [fLen, itemsL] using hf.symm))
  | @obj a n _ =>
    cases e : itemsL s (.obj n) with
    | none => simp [fLen, e] at hf
    | some ds => exact .inl (lists e (by simpa [fLen, e] using hf.symm))
def fInt (_ : S) : D → Option D
  | .int i => some (.int i)
  | .bl b => some (.int (if b then 1 else 0))
  | _ => none
theorem cj_int : CallR X (.type "int") (rCJ X.K ca (f1 fInt)) := by
  refine cj1 call_int1 fun ι s H d v x Q m r hf q => ?_
  cases r <;> simp only [fInt] at hf <;> first | cases hf | skip
  · exact .inr ⟨_, rfl, q _ _ _ .refl m (.int _)⟩
  · exact .inl ⟨_, rfl, q _ _ _ .refl m (.int _)⟩
def blsD : List D → Option (List Bool)
  | [] => some []
  | .bl b :: ds => (blsD ds).map (b :: ·)
  | _ :: _ => none
theorem blsD_eq : ∀ {ds : List D} {bs : List Bool}, blsD ds = some bs → ds = bs.map D.bl
  | [], _, h => by cases h; rfl
  | .bl b :: ds, _, h => by
    simp only [blsD, Option.map_eq_some_iff] at h
    obtain ⟨ms, e, rfl⟩ := h
    rw [blsD_eq e]; rfl
  | .non :: _, _, h => by cases h
  | .ty _ :: _, _, h => by cases h
  | .int _ :: _, _, h => by cases h
  | .str _ :: _, _, h => by cases h
  | .tup _ :: _, _, h => by cases h
  | .lst _ :: _, _, h => by cases h
  | .frz _ :: _, _, h => by cases h
  | .obj _ :: _, _, h => by cases h
  | .raw _ :: _, _, h => by cases h
def intsD : List D → Option (List Int)
  | [] => some []
  | .int b :: ds => (intsD ds).map (b :: ·)
  | _ :: _ => none
theorem intsD_eq : ∀ {ds : List D} {bs : List Int}, intsD ds = some bs → ds = bs.map D.int
  | [], _, h => by cases h; rfl
  | .int b :: ds, _, h => by
    simp only [intsD, Option.map_eq_some_iff] at h
    obtain ⟨ms, e, rfl⟩ := h
    rw [intsD_eq e]; rfl
  | .non :: _, _, h => by cases h
  | .ty _ :: _, _, h => by cases h
  | .bl _ :: _, _, h => by cases h
  | .str _ :: _, _, h => by cases h
  | .tup _ :: _, _, h => by cases h
  | .lst _ :: _, _, h => by cases h
  | .frz _ :: _, _, h => by cases h
  | .obj _ :: _, _, h => by cases h
  | .raw _ :: _, _, h => by cases h
def fAll (s : S) (x : D) : Option D := (itemsL s x).bind fun ds => (blsD ds).map fun bs => .bl (bs.all id)
def fAny (s : S) (x : D) : Option D := (itemsL s x).bind fun ds => (blsD ds).map fun bs => .bl (bs.any id)
def fSum (s : S) (x : D) : Option D := (itemsL s x).bind fun ds => (intsD ds).map fun ns => .int ns.sum
theorem cj_all (hc : X.calm = true) : CallR X (.builtin "all") (rCJ X.K ca (f1 fAll)) := by
  refine cj1 (cr_all hc) fun ι s H d v x Q m r hf q => ?_
  simp only [fAll, Option.bind_eq_some_iff, Option.map_eq_some_iff] at hf
  obtain ⟨ds, hi, bs, hb, rfl⟩ := hf
  obtain ⟨a, vs, rfl, h1, h2⟩ := m.items r hi
  rw [blsD_eq hb] at h2
  rw [Reps.bls h2] at h1
  exact ⟨_, _, rfl, h1, q _ _ _ .refl m (.bl _)⟩
theorem cj_any (hc : X.calm = true) : CallR X (.builtin "any") (rCJ X.K ca (f1 fAny)) := by
  refine cj1 (cr_any hc) fun ι s H d v x Q m r hf q => ?_
  simp only [fAny, Option.bind_eq_some_iff, Option.map_eq_some_iff] at hf
  obtain ⟨ds, hi, bs, hb, rfl⟩ := hf
  obtain ⟨a, vs, rfl, h1, h2⟩ := m.items r hi
  rw [blsD_eq hb] at h2
  rw [Reps.bls h2] at h1
  exact ⟨_, _, rfl, h1, q _ _ _ .refl m (.bl _)⟩
theorem cj_sum (hc : X.calm = true) : CallR X (.builtin "sum") (rCJ X.K ca (f1 fSum)) := by
  refine cj1 (cr_sum hc) fun ι s H d v x Q m r hf q => ?_
  simp only [fSum, Option.bind_eq_some_iff, Option.map_eq_some_iff] at hf
  obtain ⟨ds, hi, bs, hb, rfl⟩ := hf
  obtain ⟨a, vs, rfl, h1, h2⟩ := m.items r hi
  rw [intsD_eq hb] at h2
  rw [Reps.ints h2] at h1
  exact ⟨_, _, rfl, h1, q _ _ _ .refl m (.int _)⟩
def fTuple (s : S) (x : D) : Option D := match x with
  | .tup ds => some (.tup ds)
  | x => (itemsL s x).map .tup
theorem cj_tuple : CallR X (.type "tuple") (rCJ X.K ca (f1 fTuple)) := by
  refine cj1 call_tuple_of fun ι s H d v x Q m r hf q => ?_
  have lists : ∀ {ds : List D}, itemsL s d = some ds → x = .tup ds → ∃ p ys, [v] = [V.ref p] ∧ ((SqL X.K H p ys ∧ ∀ l, H l = none → Q (.ref l) (upd H l (.tup ys))) ∨ (SqT X.K H p ys ∧ Q (.ref p) H)) := fun {ds} hi e => by
    subst e
    obtain ⟨a, vs, rfl, h1, h2⟩ := m.items r hi
    refine ⟨_, _, rfl, .inl ⟨h1, fun p hp => ?_⟩⟩
    obtain ⟨l, m'⟩ := m.new (o := .tup vs) hp
    exact q _ _ _ l m' (.tup (.inl upd_same) (h2.mono l))
  cases r with
  | tup h1 h2 => cases hf; exact ⟨_, _, rfl, .inr ⟨h1.sq, q _ _ _ .refl m (.tup h1 h2)⟩⟩
  | @lst a vs ds _ _ _ => exact lists (ds := ds) rfl (by simpa [fTuple, itemsL] using hf.symm)
  | @frz a vs ds _ _ => exact lists (ds := ds) rfl (by simpa [fTuple, itemsL] using hf.symm)
  | @frz2 a vs ds _ _ _ => exact lists (ds := ds) rfl (by simpa [fTuple, itemsL] using hf.symm)
  | @obj a n _ =>
    cases e : itemsL s (.obj n) with
    | none => simp [fTuple, e] at hf
    | some ds => exact lists e (by simpa [fTuple, e] using hf.symm)
  | _ => simp [fTuple, itemsL] at hf
def fList (s : S) (x : D) : Option D := match x with
  | .tup ds => some (.lst ds)
  | x => (itemsL s x).map .lst
theorem cj_list : CallR X (.type "list") (rCJ X.K ca (f1 fList)) := by
  refine cj1 call_list_of fun ι s H d v x Q m r hf q => ?_
  have fin : ∀ {ds : List D} {vs : List V}, Reps X.K ι H ds vs → x = .lst ds → ∀ l, H l = none → Q (.ref l) (upd H l (.lst vs)) := fun {ds vs} h2 e p hp => by
    subst e
    obtain ⟨l, m'⟩ := m.new (o := .lst vs) hp
    exact q _ _ _ l m' (.lst upd_same (m.ne hp) (h2.mono l))
  have lists : ∀ {ds : List D}, itemsL s d = some ds → x = .lst ds → ∃ p ys, [v] = [V.ref p] ∧ (SqL X.K H p ys ∨ SqT X.K H p ys) ∧ ∀ l, H l = none → Q (.ref l) (upd H l (.lst ys)) := fun {ds} hi e => by
    obtain ⟨a, vs, rfl, h1, h2⟩ := m.items r hi
    exact ⟨_, _, rfl, .inl h1, fin h2 e⟩
  cases r with
  | tup h1 h2 => cases hf; exact ⟨_, _, rfl, .inr h1.sq, fin h2 rfl⟩
  | @lst a vs ds _ _ _ => exact lists (ds := ds) rfl (by simpa [fList, itemsL] using hf.symm)
  | @frz a vs ds _ _ => exact lists (ds := ds) rfl (by simpa [fList, itemsL] using hf.symm)
  | @frz2 a vs ds _ _ _ => exact lists (ds := ds) rfl (by simpa [fList, itemsL] using hf.symm)
  | @obj a n _ =>
    cases e : itemsL s (.obj n) with
    | none => simp [fList, e] at hf
    | some ds => exact lists e (by simpa [fList, e] using hf.symm)
  | _ => simp [fList, itemsL] at hf
def fMin (_ : S) : List D → Option D
  | [.int i, .int j] => some (.int (if j < i then j else i))
  | _ => none
theorem cj_min (hc : X.calm = true) : CallR X (.builtin "min") (rCJ X.K ca fMin) := by
  refine CallR.imp (call_min2 hc) fun vs H Q ⟨ι, s, ds, x, m, rs, hf, q⟩ => ?_
  unfold fMin at hf
  split at hf
  · cases hf
    cases rs with
    | cons r1 rs =>
      cases rs with
      | cons r2 rs =>
        cases rs
        cases r1
        cases r2
        exact ⟨_, _, rfl, q _ _ _ .refl m (.int _)⟩
  · cases hf

/-! ### slices -/
def cutD (xs : List D) (lo hi : Option Int) : List D := (xs.drop (HT.sIx xs.length 0 lo)).take (HT.sIx xs.length xs.length hi - HT.sIx xs.length 0 lo)
def fSl (s : S) (x : D) (lo hi : Option Int) : Option D := match x with
  | .tup ds => some (.tup (cutD ds lo hi))
  | x => (itemsL s x).map fun ds => .lst (cutD ds lo hi)
abbrev GO := Env → S → R (Option Int)
def goNone : GO := fun _ s => .ok none s
def goSome (g : GE) : GO := fun ρ s => (g ρ s).bind fun d s1 => match d with | .int i => .ok (some i) s1 | _ => .no
def gSl (g : GE) (lo hi : GO) : GE := fun ρ s => (g ρ s).bind fun x s1 => (lo ρ s1).bind fun l s2 => (hi ρ s2).bind fun h s3 => R.ofO (fSl s3 x l h) s3
def PostO (K : PySem.W.Frag) (ca : Ct) (ι : Wd) (H : Hp) (r : R (Option Int)) (Q : Option Int → Hp → Prop) (E : XK) : Prop := match r with
  | .ok b s' => ∀ ι' H', Le ι H ι' H' → Sim K ca ι' s' H' → Q b H'
  | .err e s' => ∀ ι' cv dd H', Le ι H ι' H' → Sim K ca ι' s' H' → RepX K ca ι' H' e cv dd → E cv dd H'
  | .no => False
def tO (K : PySem.W.Frag) (ca : Ct) (W : WX) (g : GO) : TO := fun σ H Q => ∃ ι ρ s, RelS K ι H ρ σ ∧ Sim K ca ι s H ∧ PostO K ca ι H (g ρ s) Q (fun cv dd H' => W cv dd σ H')
def JO (X : Cx) (ca : Ct) (W : WX) (e : Option Expr) (g : GO) : Prop := PO X e (tO X.K ca W g)
theorem famO {K : PySem.W.Frag} {E : XK} {Q : Option Int → Hp → Prop} : Fam K ca E (fun ι H r => PostO K ca ι H r Q E) := ⟨fun {ι H ι' H' r} h l => by
  cases r with
  | ok d s => exact fun ι2 H2 l2 m => h ι2 H2 (l.trans l2) m
  | err e s => exact fun ι2 cv dd H2 l2 m q => h ι2 cv dd H2 (l.trans l2) m q
  | no => exact h, fun h => h, fun h => h⟩
theorem PO.imp {e : Option Expr} {t t' : TO} (h : PO X e t) (i : ∀ σ H Q, t' σ H Q → t σ H Q) : PO X e t' := ⟨fun pins s σ H Q I q => h.run pins s σ H Q I (i _ _ _ q)⟩
theorem jo_none : JO X ca W none goNone := PO.imp po_none fun σ H Q ⟨ι, ρ, s, hr, hm, h⟩ => h ι H .refl hm
theorem jo_some {g : GE} (h : JE X ca W e g) : JO X ca W (some e) (goSome g) := PO.imp (po_some h) fun σ H Q ⟨ι, ρ, s, hr, hm, h⟩ => bindE famO hr hm h fun ι1 s1 d v H1 l1 hr1 hm1 rd h1 => by
  cases rd with
  | int i => exact ⟨i, rfl, h1 ι1 H1 .refl hm1⟩
  | _ => exact h1.elim
theorem bindO {β : Type} {Φ : Wd → Hp → R β → Prop} {K : PySem.W.Frag} {ι : Wd} {H : Hp} {ρ : Env} {σ : L2.St} {s : S} {g : GO} {k : Option Int → S → R β} {Rr : Option Int → Hp → Prop} (F : Fam K ca (fun cv dd H' => W cv dd σ H') Φ) (hr : RelS K ι H ρ σ) (hm : Sim K ca ι s H) (h : Φ ι H ((g ρ s).bind k))
    (step : ∀ ι' s' b H', Le ι H ι' H' → RelS K ι' H' ρ σ → Sim K ca ι' s' H' → Φ ι' H' (k b s') → Rr b H') : tO K ca W g σ H Rr := by
  refine ⟨ι, ρ, s, hr, hm, ?_⟩
  cases e : g ρ s with
  | ok d s' =>
    rw [e] at h
    exact fun ι' H' l m => step ι' s' d H' l (hr.mono l) m (F.mono h l)
  | err x s' =>
    rw [e] at h
    exact F.err h
  | no =>
    rw [e] at h
    exact F.no h
theorem Reps.cut {K : PySem.W.Frag} {ι : Wd} {H : Hp} {ds : List D} {vs : List V} (r : Reps K ι H ds vs) (lo hi : Option Int) : Reps K ι H (cutD ds lo hi) (cutV vs lo hi) := by
  unfold cutD cutV
  rw [r.length]
  exact (r.drop _).take _
theorem SlR.imp {r r' : V → Option Int → Option Int → Hp → VK → Prop} (h : SlR X r) (i : ∀ v lo hi H Q, r' v lo hi H Q → r v lo hi H Q) : SlR X r' := fun pins s σ H x v vl vu lo hi sl Q I rx hs pl pu q => h pins s σ H x v vl vu lo hi sl Q I rx hs pl pu (i _ _ _ _ _ q)
theorem je_slice {lo hi : Option Expr} {p2 : Pos} {g : GE} {gl gh : GO} (he : JE X ca W e g) (hl : JO X ca W lo gl) (hh : JO X ca W hi gh) : JE X ca W (.Subscript e (.Slice lo hi none p2) pos) (gSl g gl gh) := by
  refine PE.imp (pe_slice (sl_tupA.or sl_list) he hl hh) fun σ H Q ⟨ι, ρ, s, hr, hm, h⟩ => bindE famE hr hm h fun ι1 s1 d v H1 l1 hr1 hm1 rd h1 => bindO famE hr1 hm1 h1 fun ι2 s2 lo H2 l2 hr2 hm2 h2 => bindO famE hr2 hm2 h2 fun ι3 s3 hi H3 l3 hr3 hm3 h3 => ?_
  have rd := (rd.mono l2).mono l3
  cases e : fSl s3 d lo hi with
  | none => rw [e] at h3; exact h3.elim
  | some x =>
    rw [e] at h3
    have lists : ∀ {ds : List D}, itemsL s3 d = some ds → x = .lst (cutD ds lo hi) → rSlL X.K v lo hi H3 Q := fun {ds} hi' ex => by
      subst ex
      obtain ⟨a, vs, rfl, k1, k2⟩ := hm3.items rd hi'
      refine ⟨_, _, rfl, k1, fun p hp => ?_⟩
      obtain ⟨l, m'⟩ := hm3.new (o := .lst (cutV vs lo hi)) hp
      exact h3 _ _ _ l m' (.lst upd_same (hm3.ne hp) ((k2.cut lo hi).mono l))
    cases rd with
    | @tup a vs ds k1 k2 =>
      cases e
      refine .inl ⟨_, _, rfl, k1.sq, fun hw => ?_, fun hw p hp => ?_⟩
      · have hc : cutD ds lo hi = ds := by
          unfold cutD
          rw [k2.length, hw.1, hw.2, List.drop_zero, Nat.sub_zero, ← k2.length, List.take_length]
        refine h3 _ _ _ .refl hm3 ?_
        rw [hc]
        exact .tup k1 k2
      · obtain ⟨l, m'⟩ := hm3.new (o := .tup (cutV vs lo hi)) hp
        exact h3 _ _ _ l m' (.tup (.inl upd_same) ((k2.cut lo hi).mono l))
    | @lst a vs ds _ _ _ => exact .inr (lists (ds := ds) rfl (by simpa [fSl, itemsL] using e.symm))
    | @frz a vs ds _ _ => exact .inr (lists (ds := ds) rfl (by simpa [fSl, itemsL] using e.symm))
    | @frz2 a vs ds _ _ _ => exact .inr (lists (ds := ds) rfl (by simpa [fSl, itemsL] using e.symm))
    | @obj a n _ =>
      cases e' : itemsL s3 (.obj n) with
      | none => simp [fSl, e'] at e
      | some ds => exact .inr (lists e' (by simpa [fSl, e'] using e.symm))
    | _ => simp [fSl, itemsL] at e

/-! ### a list's item stored -/
def putL (s : S) (o i x : D) : Option S := match o, i with
  | .obj n, .int k => match s[n]? with
    | some (.lst ds) => (ixN ds.length k).map fun j => s.set n (.lst (ds.set j x))
    | _ => none
  | _, _ => none
def sSetIx (ge go gi : GE) : GS := fun ρ s => (ge ρ s).bind fun x s1 => (go ρ s1).bind fun o s2 => (gi ρ s2).bind fun i s3 => match putL s3 o i x with
  | some s4 => .ok (.nx ρ) s4
  | none => .no
theorem js_setIx {o i : Expr} {ge go gi : GE} {tpos : Pos} (he : JE X ca W e ge) (ho : JE X ca W o go) (hi : JE X ca W i gi)
    (ha : ∀ v, assign (.Subscript o i tpos) X.env v = (do
      let ov ← holding [v] (eval o X.env)
      let iv ← holding [v, ov] (eval i X.env)
      standAt tpos
      holding [v, ov, iv] (setItem ov iv v)
      release [v, ov, iv] []) := by intro _; rfl) (hs : swapsWithSole [.Subscript o i tpos] e pos.line X.env = pure false := by rfl) (hw : swappedStores [.Subscript o i tpos] e X.env = pure none := by rfl)
    (h1 : (assignEach [.Subscript o i tpos] X.env).map (·.2) = [assign (.Subscript o i tpos) X.env] := by rfl) : JS X ca W (.Assign [.Subscript o i tpos] e pos) (sSetIx ge go gi) := by
  refine PS.imp (ps_asg he (pg_sub ho hi set_list ha) hs hw h1) fun D σ H ⟨ι, ρ, s, hr, hm, h⟩ => bindE famS hr hm h fun ι1 s1 x v H1 l1 hr1 hm1 rx h1 => bindE famS hr1 hm1 h1 fun ι2 s2 o ov H2 l2 hr2 hm2 ro h2 => bindE famS hr2 hm2 h2 fun ι3 s3 i iv H3 l3 hr3 hm3 ri h3 => ?_
  cases e : putL s3 o i x with
  | none => rw [e] at h3; exact h3.elim
  | some s4 =>
    rw [e] at h3
    have ro := ro.mono l3
    have rx := (rx.mono l2).mono l3
    cases ro with
    | @obj a n hn =>
      cases ri with
      | int k =>
        simp only [putL] at e
        split at e
        · rename_i ds hds
          simp only [Option.map_eq_some_iff] at e
          obtain ⟨j, hj, rfl⟩ := e
          obtain ⟨vs, k1, k2⟩ := hm3.ob n _ _ hn hds
          refine ⟨_, _, _, j, rfl, rfl, k1, by rw [← k2.length]; exact hj, ?_⟩
          obtain ⟨l, m'⟩ := hm3.write (o := .lst (vs.set j v)) (u := .lst (ds.set j x)) hn trivial fun l => ⟨_, upd_same, (k2.mono l).set (rx.mono l) j⟩
          exact h3 _ _ _ l m' (hr3.mono l)
        · cases e
      | _ => simp [putL] at e
    | _ => simp [putL] at e

/-- name = [..] on one line, the name a local -/
theorem js_setLc (j : Nat) {y : Str} {py : Pos} {elt iter : Expr} {ifs : List Expr} {scope : Scope} {i : Nat} {x : Str} {tpos lpos : Pos} {gi : GA} {gt : GT} {ge : GE} (hc : X.calm = true) (hN : X.N.Nodup) (hi : JI X ca W (.Name x tpos) iter gi) (ok : BlkOk X.N X.env.scope scope [(x, i)])
    (hg : ∀ (s : Shared) (H : Hp) (C : Addr) (cl : List (Str × Addr)) (fp : List Addr), PG (X.blk s H scope (compEnvC scope cl C X.env) fp) (.Name x tpos) (gName i))
    (ht : ∀ (s : Shared) (H : Hp) (C : Addr) (cl : List (Str × Addr)) (fp : List Addr), JTs (X.blk s H scope (compEnvC scope cl C X.env) fp) ca W0 ifs gt)
    (he : ∀ (s : Shared) (H : Hp) (C : Addr) (cl : List (Str × Addr)) (fp : List Addr), JE (X.blk s H scope (compEnvC scope cl C X.env) fp) ca W0 elt ge)
    (hsw : swapsWith (.ListComp elt [⟨.Name x tpos, iter, ifs, 0⟩] scope lpos) (some (.Name y py)) pos.line X.env = pure true) (hy : X.N[j]? = some y := by rfl) (hyl : X.env.scope.names.lookup y = some .local := by rfl)
    (hs : ∀ x, foldedSetIterable iter X.env x = pure x := by intro _; rfl) :
    JS X ca W (.Assign [.Name y py] (.ListComp elt [⟨.Name x tpos, iter, ifs, 0⟩] scope lpos) pos) (sAsg (gLc [i] gi (dName i) gt ge) (dName j)) :=
  PS.imp (ps_setLc (i := j) (own := [(x, i)]) (g := gName i) (wi := tI X.K ca W gi) (tt := tT X.K ca W0 gt) (te := tG X.K ca W0 ge) hc hN hy hyl hsw hi ok hg ht he hs) fun D σ H ⟨ι, ρ, s, hr, hm, h⟩ => by
    have h2 : tG X.K ca W (gLc [i] gi (dName i) gt ge) σ H (fun v H1 => D.nx (σ.set j (some v)) H1) :=
      bindE famS hr hm h fun ι1 s1 d v H1 l1 hr1 hm1 rd h1 => h1 ι1 _ H1 .refl hm1 (hr1.set rd j)
    exact tG_lc (own := [i]) (fun {ι H ρ ρ' σ d v Q} r rd e k => by
      cases e
      refine k _ (r.set rd i) ?_
      show ((σ.set i none).set i (some v)).set i none = (σ.set i none)
      rw [List.set_set, List.set_set]) h2
theorem Room.u65 {k : Nat} {A : Around} (r : Room k A) : A.units + 65 < cLine := by have := r.un; omega
/-! ### constants of the module: tuples of data -/
/-- a constant's form: which does not hang on the heap -/
def ConstAt (K : PySem.W.Frag) (v : V) (d : D) : Prop := ∀ ι H, Rep K ι H d v
end
end J


set_option Elab.async false
set_option linter.all false
set_option maxRecDepth 100000
set_option maxHeartbeats 4000000
/-! J5: raise of own errors; a lambda handed to a def that tells which error came. -/
namespace J
open PySem PySem.Spec L2
open PyProof.Rows (envOfC)
section
variable {X : Cx} {ca : Ct} {W : WX} {e : Expr} {es : List Expr} {pos : Pos}
/-- X(), X an own exception class without own __init__ -/
theorem pmk_own0 {C : Addr} {bmB : List Value} {B newId initId : String} {x : Str} {p : Pos} (F : ExcBaseFacts B newId initId bmB) (q : PySem.W.excIn X.K C bmB newId = true) (gC : X.mg x = some (.ref C))
    (kC : PySem.W.keepIn X.K (.ref C) = true) (r : Raises X (.ref C)) (hg : Gl X x) (hdb : (x == ("__debug__" : Str)) = false := by decide) :
    PMk X (.Call (.Name x p) [] [] pos) (fun σ H Q => Q (.ref C) none H) := by
  intro pins s σ H Q I h
  refine wpAny_Call_Name_kw (ld_glob I hg gC ?_ hdb)
  refine PySem.W.callWith_K0 I.kIn kC ?_
  show wpAny _ _ (call (.ref C) []) _ _ _
  obtain ⟨bm, N, nm, qn, bs, hdct, sn, sub, ab, col, dd, k0, k1, k2, k3, k5, mN, hC, hN, hni, T⟩ := exc_obj I.kIn q
  refine wpAny_call_exc_subT F T hC hN hni (fun h' e hm => ?_) (by show 0 ≤ sizeLine; decide)
  exact mk_of I hm r h (I.hok.gone hm.new)
/-- what the written part says of an own error class without fields -/
structure ExcJ (K : PySem.W.Frag) (mg : Str → Option Value) (ca : Ct) (c : Nat) (x : Str) : Prop where
  g : mg x = some (.ref (ca.c c))
  q : PySem.W.excIn K (ca.c c) He.veBase "ValueError.__new__" = true
  k : PySem.W.keepIn K (.ref (ca.c c)) = true
  b : PySem.W.subIn K (.ref (ca.c c)) (.type "BaseException") = some true
  t : PySem.W.typeIn K (.ref (ca.c c)) = some (.type "type")
def sRaise (c : Nat) : GS := fun _ s => .err ⟨c, none⟩ s
theorem js_raise0 {x : Str} {p pos' : Pos} {c : Nat} (T : ExcJ X.K X.mg ca c x) (hc : X.calm = true) (tk : Takes X W) (hg : Gl X x := by rfl) (hdb : (x == ("__debug__" : Str)) = false := by decide) :
    JS X ca W (.Raise (some (.Call (.Name x p) [] [] pos')) none pos) (sRaise c) :=
  PS.imp (ps_raise hc tk (pmk_own0 PySem.F.excBase_ValueError T.q T.g T.k (raises_own T.b T.t) hg hdb)) fun D σ H ⟨ι, ρ, s, hr, hm, h⟩ => h ι _ none H σ .refl hm ⟨rfl, fun _ => rfl, fun _ _ z => by cases z⟩
def sNever : GS := fun _ _ => .no
theorem js_never {st : Stmt} : JS X ca W st sNever := PS.imp ps_never fun D σ H ⟨ι, ρ, s, hr, hm, h⟩ => h

/-! ### a lambda without parameters, called by the def that it is handed to -/
theorem Sim.extN {K : PySem.W.Frag} {ι : Wd} {s : S} {H H1 : Hp} (m : Sim K ca ι s H) (e : LamX.ExtN H H1) (t : LamX.Tabs ca.T H1) : Le ι H ι H1 ∧ Sim K ca ι s H1 := by
  have k : ∀ a o, H a = some o → NoTab o → H1 a = some o := fun a o h n => e a o h n
  have l : Le ι H ι H1 := ⟨⟨List.prefix_rfl, fun a o h t n => ⟨k a o h t, n⟩, fun a xs h => k _ _ h (fun _ z => by cases z), fun a o u h => k _ _ h (fun _ z => by cases z)⟩, fun a o h t n => ⟨k a o h t, n⟩, fun _ h => h⟩
  have kM : ∀ a ∈ ι.M, H1 a = H a := fun a ha => by
    obtain ⟨o, h, mu⟩ := m.tr a ha
    rw [h]; exact k a o h mu.noTab
  have nM : ∀ a o, H1 a = some o → (∀ u, MutJ u → o ≠ u) → a ∉ ι.M := fun a o h n ha => by
    obtain ⟨u, hu, mu⟩ := m.tr a ha
    rw [kM a ha, hu] at h
    exact n u mu (Option.some.inj h).symm
  refine ⟨l, m.len, m.nd, m.sub, fun a ha => by rw [kM a ha]; exact m.tr a ha, ⟨fun p hp => ?_, fun p hp => let ⟨fs, h1, h2, h3⟩ := m.tab.e p hp; ⟨fs, e _ _ h1 (fun ps z => by cases z), h2, h3⟩⟩, fun n a u hn hs => (m.ob n a u hn hs).mono l (kM a (m.sub a (List.mem_of_getElem? hn)))⟩
  obtain ⟨ps, h1, h2, h3⟩ := t p hp
  refine ⟨ps, h1, nM _ _ h1 fun u mu z => mu.noTab ps z.symm, h2, fun pos cv hc => ?_⟩
  obtain ⟨c, ec, h4⟩ := h3 pos cv hc
  exact ⟨c, ec, h4, nM _ _ h4 fun u mu z => mu.noCode z.symm⟩
/-- what the def makes of the lambda: z if it ends; of its error, hd -/
def gWrong (z : D) (hd : Ex → S → R D) (gl : GE) : GE := fun ρ s => match gl ρ s with
  | .ok _ s1 => .ok z s1
  | .err e s1 => (match hd e s1 with | .ok d s2 => .ok d s2 | _ => .no)
  | .no => .no
def TTw (K : PySem.W.Frag) (ca : Ct) (zv : V) (hd : Ex → S → R D) : (XK → Hp → VK → Prop) → Hp → VK → Prop := fun tl H Q =>
  tl (fun cls d H' => ∃ e ι s, Sim K ca ι s H' ∧ RepX K ca ι H' e cls d ∧ PostE K ca ι H' (match hd e s with | .ok d s2 => .ok d s2 | _ => .no) Q (fun _ _ _ => False)) H
    (fun _ H' => Q zv H')
theorem je_wrong {z : D} {zv : V} (hz : ∀ ι H, Rep X.K ι H z zv) {hd : Ex → S → R D} {x a : Str} {g c P : Addr} {k : Nat} {pg : Arguments} {bg : List Stmt} {sg : Scope} {dV kV doc pm cdv ct oc : Value} {an od : Option Addr} {osl : Array (Option Value)} {Ng : List Str}
    {params : Arguments} {body : Expr} {scope : Scope} {gl : GE} {p lpos pos : Pos} (hg : Gl X x) (hm : X.mg x = some (.ref g)) (hk : PySem.W.keepIn X.K (.ref g) = true)
    (lk : X.K.lookup g = some ⟨oc, od, .func (PySem.W.fnOf x x pg bg sg dV kV doc pm an cdv ct), osl⟩) (hcg : PySem.W.codeIn X.K cdv x = true) (hb : L2.Binds X.K (PySem.W.fnOf x x pg bg sg dV kV doc pm an cdv ct) [a] []) (Sg : FnScope Ng [a] sg) (hNg : Ng[0]? = some a) (hva : Vis sg a)
    (hG : LamX.GivesTo X Ng x sg g cdv bg a (X.env.qual ++ "<lambda>") (TTw X.K ca zv hd))
    (TB : LamX.TabB X.base X.mg c P) (hcode : X.env.code = .ref c) (hmT : (P, X.env.qual ++ "<lambda>") ∈ ca.T) (hu : ∀ p ∈ ca.T, p.1 = P → p.2 = X.env.qual ++ "<lambda>") (hr : Room (k + 2) X.A) (L : LamX.LamS X.env.scope scope) (hdef : defaultsOf params X.env = ([], []))
    (hbind : ∀ (q : Str) (cl : List (Str × Addr)) (pm cv ctv : Value), bindArgs (PySem.W.kla_fn "<lambda>" q params body scope cl pm cv ctv) ⟨[], []⟩ = pure [])
    (hbody : ∀ (A : Around) (outer : List PySem.Env) (s : Shared) (H : Hp) (E : XK) (f c' : Addr), Room k (A.deeper (LamX.lamEnv X scope s.heap.objs.size f c')) → JE (LamX.lamCx X A outer s H E scope f c') ca (fun cls d _ H => E cls d H) body gl)
    (hdb : (x == ("__debug__" : Str)) = false := by decide) (hd' : (a == ("__debug__" : Str)) = false := by decide) (hcd : (a == ("__classdict__" : Str)) = false := by decide) :
    JE X ca W (.Call (.Name x p) [.Lambda params body scope lpos] [] pos) (gWrong z hd gl) := by
  refine PE.imp (LamX.pe_lamcall (T := ca.T) (t := fun E => tG X.K ca (fun cls d _ H => E cls d H) gl) hg hm hk lk hcg hb Sg hNg hva hG TB hcode hmT hu hr L hdef hbind hbody hdb hd' hcd) fun σ H Q ⟨ι, ρ, s, hrs, hms, h⟩ => ?_
  refine ⟨hms.tab.tabs, fun H1 eN T1 => ?_⟩
  obtain ⟨l, m1⟩ := hms.extN eN T1
  show tG X.K ca (fun cls d _ H' => ∃ e ι s, Sim X.K ca ι s H' ∧ RepX X.K ca ι H' e cls d ∧ PostE X.K ca ι H' (match hd e s with | .ok d s2 => .ok d s2 | _ => .no) Q (fun _ _ _ => False)) gl σ H1
    (fun _ H' => Q zv H')
  refine ⟨ι, ρ, s, hrs.mono l, m1, ?_⟩
  have h := PostE.mono h l
  unfold gWrong at h
  cases e : gl ρ s with
  | no => rw [e] at h; exact h
  | ok d s1 =>
    rw [e] at h
    exact fun ι' v H' l' m' r => h ι' zv H' l' m' (hz ι' H')
  | err x s1 =>
    rw [e] at h
    simp only at h
    intro ι' cv dd H' l' m' q
    refine ⟨x, ι', s1, m', q, ?_⟩
    cases e2 : hd x s1 with
    | ok d s2 => rw [e2] at h; exact PostE.mono (show PostE X.K ca ι H1 (.ok d s2) Q (fun _ _ _ => False) from h) l'
    | err _ _ => rw [e2] at h; exact h
    | no => rw [e2] at h; exact h
/-! ### isinstance of the error that a suite holds -/
def gIsE (b : Addr → Addr → Option Bool) (ga gc : GE) : GE := fun ρ s => (ga ρ s).bind fun x s1 => (gc ρ s1).bind fun y s2 => match x, y with
  | .raw a, .raw C => R.ofO ((b a C).map D.bl) s2
  | _, _ => .no
theorem je_isE {a D₀ : Addr} {oe : Obj} {pn : List (Addr × Obj)} {ea ec : Expr} {ga gc : GE} {p : Pos} {b : Addr → Option Bool} (C : ExcC X.K D₀) (hz : Zc (.ref D₀) none oe) (hf : ∃ vs, oe.data = .fields vs) (hb : ∀ E v, b E = some v → PySem.W.kitOne X.K (.ref D₀) (.ref E) = some v) (hm : X.mg "isinstance" = none)
    (ha : JE (X.suite a ((a, oe) :: pn)) ca W ea ga) (hc : JE (X.suite a ((a, oe) :: pn)) ca W ec gc) (hg : Gl X "isinstance" := by rfl)
    (he : starEach [ea, ec] X.env = (false, eval ea X.env) :: starEach [ec] X.env := by rfl) (he2 : starEach [ec] X.env = (false, eval ec X.env) :: starEach [] X.env := by rfl) (hpl : (backTo pos (starEach [ec] X.env)).any (·.1) = false := by rfl) :
    JE (X.suite a ((a, oe) :: pn)) ca W (.Call (.Name "isinstance" p) [ea, ec] [] pos) (gIsE (fun a' E => if a' = a then b E else none) ga gc) := by
  refine PE.imp (pe_callB (call_isE C hz hf) hg hm bt_isinstance (pa_cons ha (pa_cons hc pa_nil he2) he) (by decide) (by decide) he hpl) fun σ H Q ⟨ι, ρ, s, hr, hms, h⟩ => ?_
  refine bindE famE hr hms h fun ι1 s1 x v H1 l1 hr1 hm1 rx h1 => bindE famE hr1 hm1 h1 fun ι2 s2 y u H2 l2 hr2 hm2 ry h2 => ?_
  cases rx with
  | raw a' =>
    cases ry with
    | raw E =>
      simp only at h2
      by_cases ea : a' = a
      · subst ea
        rw [if_pos rfl] at h2
        cases eb : b E with
        | none => rw [eb] at h2; exact h2.elim
        | some v =>
          rw [eb] at h2
          exact ⟨_, .ref E, v, rfl, fun u r => r, hb E v eb, h2 ι2 _ H2 .refl hm2 (.bl v)⟩
      · rw [if_neg ea] at h2; exact h2.elim
    | _ => exact h2.elim
  | _ => exact h2.elim
end

section
variable {X : Cx} {ca : Ct} {W : WX} {pos : Pos}
/-! ### a written dict of texts, asked -/
def dictV (kvs : List (Str × Str)) (x : Str) : Option D := match valV (mergeK [] (kvs.map fun q => ((Sum.inr q.1 : Key), V.str q.2))) (Sum.inr x) with
  | some (.str y) => some (.str y)
  | _ => none
def gDictC (kvs : List (Str × Str)) (gk : GE) : GE := fun ρ s => (gk ρ s).bind fun d s1 => match d with | .str x => R.ofO (dictV kvs x) s1 | _ => .no
def trsC (kvs : List (Str × Str)) : List (TE × TE) := kvs.map fun q => (tC (.str q.1), tC (.str q.2))
theorem tPairs_c {σ : L2.St} : ∀ {kvs : List (Str × Str)} {H : Hp} {Q : List (V × V) → Hp → Prop}, Q (kvs.map fun q => (V.str q.1, V.str q.2)) H → tPairs (trsC kvs) σ H Q
  | [], _, _, h => h
  | q :: kvs, H, Q, h => tPairs_c (kvs := kvs) (H := H) (Q := fun ps H' => Q ((V.str q.1, V.str q.2) :: ps) H') h
theorem je_dictC {kvs : List (Str × Str)} {keys : List (Option Expr)} {values : List Expr} {k : Expr} {p : Pos} {gk : GE} {j : Nat} (hr : Room j X.A) (h : PPs X p keys values (trsC kvs)) (hk : JE X ca W k gk) (hn : kvs.length ≤ 15 := by decide) (hall : keys.all (·.isSome) = true := by rfl) (hl : keys.length = values.length := by rfl) (h0 : keys ≠ [] := by exact fun z => by cases z)
    (h15 : keys.length ≤ 15 := by decide) (hs : NoSl k := by exact fun _ _ => rfl) : JE X ca W (.Subscript (.Dict keys values p) k pos) (gDictC kvs gk) := by
  refine PE.imp (pe_dget (hu_of hr) (pe_disp h hall hl h0 h15) hk hs) fun σ H Q ⟨ι, ρ, s, hrs, hm, h⟩ => ?_
  intro pd hpd
  refine tPairs_c ?_
  refine ⟨upd_same, kvs.map fun q => ((Sum.inr q.1 : Key), V.str q.2), by rw [List.map_map]; rfl, by simpa using hn, ?_⟩
  rw [upd_upd]
  obtain ⟨l, m⟩ := hm.new (o := .dK (mergeK [] (kvs.map fun q => ((Sum.inr q.1 : Key), V.str q.2)))) hpd
  have h := PostE.mono h l
  refine bindE famE (hrs.mono l) m h fun ι1 s1 d v H1 l1 hr1 hm1 rd h1 => ?_
  have hd := (l1.stay _ _ upd_same (fun _ z => by cases z) (fun z => hm.ne hpd (hm.sub _ z))).1
  cases rd with
  | str x =>
    simp only at h1
    cases e : dictV kvs x with
    | none => rw [e] at h1; exact h1.elim
    | some d' =>
      rw [e] at h1
      unfold dictV at e
      split at e
      · rename_i y ey
        cases e
        exact ⟨pd, .str y, rfl, .inl ⟨_, Sum.inr x, .inl hd, rfl, ey.symm⟩, h1 ι1 _ H1 .refl hm1 (.str y)⟩
      · cases e
  | _ => exact h1.elim
end

section
variable {ca : Ct}
/-- as fnJ, of a def by its parts; what its code object is, is told -/
theorem fnJD {P : Program} {w : World} {K : PySem.W.Frag} {mg : Str → Option Value} {base : Heap} {x qual : Str} {params : Arguments} {body : List Stmt} {scope : Scope} {f : Addr} {fd : FuncData} {N ps : List Str} {k : Nat} {b : GS} (F : FunD K x qual params body scope [] [] f fd) (Sc : FnScope N ps scope)
    (hb : ∀ (cdv : Value) (A : Around) (outer : List PySem.Env) (s : Shared) (H : Hp) (E : XK), Room k (A.deeper (envOfC qual scope s.heap.objs.size f cdv)) →
      JSs (cxOf (L2.CX P w) P w K mg base N qual scope f cdv A outer s H E) ca (fun cls d _ H => E cls d H) body b) : FnOk P w K mg base (L2.CX P w) (k + 1) f fd ps (spJ K ca ps.length (runF N.length b)) := by
  refine F.ok Sc (fun vs H Q E ⟨ι, ds, s, hr, hm, hl, h⟩ => by rw [← hr.length, hl]) (fun cdv A outer s H vs Q E hr h => ⟨_, hb cdv A outer s H E hr, ?_⟩)
  obtain ⟨ι, ds, s', hrs, hm, hl, h⟩ := h
  refine ⟨ι, _, s', relS_start N hrs, hm, ?_⟩
  unfold runF at h
  cases e : b (ds.map some ++ List.replicate (N.length - ds.length) none) s' with
  | err y s1 => rw [e] at h; exact fun ι' cv dd H' σ' l m q => h ι' cv dd H' l m q
  | no => rw [e] at h; exact h
  | ok fl s1 =>
    rw [e] at h
    cases fl with
    | rt d => exact h
    | nx ρ => exact fun ι' σ' H' l m r => h ι' .non H' l m .non
    | bk ρ => exact h.elim
    | ct ρ => exact h.elim
/-- a module's constant that is data -/
def ConstJ (K : PySem.W.Frag) (mg : Str → Option Value) (x : Str) (d : D) : Prop := ∃ (u : Value) (v : V), mg x = some u ∧ RelV v u ∧ ∀ ι H, Rep K ι H d v
theorem je_k {X : Cx} {W : WX} {x : Str} {d : D} {pos : Pos} (h : ConstJ X.K X.mg x d) (hg : Gl X x := by rfl) (hd : (x == ("__debug__" : Str)) = false := by decide) : JE X ca W (.Name x pos) (gC d) := by
  obtain ⟨u, v, h1, h2, h3⟩ := h
  exact je_glob h1 h2 h3 hg hd
end
end J


set_option Elab.async false
set_option linter.all false
set_option maxRecDepth 100000
set_option maxHeartbeats 4000000
/-! J6: a def that tries what it is handed; constants of the module; the law's def; the end. -/
namespace J
open PySem PySem.Spec L2
open PyProof.Rows (envOfC)

/-- the def: try: a() / except ec as en: sst / return z -/
theorem gives_wrong {X : Cx} {ca : Ct} {x a en ec q : Str} {zv : V} {ze : Expr} {sg : Scope} {g C : Addr} {cdg : Value} {sst : Stmt} {p1 p2 p3 p4 p5 p6 p8 : Pos} {cls : List Nat} {hd : Ex → S → R D} {gs : Nat → Addr → GS}
    (hnd : [a, en].Nodup) (hen : sg.names.lookup en = some .local) (hge : sg.names.lookup ec = some .globalImplicit) (hme : X.mg ec = some (.ref C)) (hde : (ec == ("__debug__" : Str)) = false)
    (hze : ∀ (s : Shared) (H : Hp), PE (cxOf C8.CX0 X.prog X.w X.K X.mg X.base [a, en] x sg g cdg X.A X.stack s H C8.E0).nox ze (tC zv))
    (hx : ∀ i ∈ cls, PySem.W.exmOne X.K (.ref (ca.c i)) (.ref C) = some true)
    (hs : ∀ (s : Shared) (H : Hp), ∀ i ∈ cls, ∀ (a' : Addr) (oe : Obj) (pn : List (Addr × Obj)), Zc (.ref (ca.c i)) none oe → (∃ vs, oe.data = .fields vs) →
      JS ((cxOf C8.CX0 X.prog X.w X.K X.mg X.base [a, en] x sg g cdg X.A X.stack s H C8.E0).nox.suite a' ((a', oe) :: pn)) ca W0 sst (gs i a'))
    (hg : ∀ e s d s2, hd e s = .ok d s2 → e.cls ∈ cls ∧ e.arg = none ∧ ∀ a', gs e.cls a' [none, some (.raw a')] s = .ok (.rt d) s2) :
    LamX.GivesTo X [a, en] x sg g cdg [.Try [.Expr (.Call (.Name a p1) [] [] p2) p3] [.ExceptHandler (some (.Name ec p4)) (some en) [sst] p5] [] [] p6, .Return (some ze) p8] a q (TTw X.K ca zv hd) := by
  intro f c' s H Q tl act hc h
  have hgl : Gl (cxOf C8.CX0 X.prog X.w X.K X.mg X.base [a, en] x sg g cdg X.A X.stack s H C8.E0).nox ec := hge
  refine ⟨_, pss_cons (ps_try_as (X := (cxOf C8.CX0 X.prog X.w X.K X.mg X.base [a, en] x sg g cdg X.A X.stack s H C8.E0).nox) (c := .ref C) (i := 1) (Wout := fun _ _ _ _ => False)
      (tb := fun W D σ H => ∃ Ech : XK, (∀ cls d σ' H', Ech cls d H' → W cls d σ' H') ∧ σ[0]? = some (some (.ref f)) ∧ H c' = some (LamX.CodeO c' q) ∧ tl Ech H (fun _ H' => D.nx σ H'))
      (ts := fun a' cv d D σ H => ∃ i ∈ cls, cv = .ref (ca.c i) ∧ d = none ∧ (σ.length = 2 → tS X.K ca W0 (gs i a') D σ H))
      rfl rfl hnd rfl hen ⟨hgl, hde, .inl hme⟩ LamX.takes0 (fun W pn xe tk _ => ?_) (fun a' oe cv d pn hz hf => ?_)) (pss_one (ps_ret (hze s H))), ?_⟩
  · refine ⟨fun pins s' σ H' D I h' => ?_⟩
    obtain ⟨Ech, hW, h1, h2, h3⟩ := h'
    have hp := act W pn xe Ech p1 p2 tk (fun cv d σ' H2 z => hW cv d σ' H2 z)
    exact (pss_one (ps_expr (pos := p3) hp)).run pins s' σ H' D I ⟨h1, h2, h3⟩
  · refine ⟨fun pins s' σ H' D I ⟨i, hi, e1, e2, h'⟩ => ?_⟩
    subst e1 e2
    exact (pss_one (hs s H i hi a' oe pn hz hf)).run pins s' σ H' D I (h' I.len)
  · refine ⟨fun cv d H' => ∃ e ι s, Sim X.K ca ι s H' ∧ RepX X.K ca ι H' e cv d ∧ PostE X.K ca ι H' (match hd e s with | .ok d s2 => .ok d s2 | _ => .no) Q (fun _ _ _ => False), fun cv d σ' H' ⟨e, ι, s', m, rx, p⟩ => ?_, rfl, hc, ?_⟩
    · cases eh : hd e s' with
      | err _ _ => rw [eh] at p; exact p.elim
      | no => rw [eh] at p; exact p.elim
      | ok d' s2 =>
        rw [eh] at p
        obtain ⟨h1, h2, h3⟩ := hg e s' d' s2 eh
        obtain ⟨r1, r2, _⟩ := rx
        refine ⟨true, by rw [r1]; exact hx _ h1, fun _ a' _ => ⟨e.cls, h1, r1, r2 h2, fun hl => ⟨ι, [none, some (.raw a')], s', ⟨hl.symm, fun i d hi => ?_⟩, m, ?_⟩⟩, fun z => by cases z⟩
        · match i, hi with
          | 1, hi =>
            cases hi
            rw [List.length_set] at hl
            exact ⟨_, List.getElem?_set_self (by omega), .raw a'⟩
        · rw [h3 a']
          exact fun ι' v H2 l m2 r => p ι' v H2 l m2 r
    · exact h

/-! ### constants of the module -/
mutual
def reprB (K : PySem.W.Frag) : D → Value → Bool
  | .int i, .int j _ => i == j
  | .str x, .str y _ => decide (x = y)
  | .bl a, .bool b => a == b
  | .non, .none => true
  | .tup ds, .ref a => (match K.lookup a with
    | some ⟨.type c, _, .seq its _, _⟩ => decide (c = "tuple") && (decide (its.size ≤ sizeLine) && reprsB K ds its.toList)
    | _ => false)
  | _, _ => false
def reprsB (K : PySem.W.Frag) : List D → List Value → Bool
  | [], [] => true
  | d :: ds, u :: us => reprB K d u && reprsB K ds us
  | _, _ => false
end
mutual
theorem reprB_ok {K : PySem.W.Frag} : ∀ {d : D} {u : Value}, reprB K d u = true → ∃ v, RelV v u ∧ ∀ ι H, Rep K ι H d v
  | .int i, u, h => by
    cases u <;> simp only [reprB] at h <;> first | cases h | skip
    rename_i j t
    have e : i = j := by simpa using h
    subst e
    exact ⟨.int i, ⟨t, rfl⟩, fun _ _ => .int i⟩
  | .str x, u, h => by
    cases u <;> simp only [reprB] at h <;> first | cases h | skip
    rename_i y t
    have e : x = y := by simpa using h
    subst e
    exact ⟨.str x, ⟨t, rfl⟩, fun _ _ => .str x⟩
  | .bl x, u, h => by
    cases u <;> simp only [reprB] at h <;> first | cases h | skip
    rename_i y
    have e : x = y := by simpa using h
    subst e
    exact ⟨.bl x, rfl, fun _ _ => .bl x⟩
  | .non, u, h => by
    cases u <;> simp only [reprB] at h <;> first | cases h | skip
    exact ⟨.non, rfl, fun _ _ => .non⟩
  | .tup ds, u, h => by
    cases u <;> simp only [reprB] at h <;> first | cases h | skip
    rename_i a
    split at h
    · rename_i c od its n sl e
      simp only [Bool.and_eq_true, decide_eq_true_eq] at h
      obtain ⟨rfl, h2, h3⟩ := h
      obtain ⟨vs, rv, rr⟩ := reprsB_ok h3
      exact ⟨.ref a, rfl, fun ι H => .tup (.inr ⟨_, its, n, e, rfl, rfl, h2, rv⟩) (rr ι H)⟩
    · cases h
  | .ty _, u, h => by simp [reprB] at h
  | .lst _, u, h => by simp [reprB] at h
  | .frz _, u, h => by simp [reprB] at h
  | .obj _, u, h => by simp [reprB] at h
  | .raw _, u, h => by simp [reprB] at h
theorem reprsB_ok {K : PySem.W.Frag} : ∀ {ds : List D} {us : List Value}, reprsB K ds us = true → ∃ vs, Vals vs us ∧ ∀ ι H, Reps K ι H ds vs
  | [], [], _ => ⟨[], .nil, fun _ _ => .nil⟩
  | [], _ :: _, h => by simp [reprsB] at h
  | _ :: _, [], h => by simp [reprsB] at h
  | d :: ds, u :: us, h => by
    simp only [reprsB, Bool.and_eq_true] at h
    obtain ⟨v, r1, r2⟩ := reprB_ok h.1
    obtain ⟨vs, r3, r4⟩ := reprsB_ok h.2
    exact ⟨v :: vs, .cons r1 r3, fun ι H => .cons (r2 ι H) (r4 ι H)⟩
end
def constB (K : PySem.W.Frag) (x : Str) (d : D) : Bool := match PySem.W.nsIn K mainGlobals x with
  | some (some u) => reprB K d u
  | _ => false
theorem const_ok {K : PySem.W.Frag} {h : Heap} {mg : Str → Option Value} (X : K.In h) (G : h.Ns mainGlobals mg) {x : Str} {d : D} (c : constB K x d = true) : ConstJ K mg x d := by
  unfold constB at c
  split at c
  · rename_i u e
    obtain ⟨v, r1, r2⟩ := reprB_ok c
    exact ⟨u, v, PySem.W.mg_of X G e, r1, r2⟩
  · cases c
/-! ### own errors -/
def excCB (K : PySem.W.Frag) (D₀ : Addr) : Bool :=
  decide (PySem.W.findIn K (.ref D₀) "__getattribute__" = some (some (.builtin "BaseException.__getattribute__"))) && (decide (PySem.W.findIn K (.ref D₀) "__getattr__" = some none) && (decide (PySem.W.subIn K (.ref D₀) (.type "BaseException") = some true) && (PySem.W.hasDictIn K D₀ &&
    (decide (PySem.W.findIn K (.ref D₀) "__class__" = some (some (.builtin "object.__class__"))) && (decide (PySem.W.specialIn K (.builtin "object.__class__") "__get__" = some (some (.builtin "getset_descriptor.__get__"))) && (decide (PySem.W.takesIn K (.builtin "object.__class__") = some true) && decide (PySem.W.mroIn K D₀ (.type "object") = some true)))))))
theorem excCB_ok {K : PySem.W.Frag} {D₀ : Addr} (h : excCB K D₀ = true) : ExcC K D₀ := by
  simp only [excCB, Bool.and_eq_true, decide_eq_true_eq] at h
  exact ⟨h.1, h.2.1, h.2.2.1, h.2.2.2.1, h.2.2.2.2.1, h.2.2.2.2.2.1, h.2.2.2.2.2.2.1, h.2.2.2.2.2.2.2⟩
def kitB2 (K : PySem.W.Frag) (x y : Str) (b : Bool) : Bool := decide (PySem.W.kitOne K (.ref (He.ga K x)) (.ref (He.ga K y)) = some b)
theorem excJ_ok {K : PySem.W.Frag} {h : Heap} {mg : Str → Option Value} {ca : Ct} {i : Nat} {x : Str} (X : K.In h) (G : h.Ns mainGlobals mg) (c : (He.Fa.exc x).ok K = true) (g : (He.Fa.glo x).ok K = true) (e : ca.c i = He.ga K x) : ExcJ K mg ca i x := by
  obtain ⟨h1, h2, h3, h4⟩ := He.exc_ok c
  exact ⟨by rw [e]; exact He.glo_ok X G g, by rw [e]; exact h1, by rw [e]; exact h2, by rw [e]; exact h3, by rw [e]; exact h4⟩

/-! ### the law's def -/
theorem fnJL {ca : Ct} {P : Program} {w : World} {K : PySem.W.Frag} {mg : Str → Option Value} {base : Heap} {x qual : Str} {params : Arguments} {body : List Stmt} {scope : Scope} {f c : Addr} {fd : FuncData} {N ps : List Str} {k : Nat} {b : GS} (F : FunD K x qual params body scope [] [] f fd) (Sc : FnScope N ps scope)
    (hf : He.fAd K (x, none) = f) (hc : He.codeOf K (x, none) = c)
    (hb : ∀ (cdv : Value) (A : Around) (outer : List PySem.Env) (s : Shared) (H : Hp) (E : XK), cdv = .ref c → Room k (A.deeper (envOfC qual scope s.heap.objs.size f cdv)) →
      JSs (cxOf (L2.CX P w) P w K mg base N qual scope f cdv A outer s H E) ca (fun cls d _ H => E cls d H) body b) : FnOk P w K mg base (L2.CX P w) (k + 1) f fd ps (spJ K ca ps.length (runF N.length b)) := by
  obtain ⟨oc, od, dV, kV, doc, pm, an, cdv, ct, osl, rfl, lk, hcd, _, _⟩ := F.ex
  obtain ⟨c', rfl⟩ := He.codeIn_ref hcd
  have ec : c' = c := by rw [← hc]; exact (He.codeOf_eq (by rw [hf]; exact lk) rfl).symm
  refine fn_of lk hcd Sc (fun vs H Q E ⟨ι, ds, s, hr, hm, hl, h⟩ => by rw [← hr.length, hl]) (fun A outer s H vs Q E hr h => ⟨_, hb (.ref c') A outer s H E (by rw [ec]) hr, ?_⟩)
  obtain ⟨ι, ds, s', hrs, hm, hl, h⟩ := h
  refine ⟨ι, _, s', relS_start N hrs, hm, ?_⟩
  unfold runF at h
  cases e : b (ds.map some ++ List.replicate (N.length - ds.length) none) s' with
  | err y s1 => rw [e] at h; exact fun ι' cv dd H' σ' l m q => h ι' cv dd H' l m q
  | no => rw [e] at h; exact h
  | ok fl s1 =>
    rw [e] at h
    cases fl with
    | rt d => exact h
    | nx ρ => exact fun ι' σ' H' l m r => h ι' .non H' l m .non
    | bk ρ => exact h.elim
    | ct ρ => exact h.elim
theorem pass_none {P : Program} {w : World} {H : Hp} {s : Shared} {e : Value} {s' : Shared} (h : L2.CX P w [] H s (fun _ _ _ => False) e s') : False := by
  obtain ⟨_, _, _, _, _, _, _, _, _, _, _, _, z⟩ := h
  exact z.elim
/-- what the end asks of a law: for every script of at most 63 ints its mirror gives True -/
theorem spJ_law {K : PySem.W.Frag} {ca : Ct} {F : List D → S → R D} {H : Hp} {a : Addr} {ns : List Int} (hT : ∀ p ∈ ca.T, H p.1 = some (.tbl #[])) (hx : ca.x = []) (hS : SqL K H a (ns.map V.int)) (h : ∃ s', F [.frz (ns.map D.int)] [] = .ok (.bl true) s') :
    spJ K ca 1 F [.ref a] H (fun v _ => v = .bl true) (fun _ _ _ => False) := by
  obtain ⟨s', h⟩ := h
  have ri : ∀ ns : List Int, Reps K ⟨[], []⟩ H (ns.map D.int) (ns.map V.int) := fun ns => by
    induction ns with
    | nil => exact .nil
    | cons n ns ih => exact .cons (.int n) ih
  have r : Rep K ⟨[], []⟩ H (.frz (ns.map D.int)) (.ref a) := by
    rcases hS with (h1 | ⟨o, h1⟩) | h1
    · exact .frz2 h1 (by simp) (ri ns)
    · exact .frz (.inl ⟨o, h1⟩) (ri ns)
    · exact .frz (.inr h1) (ri ns)
  refine ⟨⟨[], []⟩, [.frz (ns.map D.int)], [], .cons r .nil, ⟨rfl, List.nodup_nil, (fun _ h => (List.not_mem_nil h).elim), (fun _ h => (List.not_mem_nil h).elim), ⟨(fun p hp => ⟨#[], hT p hp, List.not_mem_nil, trivial, fun pos cv hc => ?_⟩), fun p hp => by rw [hx] at hp; cases hp⟩, (fun n a o h => (nomatch (show ([] : List Addr)[n]? = some a from h)))⟩, rfl, ?_⟩
  · have z : codeAmong pos [] = some cv := hc
    simp [codeAmong] at z
  · rw [h]
    intro ι' v H' l m q
    cases q
    rfl
end J


set_option Elab.async false
set_option linter.all false
set_option maxRecDepth 100000
set_option maxHeartbeats 4000000
/-! J7: plain lemmas about the mirrors' words. -/
namespace J
open PySem L2

theorem lcLoop_pure {t : TD} {gt : GT} {ge : GE} {ρ : Env} {s : S} (p : D → Bool) (f : D → D) : ∀ xs : List D, (∀ x ∈ xs, ∃ ρ1, t x ρ = some ρ1 ∧ gt ρ1 s = .ok (p x) s ∧ (p x = true → ge ρ1 s = .ok (f x) s)) → lcLoop t gt ge ρ xs s = .ok ((xs.filter p).map f) s
  | [], _ => rfl
  | x :: xs, h => by
    obtain ⟨ρ1, h1, h2, h3⟩ := h x List.mem_cons_self
    have ih := lcLoop_pure p f xs fun y hy => h y (List.mem_cons_of_mem _ hy)
    unfold lcLoop
    rw [h1]
    simp only [h2, noErr, R.bind_ok]
    cases e : p x with
    | true =>
      simp only [if_true, h3 e, ih, R.bind_ok]
      rw [List.filter_cons_of_pos e]; rfl
    | false =>
      simp only [Bool.false_eq_true, if_false, ih]
      rw [List.filter_cons_of_neg (by rw [e]; exact Bool.false_ne_true)]
/-- the whole comprehension, of a thing that changes nothing -/
theorem gLc_pure {own : List Nat} {gi : GA} {t : TD} {gt : GT} {ge : GE} {ρ : Env} {s s1 : S} {xs : List D} (p : D → Bool) (f : D → D) (hi : gi ρ s = .ok xs s1) (hl : xs.length ≤ 16777216)
    (h : ∀ x ∈ xs, ∃ ρ1, t x (wipeD own ρ) = some ρ1 ∧ gt ρ1 s1 = .ok (p x) s1 ∧ (p x = true → ge ρ1 s1 = .ok (f x) s1)) : gLc own gi t gt ge ρ s = .ok (.lst ((xs.filter p).map f)) s1 := by
  unfold gLc
  rw [hi]
  simp only [R.bind_ok]
  rw [if_pos (by simpa [fitL] using hl), lcLoop_pure p f xs h]
  rfl
theorem eqD_str (s : S) (a b : Str) (ha : PyData.strOk a = true) (hb : PyData.strOk b = true) : eqD s (.str a) (.str b) = some (a == b) := by simp [eqD, deref, D.toPy, SeqAt.shaped, PyData.canLay0, PyData.depth, PyData.eqv, ha, hb]
@[simp] theorem eqD_int (s : S) (a b : Int) : eqD s (.int a) (.int b) = some (a == b) := by simp [eqD, deref, D.toPy, SeqAt.shaped, PyData.canLay0, PyData.depth, PyData.eqv]
@[simp] theorem eqD_bl (s : S) (a b : Bool) : eqD s (.bl a) (.bl b) = some (a == b) := by simp [eqD, deref, D.toPy, SeqAt.shaped, PyData.canLay0, PyData.depth, PyData.eqv]
@[simp] theorem eqD_non (s : S) : eqD s .non .non = some true := by simp [eqD, deref, D.toPy, SeqAt.shaped, PyData.canLay0, PyData.depth, PyData.eqv]
@[simp] theorem eqD_non_int (s : S) (a : Int) : eqD s .non (.int a) = some false := by simp [eqD, deref, D.toPy, SeqAt.shaped, PyData.canLay0, PyData.depth, PyData.eqv]
@[simp] theorem eqD_int_non (s : S) (a : Int) : eqD s (.int a) .non = some false := by simp [eqD, deref, D.toPy, SeqAt.shaped, PyData.canLay0, PyData.depth, PyData.eqv]
theorem toPys_ints : ∀ ns : List Int, D.toPys (ns.map D.int) = some (ns.map PyData.int)
  | [] => rfl
  | n :: ns => by simp [D.toPys, D.toPy, toPys_ints ns]
theorem shaped_ints (ns : List Int) : SeqAt.shaped (.list (ns.map PyData.int)) = true := by
  have h1 : ∀ ns : List Int, PyData.canLayAll0 (ns.map PyData.int) = true := fun ns => by
    induction ns with
    | nil => simp [PyData.canLayAll0]
    | cons n ns ih => simp [PyData.canLayAll0, PyData.canLay0, ih]
  have h2 : ∀ ns : List Int, PyData.depthAll (ns.map PyData.int) ≤ 0 := fun ns => by
    induction ns with
    | nil => simp [PyData.depthAll]
    | cons n ns ih => simp [PyData.depthAll, PyData.depth] at ih ⊢; omega
  simp only [SeqAt.shaped, Bool.and_eq_true, decide_eq_true_eq]
  refine ⟨by simpa [PyData.canLay0] using h1 ns, ?_⟩
  have := h2 ns
  simp only [PyData.depth]
  omega
theorem eqvAll_ints : ∀ ns ms : List Int, PyData.eqvAll (ns.map PyData.int) (ms.map PyData.int) = (ns == ms)
  | [], [] => by simp [PyData.eqvAll]
  | [], m :: ms => by simp [PyData.eqvAll]
  | n :: ns, [] => by simp [PyData.eqvAll]
  | n :: ns, m :: ms => by simp [PyData.eqvAll, PyData.eqv, eqvAll_ints ns ms]
theorem eqD_ints (s : S) (ns ms : List Int) : eqD s (.lst (ns.map D.int)) (.lst (ms.map D.int)) = some (ns == ms) := by
  simp only [eqD, deref, D.toPy, toPys_ints, Option.map_some, shaped_ints, Bool.and_self, if_true]
  simp [PyData.eqv, eqvAll_ints]
/-! ### the words, applied -/
inductive Dm {γ : Type} (k : γ) : Type | mk
/-- bind, so that simp looks at its first part alone -/
def R.bd {α β : Type} (r : R α) (k : α → S → R β) (_ : Dm k) : R β := r.bind k
@[simp] theorem R.bd_ok {α β : Type} (a : α) (s : S) (k : α → S → R β) (u : Dm k) : (R.ok a s).bd k u = k a s := id rfl
@[simp] theorem R.bd_err {α β : Type} (e : Ex) (s : S) (k : α → S → R β) (u : Dm k) : (R.err e s).bd k u = .err e s := id rfl
@[simp] theorem R.bd_no {α β : Type} (k : α → S → R β) (u : Dm k) : (R.no : R α).bd k u = .no := id rfl
@[simp] theorem ap_var (i : Nat) (ρ : Env) (s : S) : gVar i ρ s = match ρ[i]? with | some (some d) => .ok d s | _ => .no := id rfl
@[simp] theorem ap_C (d : D) (ρ : Env) (s : S) : gC d ρ s = .ok d s := id rfl
@[simp] theorem ap_op2 (f : S → D → D → Option D) (ga gb : GE) (ρ : Env) (s : S) : gOp2 f ga gb ρ s = (ga ρ s).bd (fun x s1 => (gb ρ s1).bd (fun y s2 => R.ofO (f s2 x y) s2) .mk) .mk := id rfl
@[simp] theorem ap_B (g : GE) (ρ : Env) (s : S) : gB g ρ s = (g ρ s).bd (fun d s1 => match d with | .bl b => .ok b s1 | _ => .no) .mk := id rfl
@[simp] theorem ap_chain (f f' : S → D → D → Option D) (ga gb gc : GE) (ρ : Env) (s : S) : gChain f f' ga gb gc ρ s = (ga ρ s).bd (fun x s1 => (gb ρ s1).bd (fun y s2 => (R.ofO (f s2 x y) s2).bd (fun z s3 => match z with
  | .bl true => (gc ρ s3).bd (fun w s4 => R.ofO (f' s4 y w) s4) .mk
  | .bl false => .ok (.bl false) s3
  | _ => .no) .mk) .mk) .mk := id rfl
@[simp] theorem ap_not (t : GT) (ρ : Env) (s : S) : gNot t ρ s = (t ρ s).bd (fun b s1 => .ok (!b) s1) .mk := id rfl
@[simp] theorem ap_and (t u : GT) (ρ : Env) (s : S) : gAnd t u ρ s = (t ρ s).bd (fun b s1 => if b then u ρ s1 else .ok false s1) .mk := id rfl
@[simp] theorem ap_or (t u : GT) (ρ : Env) (s : S) : gOr t u ρ s = (t ρ s).bd (fun b s1 => if b then .ok true s1 else u ρ s1) .mk := id rfl
@[simp] theorem ap_andV (ga gb : GE) (ρ : Env) (s : S) : gAndV ga gb ρ s = (ga ρ s).bd (fun d s1 => match d with | .bl true => gb ρ s1 | .bl false => .ok (.bl false) s1 | _ => .no) .mk := id rfl
@[simp] theorem ap_orV (ga gb : GE) (ρ : Env) (s : S) : gOrV ga gb ρ s = (ga ρ s).bd (fun d s1 => match d with | .bl true => .ok (.bl true) s1 | .bl false => gb ρ s1 | _ => .no) .mk := id rfl
@[simp] theorem ap_notV (ga : GE) (ρ : Env) (s : S) : gNotV ga ρ s = (ga ρ s).bd (fun d s1 => match d with | .bl b => .ok (.bl !b) s1 | _ => .no) .mk := id rfl
@[simp] theorem ap_if (t : GT) (ga gb : GE) (ρ : Env) (s : S) : gIf t ga gb ρ s = (t ρ s).bd (fun b s1 => if b then ga ρ s1 else gb ρ s1) .mk := id rfl
@[simp] theorem ap_neg (ga : GE) (ρ : Env) (s : S) : gNeg ga ρ s = (ga ρ s).bd (fun d s1 => match d with | .int i => .ok (.int (-i)) s1 | _ => .no) .mk := id rfl
@[simp] theorem ap_nil (ρ : Env) (s : S) : gaNil ρ s = .ok [] s := id rfl
@[simp] theorem ap_cons (g : GE) (r : GA) (ρ : Env) (s : S) : gaCons g r ρ s = (g ρ s).bd (fun d s1 => (r ρ s1).bd (fun ds s2 => .ok (d :: ds) s2) .mk) .mk := id rfl
@[simp] theorem ap_tup (g : GA) (ρ : Env) (s : S) : gTup g ρ s = (g ρ s).bd (fun ds s1 => if fitL ds.length then .ok (.tup ds) s1 else .no) .mk := id rfl
@[simp] theorem ap_lst (g : GA) (ρ : Env) (s : S) : gLst g ρ s = (g ρ s).bd (fun ds s1 => if fitL ds.length then .ok (.lst ds) s1 else .no) .mk := id rfl
@[simp] theorem ap_lstM (g : GA) (ρ : Env) (s : S) : gLstM g ρ s = (g ρ s).bd (fun ds s1 => if fitL ds.length then .ok (.obj s1.length) (s1 ++ [.lst ds]) else .no) .mk := id rfl
@[simp] theorem ap_F (f : S → List D → Option D) (gr : GA) (ρ : Env) (s : S) : gF f gr ρ s = (gr ρ s).bd (fun ds s1 => R.ofO (f s1 ds) s1) .mk := id rfl
@[simp] theorem ap_call (n : Nat) (F : List D → S → R D) (gr : GA) (ρ : Env) (s : S) : gCall n F gr ρ s = (gr ρ s).bd (fun ds s1 => if ds.length = n then F ds s1 else .no) .mk := id rfl
@[simp] theorem ap_sl (g : GE) (lo hi : GO) (ρ : Env) (s : S) : gSl g lo hi ρ s = (g ρ s).bd (fun x s1 => (lo ρ s1).bd (fun l s2 => (hi ρ s2).bd (fun h s3 => R.ofO (fSl s3 x l h) s3) .mk) .mk) .mk := id rfl
@[simp] theorem ap_goNone (ρ : Env) (s : S) : goNone ρ s = .ok none s := id rfl
@[simp] theorem ap_goSome (g : GE) (ρ : Env) (s : S) : goSome g ρ s = (g ρ s).bd (fun d s1 => match d with | .int i => .ok (some i) s1 | _ => .no) .mk := id rfl
@[simp] theorem ap_dictC (kvs : List (Str × Str)) (gk : GE) (ρ : Env) (s : S) : gDictC kvs gk ρ s = (gk ρ s).bd (fun d s1 => match d with | .str x => R.ofO (dictV kvs x) s1 | _ => .no) .mk := id rfl
@[simp] theorem ap_items (g : GE) (ρ : Env) (s : S) : gItems g ρ s = (g ρ s).bd (fun d s1 => R.ofO (itemsF d) s1) .mk := id rfl
@[simp] theorem ap_range1 (gr : GA) (ρ : Env) (s : S) : gRange1 gr ρ s = (gr ρ s).bd (fun ds s1 => match ds with | [.int j] => if okR j then .ok (rangeD 0 j) s1 else .no | _ => .no) .mk := id rfl
@[simp] theorem ap_range2 (gr : GA) (ρ : Env) (s : S) : gRange2 gr ρ s = (gr ρ s).bd (fun ds s1 => match ds with | [.int i, .int j] => if okR i && okR j then .ok (rangeD i j) s1 else .no | _ => .no) .mk := id rfl
@[simp] theorem ap_lc (own : List Nat) (gi : GA) (t : TD) (gt : GT) (ge : GE) (ρ : Env) (s : S) : gLc own gi t gt ge ρ s = (gi ρ s).bd (fun ds s1 => if fitL ds.length then (lcLoop t gt ge (wipeD own ρ) ds s1).bd (fun ys s2 => .ok (.lst ys) s2) .mk else .no) .mk := id rfl
@[simp] theorem ap_yes (ρ : Env) (s : S) : gYes ρ s = .ok true s := id rfl
@[simp] theorem ap_next (ρ : Env) (s : S) : sNext ρ s = .ok (.nx ρ) s := id rfl
@[simp] theorem ap_seq (a b : GS) (ρ : Env) (s : S) : sSeq a b ρ s = (a ρ s).bd (fun f s1 => match f with | .nx ρ1 => b ρ1 s1 | f => .ok f s1) .mk := id rfl
@[simp] theorem ap_expr (g : GE) (ρ : Env) (s : S) : sExpr g ρ s = (g ρ s).bd (fun _ s1 => .ok (.nx ρ) s1) .mk := id rfl
@[simp] theorem ap_ret (g : GE) (ρ : Env) (s : S) : sRet g ρ s = (g ρ s).bd (fun d s1 => .ok (.rt d) s1) .mk := id rfl
@[simp] theorem ap_asg (g : GE) (t : TD) (ρ : Env) (s : S) : sAsg g t ρ s = (g ρ s).bd (fun d s1 => match t d ρ with | some ρ1 => .ok (.nx ρ1) s1 | none => .no) .mk := id rfl
@[simp] theorem ap_sif (t : GT) (a b : GS) (ρ : Env) (s : S) : sIf t a b ρ s = (t ρ s).bd (fun k s1 => if k then a ρ s1 else b ρ s1) .mk := id rfl
@[simp] theorem ap_par (i j : Nat) (gr : GA) (ρ : Env) (s : S) : sPar i j gr ρ s = (gr ρ s).bd (fun ds s1 => match ds with | [d, e] => .ok (.nx ((ρ.set i (some d)).set j (some e))) s1 | _ => .no) .mk := id rfl
@[simp] theorem ap_for (t : TD) (gi : GA) (b : GS) (ρ : Env) (s : S) : sFor t gi b ρ s = (gi ρ s).bd (fun ds s1 => forLoop t b ds ρ s1) .mk := id rfl
@[simp] theorem ap_raise (c : Nat) (ρ : Env) (s : S) : sRaise c ρ s = .err ⟨c, none⟩ s := id rfl
@[simp] theorem ap_setIx (ge go gi : GE) (ρ : Env) (s : S) : sSetIx ge go gi ρ s = (ge ρ s).bd (fun x s1 => (go ρ s1).bd (fun o s2 => (gi ρ s2).bd (fun i s3 => match putL s3 o i x with
  | some s4 => .ok (.nx ρ) s4
  | none => .no) .mk) .mk) .mk := id rfl
@[simp] theorem ap_dName (i : Nat) (d : D) (ρ : Env) : dName i d ρ = some (ρ.set i (some d)) := id rfl
@[simp] theorem ap_dsNil (ρ : Env) : dsNil [] ρ = some ρ := id rfl
@[simp] theorem ap_dsCons (t : TD) (r : List D → Env → Option Env) (d : D) (ds : List D) (ρ : Env) : dsCons t r (d :: ds) ρ = (t d ρ).bind (r ds) := id rfl
@[simp] theorem ap_dTup (n : Nat) (t : List D → Env → Option Env) (ds : List D) (ρ : Env) : dTup n t (.tup ds) ρ = if ds.length = n then t ds ρ else none := id rfl
@[simp] theorem ap_run (n : Nat) (b : GS) (ds : List D) (s : S) : runF n b ds s = (b (ds.map some ++ List.replicate (n - ds.length) none) s).bd (fun f s1 => match f with
  | .rt d => .ok d s1
  | .nx _ => .ok .non s1
  | _ => .no) .mk := id rfl
@[simp] theorem ap_fEq (s : S) (x y : D) : fEq s x y = (eqD s x y).map .bl := id rfl
@[simp] theorem ap_fNe (s : S) (x y : D) : fNe s x y = (eqD s x y).map fun b => .bl !b := id rfl
@[simp] theorem ap_fIn (s : S) (x y : D) : fIn s x y = (inD s x y).map .bl := id rfl
@[simp] theorem ap_fNotIn (s : S) (x y : D) : fNotIn s x y = (inD s x y).map fun b => .bl !b := id rfl
@[simp] theorem ap_fIs (s : S) (x y : D) : fIs s x y = (isD x y).map .bl := id rfl
@[simp] theorem ap_fIsN (s : S) (x y : D) : fIsN s x y = (isD x y).map fun b => .bl !b := id rfl
@[simp] theorem ap_subI (s : S) (i j : Int) : fSub s (.int i) (.int j) = some (.int (i - j)) := id rfl
@[simp] theorem ap_addI (s : S) (i j : Int) : fAdd s (.int i) (.int j) = some (.int (i + j)) := id rfl
@[simp] theorem ap_addS (s : S) (i j : Str) : fAdd s (.str i) (.str j) = if fitL (i.length + j.length) then some (.str (i ++ j)) else none := id rfl
@[simp] theorem ap_ltI (s : S) (i j : Int) : fLt s (.int i) (.int j) = some (.bl (decide (i < j))) := id rfl
@[simp] theorem ap_leI (s : S) (i j : Int) : fLe s (.int i) (.int j) = some (.bl (decide (i ≤ j))) := id rfl
@[simp] theorem ap_gtI (s : S) (i j : Int) : fGt s (.int i) (.int j) = some (.bl (decide (j < i))) := id rfl
@[simp] theorem ap_geI (s : S) (i j : Int) : fGe s (.int i) (.int j) = some (.bl (decide (j ≤ i))) := id rfl
@[simp] theorem ap_isNN : isD .non .non = some true := id rfl
@[simp] theorem ap_isI (i : Int) : isD (.int i) .non = some false := id rfl
@[simp] theorem ap_isS (i : Str) : isD (.str i) .non = some false := id rfl
@[simp] theorem ap_isT (i : List D) : isD (.tup i) .non = some false := id rfl
@[simp] theorem ap_isL (i : List D) : isD (.lst i) .non = some false := id rfl
@[simp] theorem ap_isB (i : Bool) : isD (.bl i) .non = some false := id rfl
@[simp] theorem ap_idxT (s : S) (ds : List D) (i : Int) : fIdx s (.tup ds) (.int i) = atI ds i := id rfl
@[simp] theorem ap_idxL (s : S) (ds : List D) (i : Int) : fIdx s (.lst ds) (.int i) = atI ds i := id rfl
@[simp] theorem ap_idxZ (s : S) (ds : List D) (i : Int) : fIdx s (.frz ds) (.int i) = atI ds i := id rfl
@[simp] theorem ap_lenT (s : S) (ds : List D) : fLen s (.tup ds) = some (.int ds.length) := id rfl
@[simp] theorem ap_lenL (s : S) (ds : List D) : fLen s (.lst ds) = some (.int ds.length) := id rfl
@[simp] theorem ap_lenZ (s : S) (ds : List D) : fLen s (.frz ds) = some (.int ds.length) := id rfl
@[simp] theorem ap_f1 (f : S → D → Option D) (s : S) (x : D) : f1 f s [x] = f s x := id rfl
@[simp] theorem ap_int (s : S) (i : Int) : fInt s (.int i) = some (.int i) := id rfl
@[simp] theorem ap_tupT (s : S) (ds : List D) : fTuple s (.tup ds) = some (.tup ds) := id rfl
@[simp] theorem ap_tupL (s : S) (ds : List D) : fTuple s (.lst ds) = some (.tup ds) := id rfl
@[simp] theorem ap_slT (s : S) (ds : List D) (lo hi : Option Int) : fSl s (.tup ds) lo hi = some (.tup (cutD ds lo hi)) := id rfl
@[simp] theorem ap_slL (s : S) (ds : List D) (lo hi : Option Int) : fSl s (.lst ds) lo hi = some (.lst (cutD ds lo hi)) := id rfl
@[simp] theorem ap_itT (ds : List D) : itemsF (.tup ds) = some ds := id rfl
@[simp] theorem ap_itL (ds : List D) : itemsF (.lst ds) = some ds := id rfl
@[simp] theorem atI_zero (d : D) (ds : List D) : atI (d :: ds) 0 = some d := by
  have : ixN (ds.length + 1) 0 = some 0 := by simp [ixN]
  simp [atI, this]
theorem atI_nat (ds : List D) (k : Nat) (h : k < ds.length) : atI ds (k : Int) = some ds[k] := by
  have : ixN ds.length (k : Int) = some k := by simp [ixN, h]
  simp [atI, this, h]

theorem strs_toPys : ∀ xs : List Str, D.toPys (xs.map D.str) = some (xs.map PyData.str)
  | [] => rfl
  | x :: xs => by simp [D.toPys, D.toPy, strs_toPys xs]
theorem canAll_strs : ∀ xs : List Str, (∀ x ∈ xs, PyData.strOk x = true) → PyData.canLayAll0 (xs.map PyData.str) = true
  | [], _ => by simp [PyData.canLayAll0]
  | x :: xs, h => by simp [PyData.canLayAll0, PyData.canLay0, h x List.mem_cons_self, canAll_strs xs fun y hy => h y (List.mem_cons_of_mem _ hy)]
theorem depthAll_strs : ∀ xs : List Str, PyData.depthAll (xs.map PyData.str) ≤ 0
  | [] => by simp [PyData.depthAll]
  | x :: xs => by have := depthAll_strs xs; simp [PyData.depthAll, PyData.depth] at this ⊢; omega
theorem shaped_strs (xs : List Str) (h : ∀ x ∈ xs, PyData.strOk x = true) : SeqAt.shaped (.tuple (xs.map PyData.str)) = true ∧ SeqAt.shaped (.list (xs.map PyData.str)) = true := by
  have a := canAll_strs xs h
  have b := depthAll_strs xs
  refine ⟨?_, ?_⟩ <;>
  · simp only [SeqAt.shaped, PyData.canLay0, PyData.depth, Bool.and_eq_true, decide_eq_true_eq]
    exact ⟨a, decide_eq_true (by show PyData.depthAll _ + 1 ≤ 64; omega)⟩
theorem any_strs (x : Str) (xs : List Str) : ((xs.map PyData.str).any fun z => PyData.eqv z (PyData.str x)) = xs.any (· == x) := by
  simp [List.any_map, Function.comp_def, PyData.eqv]
theorem inD_tup (s : S) (x : Str) (xs : List Str) (hx : PyData.strOk x = true) (h : ∀ x ∈ xs, PyData.strOk x = true) : inD s (.str x) (.tup (xs.map D.str)) = some (xs.any (· == x)) := by
  have h1 : SeqAt.shaped (.str x) = true := by simp [SeqAt.shaped, PyData.canLay0, PyData.depth, hx]
  simp only [inD, D.toPy, strs_toPys, h1, (shaped_strs xs h).1, Bool.and_self, if_true, any_strs]
theorem inD_lst (s : S) (x : Str) (xs : List Str) (hx : PyData.strOk x = true) (h : ∀ x ∈ xs, PyData.strOk x = true) : inD s (.str x) (.lst (xs.map D.str)) = some (xs.any (· == x)) := by
  have h1 : SeqAt.shaped (.str x) = true := by simp [SeqAt.shaped, PyData.canLay0, PyData.depth, hx]
  simp only [inD, itemsL, D.toPy, strs_toPys, h1, (shaped_strs xs h).2, Bool.and_self, if_true, any_strs]
@[simp] theorem kn_NoneType : known "NoneType" = true := by decide +kernel
@[simp] theorem isT_NoneType_NoneType : isT "NoneType" "NoneType" = true := by decide +kernel
@[simp] theorem isT_NoneType_bool : isT "NoneType" "bool" = false := by decide +kernel
@[simp] theorem isT_NoneType_int : isT "NoneType" "int" = false := by decide +kernel
@[simp] theorem isT_NoneType_str : isT "NoneType" "str" = false := by decide +kernel
@[simp] theorem isT_NoneType_tuple : isT "NoneType" "tuple" = false := by decide +kernel
@[simp] theorem isT_NoneType_list : isT "NoneType" "list" = false := by decide +kernel
@[simp] theorem isT_NoneType_dict : isT "NoneType" "dict" = false := by decide +kernel
@[simp] theorem kn_bool : known "bool" = true := by decide +kernel
@[simp] theorem isT_bool_NoneType : isT "bool" "NoneType" = false := by decide +kernel
@[simp] theorem isT_bool_bool : isT "bool" "bool" = true := by decide +kernel
@[simp] theorem isT_bool_int : isT "bool" "int" = true := by decide +kernel
@[simp] theorem isT_bool_str : isT "bool" "str" = false := by decide +kernel
@[simp] theorem isT_bool_tuple : isT "bool" "tuple" = false := by decide +kernel
@[simp] theorem isT_bool_list : isT "bool" "list" = false := by decide +kernel
@[simp] theorem isT_bool_dict : isT "bool" "dict" = false := by decide +kernel
@[simp] theorem kn_int : known "int" = true := by decide +kernel
@[simp] theorem isT_int_NoneType : isT "int" "NoneType" = false := by decide +kernel
@[simp] theorem isT_int_bool : isT "int" "bool" = false := by decide +kernel
@[simp] theorem isT_int_int : isT "int" "int" = true := by decide +kernel
@[simp] theorem isT_int_str : isT "int" "str" = false := by decide +kernel
@[simp] theorem isT_int_tuple : isT "int" "tuple" = false := by decide +kernel
@[simp] theorem isT_int_list : isT "int" "list" = false := by decide +kernel
@[simp] theorem isT_int_dict : isT "int" "dict" = false := by decide +kernel
@[simp] theorem kn_str : known "str" = true := by decide +kernel
@[simp] theorem isT_str_NoneType : isT "str" "NoneType" = false := by decide +kernel
@[simp] theorem isT_str_bool : isT "str" "bool" = false := by decide +kernel
@[simp] theorem isT_str_int : isT "str" "int" = false := by decide +kernel
@[simp] theorem isT_str_str : isT "str" "str" = true := by decide +kernel
@[simp] theorem isT_str_tuple : isT "str" "tuple" = false := by decide +kernel
@[simp] theorem isT_str_list : isT "str" "list" = false := by decide +kernel
@[simp] theorem isT_str_dict : isT "str" "dict" = false := by decide +kernel
@[simp] theorem kn_tuple : known "tuple" = true := by decide +kernel
@[simp] theorem isT_tuple_NoneType : isT "tuple" "NoneType" = false := by decide +kernel
@[simp] theorem isT_tuple_bool : isT "tuple" "bool" = false := by decide +kernel
@[simp] theorem isT_tuple_int : isT "tuple" "int" = false := by decide +kernel
@[simp] theorem isT_tuple_str : isT "tuple" "str" = false := by decide +kernel
@[simp] theorem isT_tuple_tuple : isT "tuple" "tuple" = true := by decide +kernel
@[simp] theorem isT_tuple_list : isT "tuple" "list" = false := by decide +kernel
@[simp] theorem isT_tuple_dict : isT "tuple" "dict" = false := by decide +kernel
@[simp] theorem kn_list : known "list" = true := by decide +kernel
@[simp] theorem isT_list_NoneType : isT "list" "NoneType" = false := by decide +kernel
@[simp] theorem isT_list_bool : isT "list" "bool" = false := by decide +kernel
@[simp] theorem isT_list_int : isT "list" "int" = false := by decide +kernel
@[simp] theorem isT_list_str : isT "list" "str" = false := by decide +kernel
@[simp] theorem isT_list_tuple : isT "list" "tuple" = false := by decide +kernel
@[simp] theorem isT_list_list : isT "list" "list" = true := by decide +kernel
@[simp] theorem isT_list_dict : isT "list" "dict" = false := by decide +kernel
@[simp] theorem kn_dict : known "dict" = true := by decide +kernel
@[simp] theorem isT_dict_NoneType : isT "dict" "NoneType" = false := by decide +kernel
@[simp] theorem isT_dict_bool : isT "dict" "bool" = false := by decide +kernel
@[simp] theorem isT_dict_int : isT "dict" "int" = false := by decide +kernel
@[simp] theorem isT_dict_str : isT "dict" "str" = false := by decide +kernel
@[simp] theorem isT_dict_tuple : isT "dict" "tuple" = false := by decide +kernel
@[simp] theorem isT_dict_list : isT "dict" "list" = false := by decide +kernel
@[simp] theorem isT_dict_dict : isT "dict" "dict" = true := by decide +kernel
@[simp] theorem fIsi1 (s : S) (x : D) (c : String) : fIsi s [x, .ty c] = (tyD s x).bind fun t => if known c then some (.bl (isT t c)) else none := id rfl
@[simp] theorem fIsi2 (s : S) (x : D) (cs : List D) : fIsi s [x, .tup cs] = (tyD s x).bind fun t => (tysD cs).bind fun ns => if ns.all known then some (.bl (ns.any (isT t))) else none := id rfl
@[simp] theorem tysD_nil : tysD [] = some [] := id rfl
@[simp] theorem tysD_cons (n : String) (ds : List D) : tysD (.ty n :: ds) = (tysD ds).map (n :: ·) := id rfl
@[simp] theorem tyD_non (s : S) : tyD s .non = some "NoneType" := id rfl
@[simp] theorem tyD_bl (s : S) (b : Bool) : tyD s (.bl b) = some "bool" := id rfl
@[simp] theorem tyD_int (s : S) (b : Int) : tyD s (.int b) = some "int" := id rfl
@[simp] theorem tyD_str (s : S) (b : Str) : tyD s (.str b) = some "str" := id rfl
@[simp] theorem tyD_tup (s : S) (b : List D) : tyD s (.tup b) = some "tuple" := id rfl
@[simp] theorem tyD_lst (s : S) (b : List D) : tyD s (.lst b) = some "list" := id rfl
@[simp] theorem tyD_frz (s : S) (b : List D) : tyD s (.frz b) = some "list" := id rfl
theorem blsD_true {α : Type} : ∀ xs : List α, blsD (xs.map fun _ => D.bl true) = some (xs.map fun _ => true)
  | [] => rfl
  | x :: xs => by simp [blsD, blsD_true xs]
@[simp] theorem fAll_true {α : Type} (s : S) (xs : List α) : fAll s (.lst (xs.map fun _ => D.bl true)) = some (.bl true) := by
  simp [fAll, itemsL, blsD_true, List.all_map]
/-- a comprehension that says True of each -/
theorem lcLoop_all {t : TD} {ge : GE} {ρ : Env} {s : S} : ∀ xs : List D, (∀ x ∈ xs, ∃ ρ1, t x ρ = some ρ1 ∧ ge ρ1 s = .ok (.bl true) s) → lcLoop t gYes ge ρ xs s = .ok (xs.map fun _ => .bl true) s := fun xs h => by
  rw [lcLoop_pure (fun _ => true) (fun _ => .bl true) xs fun x hx => by
    obtain ⟨ρ1, h1, h2⟩ := h x hx
    exact ⟨ρ1, h1, rfl, fun _ => h2⟩]
  rw [List.filter_eq_self.mpr fun _ _ => rfl]

@[simp] theorem ap_wipe0 (ρ : Env) : wipeD [] ρ = ρ := id rfl
@[simp] theorem ap_wipe1 (v : Nat) (vs : List Nat) (ρ : Env) : wipeD (v :: vs) ρ = (wipeD vs ρ).set v none := id rfl
@[simp] theorem ap_fitL (n : Nat) : fitL n = decide (n ≤ 16777216) := id rfl
end J


set_option Elab.async false
set_option linter.all false
set_option maxRecDepth 100000
set_option maxHeartbeats 4000000
/-! J8: texts; append; three names at once; a text walked; a mutable list walked. -/
namespace J
open PySem PySem.Spec L2
section
variable {K : PySem.W.Frag} {ca : Ct} {ι : Wd} {H : Hp} {s : S}
theorem reps_strs : ∀ ys : List Str, Reps K ι H (ys.map D.str) (ys.map V.str)
  | [] => .nil
  | y :: ys => .cons (.str y) (reps_strs ys)
def strsD : List D → Option (List Str)
  | [] => some []
  | .str x :: ds => (strsD ds).map (x :: ·)
  | _ :: _ => none
theorem strsD_eq : ∀ {ds : List D} {ys : List Str}, strsD ds = some ys → ds = ys.map D.str
  | [], _, h => by cases h; rfl
  | .str b :: ds, _, h => by
    simp only [strsD, Option.map_eq_some_iff] at h
    obtain ⟨ys, e, rfl⟩ := h
    rw [strsD_eq e]; rfl
  | .non :: _, _, h => by cases h
  | .bl _ :: _, _, h => by cases h
  | .int _ :: _, _, h => by cases h
  | .ty _ :: _, _, h => by cases h
  | .tup _ :: _, _, h => by cases h
  | .lst _ :: _, _, h => by cases h
  | .frz _ :: _, _, h => by cases h
  | .obj _ :: _, _, h => by cases h
  | .raw _ :: _, _, h => by cases h
theorem strsD_map : ∀ ys : List Str, strsD (ys.map D.str) = some ys
  | [] => rfl
  | y :: ys => by simp [strsD, strsD_map ys]
theorem reps_strsV : ∀ {ys : List Str} {vs : List V}, Reps K ι H (ys.map D.str) vs → vs = ys.map V.str
  | [], _, h => by cases h; rfl
  | y :: ys, _, h => by
    cases h with
    | cons r t => cases r; rw [reps_strsV t]; rfl
end
section
variable {X : Cx} {ca : Ct} {W : WX} {e o : Expr} {es : List Expr} {pos apos : Pos} {g ge go : GE}
/-- a method of a text with one argument -/
def gM1 (f : S → Str → D → Option D) (go ge : GE) : GE := fun ρ s => (go ρ s).bind fun x s1 => match x with
  | .str a => (ge ρ s1).bind fun y s2 => R.ofO (f s2 a y) s2
  | _ => .no
def fSplit (_ : S) (a : Str) : D → Option D
  | .str b => if !(b.length == 0) && fitL (a.length + 2) then some (.lst ((Txt.split a b).map D.str)) else none
  | _ => none
def itemsLT (s : S) : D → Option (List D)
  | .tup ds => some ds
  | y => itemsL s y
def fJoin (s : S) (a : Str) (y : D) : Option D := ((itemsLT s y).bind strsD).bind fun ys => if fitL ((ys.map (·.length)).sum + ys.length * a.length) then some (.str (Txt.join a ys)) else none
theorem je_split (ho : JE X ca W o go) (he : JE X ca W e ge) (hs : starEach [e] X.env = [(false, eval e X.env)] := by rfl) (hbase : attributeBase o "split" X.env (eval o X.env) = eval o X.env := by rfl) (hline : (apos.endLine == pos.line) = true := by rfl) :
    JE X ca W (.Call (.Attribute o "split" apos) [e] [] pos) (gM1 fSplit go ge) :=
  PE.imp (pe_split ho he hs hbase hline) fun σ H Q ⟨ι, ρ, s, hr, hm, h⟩ => bindE famE hr hm h fun ι1 s1 x v H1 l1 hr1 hm1 rx h1 => by
    cases rx with
    | str a =>
      refine ⟨⟨a, rfl⟩, bindE famE hr1 hm1 h1 fun ι2 s2 y u H2 l2 hr2 hm2 ry h2 => ?_⟩
      cases ry with
      | str b =>
        simp only [fSplit] at h2
        split at h2
        · rename_i hc
          simp only [Bool.and_eq_true, Bool.not_eq_true'] at hc
          refine ⟨a, b, rfl, rfl, hc.1, fitL_le hc.2, fun p hp => ?_⟩
          obtain ⟨l, m'⟩ := hm2.new (o := .lst ((Txt.split a b).map V.str)) hp
          exact h2 _ _ _ l m' (.lst upd_same (hm2.ne hp) (reps_strs _))
        · exact h2.elim
      | _ => exact h2.elim
    | _ => exact h1.elim
theorem je_join (ho : JE X ca W o go) (he : JE X ca W e ge) (hs : starEach [e] X.env = [(false, eval e X.env)] := by rfl) (hbase : attributeBase o "join" X.env (eval o X.env) = eval o X.env := by rfl) (hline : (apos.endLine == pos.line) = true := by rfl) :
    JE X ca W (.Call (.Attribute o "join" apos) [e] [] pos) (gM1 fJoin go ge) :=
  PE.imp (pe_join ho he hs hbase hline) fun σ H Q ⟨ι, ρ, s, hr, hm, h⟩ => bindE famE hr hm h fun ι1 s1 x v H1 l1 hr1 hm1 rx h1 => by
    cases rx with
    | str a =>
      refine ⟨⟨a, rfl⟩, bindE famE hr1 hm1 h1 fun ι2 s2 y u H2 l2 hr2 hm2 ry h2 => ?_⟩
      simp only [fJoin] at h2
      cases e1 : itemsLT s2 y with
      | none => rw [e1] at h2; exact h2.elim
      | some ds =>
        have hit : ∃ p vs, u = .ref p ∧ (SqL X.K H2 p vs ∨ SqT X.K H2 p vs) ∧ Reps X.K ι2 H2 ds vs := by
          cases ry with
          | tup h3 h4 => cases e1; exact ⟨_, _, rfl, .inr h3.sq, h4⟩
          | non => cases e1
          | bl _ => cases e1
          | int _ => cases e1
          | str _ => cases e1
          | ty _ => cases e1
          | raw _ => cases e1
          | lst a1 a2 a3 => obtain ⟨p, vs, e, q1, q2⟩ := hm2.items (.lst a1 a2 a3) e1; exact ⟨p, vs, e, .inl q1, q2⟩
          | frz a1 a2 => obtain ⟨p, vs, e, q1, q2⟩ := hm2.items (.frz a1 a2) e1; exact ⟨p, vs, e, .inl q1, q2⟩
          | frz2 a1 a2 a3 => obtain ⟨p, vs, e, q1, q2⟩ := hm2.items (.frz2 a1 a2 a3) e1; exact ⟨p, vs, e, .inl q1, q2⟩
          | obj a1 => obtain ⟨p, vs, e, q1, q2⟩ := hm2.items (.obj a1) e1; exact ⟨p, vs, e, .inl q1, q2⟩
        rw [e1] at h2
        simp only [Option.bind_some] at h2
        cases e2 : strsD ds with
        | none => rw [e2] at h2; exact h2.elim
        | some ys =>
          rw [e2] at h2
          simp only [Option.bind_some] at h2
          have e3 := strsD_eq e2
          subst e3
          split at h2
          · rename_i hc
            obtain ⟨p, vs, rfl, h3, h4⟩ := hit
            rw [reps_strsV h4] at h3
            refine ⟨a, p, ys, rfl, rfl, h3, by simpa [fitL] using hc, h2 _ _ _ .refl hm2 (.str _)⟩
          · exact h2.elim
    | _ => exact h1.elim
/-- o.append(e) -/
def gApp (go ge : GE) : GE := fun ρ s => (go ρ s).bind fun x s1 => match x with
  | .obj n => (match s1[n]? with
    | some (.lst _) => (ge ρ s1).bind fun y s2 => (match s2[n]? with
      | some (.lst ds) => if fitL (ds.length + 1) then .ok .non (s2.set n (.lst (ds ++ [y]))) else .no
      | _ => .no)
    | _ => .no)
  | _ => .no
theorem je_append (ho : JE X ca W o go) (he : JE X ca W e ge) (hbase : attributeBase o "append" X.env (eval o X.env) = eval o X.env := by rfl)
    (hfew : ((backTo pos (starEach [e] X.env)).all (fun x => !x.1) && (backToKw pos (keywordEach [] X.env)).all (fun x => x.1.isSome)
      && decide ([e].length + ([] : List Keyword).length + (if ([] : List Keyword).isEmpty then 0 else 1) < 30)) = true := by rfl)
    (hline : (apos.endLine == pos.line) = true := by rfl) (hs : starEach [e] X.env = (false, eval e X.env) :: starEach [] X.env := by rfl) (hplain : (backTo pos (starEach [] X.env)).any (·.1) = false := by rfl) :
    JE X ca W (.Call (.Attribute o "append" apos) [e] [] pos) (gApp go ge) :=
  PE.imp (pe_bm F.plainAttrs_list F.slot_list_append F.type_list_append mt_append ho (pa_cons he pa_nil hs) hbase hfew hline hs hplain) fun σ H Q ⟨ι, ρ, s, hr, hm, h⟩ => bindE famE hr hm h fun ι1 s1 x v H1 l1 hr1 hm1 rx h1 => by
    cases rx with
    | @obj a n hn =>
      simp only at h1
      split at h1
      · rename_i ds1 hd1
        obtain ⟨vs1, k1, k2⟩ := hm1.ob n a _ hn hd1
        refine ⟨.inl ⟨rfl, vs1, SqL.of k1⟩, bindE famE hr1 hm1 h1 fun ι2 s2 y u H2 l2 hr2 hm2 ry h2 => ?_⟩
        split at h2
        · rename_i ds hds
          split at h2
          · rename_i hc
            have hn2 : ι2.ι[n]? = some a := by
              obtain ⟨t, ht⟩ := l2.toKe.pre
              rw [← ht, List.getElem?_append_left (List.getElem?_eq_some_iff.mp hn).1]; exact hn
            obtain ⟨vs, k3, k4⟩ := hm2.ob n a _ hn2 hds
            have hl := fitL_le hc
            refine ⟨a, vs, u, rfl, rfl, k3, by rw [← k4.length]; omega, ?_⟩
            obtain ⟨l, m'⟩ := hm2.write (o := .lst (vs ++ [u])) (u := .lst (ds ++ [y])) hn2 trivial fun l => ⟨_, upd_same, (k4.mono l).append (.cons (ry.mono l) .nil)⟩
            exact h2 _ _ _ l m' .non
          · exact h2.elim
        · exact h2.elim
      · exact h1.elim
    | _ => exact h1.elim
def fStr (_ : S) : D → Option D
  | .int i => if decide (i.natAbs.log2 < 1920) then some (.str (toString i)) else none
  | .str x => some (.str x)
  | _ => none
theorem cj_str : CallR X (.type "str") (rCJ X.K ca (f1 fStr)) := by
  refine cj1 (call_str_int.or SkE.call_str_str) fun ι s H d v x Q m r hf q => ?_
  cases r <;> simp only [fStr] at hf <;> first | cases hf | skip
  · split at hf
    · rename_i hc
      cases hf
      exact .inl ⟨_, rfl, of_decide_eq_true hc, q _ _ _ .refl m (.str _)⟩
    · cases hf
  · exact .inr ⟨_, rfl, q _ _ _ .refl m (.str _)⟩
def fIntS (_ : S) : D → Option D
  | .str a => if decide (a.length ≤ 640) then (PySem.intText? a).map .int else none
  | _ => none
theorem cj_intS : CallR X (.type "int") (rCJ X.K ca (f1 fIntS)) := by
  refine cj1 call_int_str fun ι s H d v x Q m r hf q => ?_
  cases r <;> simp only [fIntS] at hf <;> first | cases hf | skip
  split at hf
  · rename_i hc
    simp only [Option.map_eq_some_iff] at hf
    obtain ⟨n, hn, rfl⟩ := hf
    exact ⟨_, n, rfl, hn, of_decide_eq_true hc, q _ _ _ .refl m (.int _)⟩
  · cases hf
/-- a, b, c = x, y, z -/
def sPar3 (i j l : Nat) (gr : GA) : GS := fun ρ s => (gr ρ s).bind fun ds s1 => match ds with | [d, e, f] => .ok (.nx (((ρ.set i (some d)).set j (some e)).set l (some f))) s1 | _ => .no
theorem js_par3 (i j l : Nat) {x y z : Str} {a b c : Expr} {gr : GA} {px py pz pt : Pos} {kt k2 pt2} (hc : X.calm = true) (hN : X.N.Nodup) (ha : JA X ca W [a, b, c] gr) (hi : X.N[i]? = some x := by rfl) (hj : X.N[j]? = some y := by rfl) (hl : X.N[l]? = some z := by rfl) (hij : i ≠ j := by decide) (hil : i ≠ l := by decide) (hjl : j ≠ l := by decide)
    (hx : X.env.scope.names.lookup x = some .local := by rfl) (hy : X.env.scope.names.lookup y = some .local := by rfl) (hz : X.env.scope.names.lookup z = some .local := by rfl)
    (hw : swappedStores [.Tuple [.Name x px, .Name y py, .Name z pz] kt pt] (.Tuple [a, b, c] k2 pt2) X.env = pure (some [x, y, z]) := by rfl)
    (hs : swapsWithSole [.Tuple [.Name x px, .Name y py, .Name z pz] kt pt] (.Tuple [a, b, c] k2 pt2) pos.line X.env = pure false := by rfl) :
    JS X ca W (.Assign [.Tuple [.Name x px, .Name y py, .Name z pz] kt pt] (.Tuple [a, b, c] k2 pt2) pos) (sPar3 i j l gr) := PS.imp (ps_par3 hc hN hi hj hl hij hil hjl hx hy hz ha hw hs) fun D σ H ⟨ι, ρ, s, hr, hm, h⟩ =>
  bindA famS hr hm h fun ι1 s1 ds vs H1 l1 hr1 hm1 rs h1 => by
    cases rs with
    | nil => exact h1.elim
    | cons r1 rs =>
      cases rs with
      | nil => exact h1.elim
      | cons r2 rs =>
        cases rs with
        | nil => exact h1.elim
        | cons r3 rs =>
          cases rs with
          | nil => exact ⟨_, _, _, rfl, h1 ι1 _ H1 .refl hm1 (((hr1.set r1 i).set r2 j).set r3 l)⟩
          | cons _ _ => exact h1.elim
/-! ### a text's signs -/
def signs (x : Str) : List D := x.cps.toList.map fun c => D.str ⟨#[c]⟩
def gSigns (g : GE) : GA := fun ρ s => (g ρ s).bind fun d s1 => match d with | .str x => .ok (signs x) s1 | _ => .no
theorem ji_signs {tg : Expr} (h : JE X ca W e g) : JI X ca W tg e (gSigns g) := by
  refine PI.imp (pi_str h) fun σ H R ⟨ι, ρ, s, hr, hm, h⟩ => ?_
  unfold gSigns at h
  cases e : g ρ s with
  | err x s1 =>
    rw [e] at h
    exact ⟨ι, ρ, s, hr, hm, by rw [e]; exact h⟩
  | no => rw [e] at h; exact h.elim
  | ok d s1 =>
    rw [e] at h
    refine ⟨ι, ρ, s, hr, hm, ?_⟩
    rw [e]
    intro ι' v H' l m r
    cases r with
    | str x =>
      refine ⟨x, rfl, h ι' _ H' l m fun ι2 H2 l2 => ⟨fun i d hd => ?_, fun i hi => ?_⟩⟩
      · simp only [signs, List.getElem?_map, Option.map_eq_some_iff] at hd
        obtain ⟨c, hc, rfl⟩ := hd
        have hc' : x.cps[i]? = some c := by rw [← hc]; simp
        refine ⟨?_, fun y H'' ⟨e1, c', hc2, e2⟩ => ⟨e1, ?_⟩⟩
        · have := (Array.getElem?_eq_some_iff.mp hc').1
          exact this
        · rw [hc'] at hc2; cases hc2
          rw [e2]; exact .str _
      · exact (by simpa [signs] using hi : x.cps.size ≤ i)
    | _ => exact h.elim
/-! ### a comprehension over a mutable list, whose part changes nothing -/
def lcM (ge : GE) (i : Nat) (ρ : Env) (s : S) : List D → R (List D)
  | [] => .ok [] s
  | x :: xs => (noErr (ge (ρ.set i (some x)) s)).bind fun y _ => (lcM ge i ρ s xs).bind fun ys _ => .ok (y :: ys) s
def gLcM (i : Nat) (gi ge : GE) : GE := fun ρ s => (gi ρ s).bind fun d s1 => match itemsL s1 d with
  | some ds => if fitL ds.length then (lcM ge i (wipeD [i] ρ) s1 ds).bind fun ys s2 => .ok (.lst ys) s2 else .no
  | none => .no
theorem lcM_st {ge : GE} {i : Nat} {ρ : Env} {s s2 : S} : ∀ {xs ys : List D}, lcM ge i ρ s xs = .ok ys s2 → s2 = s
  | [], _, h => by cases h; rfl
  | x :: xs, ys, h => by
    unfold lcM at h
    cases e : noErr (ge (ρ.set i (some x)) s) with
    | ok y s3 =>
      rw [e] at h
      cases e2 : lcM ge i ρ s xs with
      | ok zs s4 => simp only [R.bind_ok, e2] at h; cases h; rfl
      | err _ _ => simp only [R.bind_ok, e2] at h; cases h
      | no => simp only [R.bind_ok, e2] at h; cases h
    | err _ _ => rw [e] at h; cases h
    | no => rw [e] at h; cases h
theorem je_lcM {elt iter : Expr} {scope : Scope} {i : Nat} {x : Str} {tpos : Pos} {gi ge : GE} (hc : X.calm = true) (hN : X.N.Nodup) (hi : JE X ca W iter gi) (ok : BlkOk X.N X.env.scope scope [(x, i)])
    (hp : ∀ ρ s y s', ge ρ s = .ok y s' → s' = s)
    (hg : ∀ (s : Shared) (H : Hp) (C : Addr) (cl : List (Str × Addr)) (fp : List Addr), PG (X.blk s H scope (compEnvC scope cl C X.env) fp) (.Name x tpos) (gName i))
    (he : ∀ (s : Shared) (H : Hp) (C : Addr) (cl : List (Str × Addr)) (fp : List Addr), JE (X.blk s H scope (compEnvC scope cl C X.env) fp) ca W0 elt ge) (hs : ∀ x, foldedSetIterable iter X.env x = pure x := by intro _; rfl) :
    JE X ca W (.ListComp elt [⟨.Name x tpos, iter, [], 0⟩] scope pos) (gLcM i gi ge) :=
  PE.imp (pe_lc (own := [(x, i)]) (g := gName i) (wi := iList X.K (tG X.K ca W gi)) (tt := tT X.K ca W0 gYes) (te := tG X.K ca W0 ge) hc hN (pi_list hi) ok hg (fun _ _ _ _ _ => jts_nil) he hs) fun σ H Q ⟨ι, ρ, s, hr, hm, h⟩ => bindE famE hr hm h fun ι1 s1 d v H1 l1 hr1 hm1 rd h1 => by
    split at h1
    · rename_i ds hds
      split at h1
      · rename_i hfit
        obtain ⟨a, vs0, rfl, hsq, hreps⟩ := hm1.items rd hds
        refine ⟨a, rfl, ⟨vs0, hsq⟩, fun Da hDa => ?_⟩
        obtain ⟨lo, mo⟩ := hm1.open (o := .lst []) hDa trivial
        have nι : Da ∉ ι1.ι := fun z => hm1.ne hDa (hm1.sub _ z)
        refine ⟨fun k m H' => m = ds.length - k ∧ ∃ ι' acc vs, Le ι1 H1 ι' H' ∧ Da ∈ ι'.M ∧ Da ∉ ι'.ι ∧ Sim X.K ca ι' s1 H' ∧ H' Da = some (.lst vs) ∧ Reps X.K ι' H' acc vs ∧ acc.length ≤ k ∧
          PostE X.K ca ι1 H1 ((lcM ge i (wipeD [i] ρ) s1 (ds.drop k)).bind fun ys s2 => .ok (.lst (acc ++ ys)) s2) Q (fun cv dd H' => W cv dd σ H'), ⟨_, rfl, ⟨ι1.ι, Da :: ι1.M⟩, [], [], lo, List.mem_cons_self, nι, mo, upd_same, .nil, Nat.le_refl _, h1⟩, ?_⟩
        rintro k m H' ⟨rfl, ι', acc, vs, l', hDM, hDι, hm', hD', hacc, hlen, h'⟩
        obtain ⟨a', ws, ea, hsq', hreps'⟩ := hm'.items (rd.mono l') hds
        cases ea
        by_cases hlt : k < ds.length
        · have hd : ds[k]? = some ds[k] := List.getElem?_eq_getElem hlt
          obtain ⟨x0, hx0, rx0⟩ := hreps'.get hd
          refine .inr ⟨⟨ws, x0, hsq', hx0⟩, fun H2 => ∃ ι' acc vs, Le ι1 H1 ι' H2 ∧ Da ∈ ι'.M ∧ Da ∉ ι'.ι ∧ Sim X.K ca ι' s1 H2 ∧ H2 Da = some (.lst vs) ∧ Reps X.K ι' H2 acc vs ∧ acc.length ≤ k + 1 ∧
            PostE X.K ca ι1 H1 ((lcM ge i (wipeD [i] ρ) s1 (ds.drop (k + 1))).bind fun ys s2 => .ok (.lst (acc ++ ys)) s2) Q (fun cv dd H' => W cv dd σ H'), fun H2 w => ⟨_, by omega, rfl, w⟩, fun x2 H2 y => ?_⟩
          obtain ⟨rfl, hy⟩ := y
          have hy := hy ws hsq'
          rw [hx0] at hy
          cases hy
          rw [List.drop_eq_getElem_cons hlt] at h'
          unfold lcM at h'
          have hrw : RelS X.K ι' H2 (wipeD [i] ρ) (wipe σ [i]) := (hr1.mono l').wipe [i]
          refine ⟨?_, ?_⟩
          · show ((σ.set i none).set i (some x0)).set i none = (σ.set i none)
            rw [List.set_set, List.set_set]
          refine ⟨ι', (wipeD [i] ρ).set i (some ds[k]), s1, hrw.set rx0 i, hm', ?_⟩
          intro ι3 H3 l3 m3
          have d3 := l3.stay _ _ hD' noTab_lst hDι
          rw [if_pos rfl]
          refine ⟨ι3, (wipeD [i] ρ).set i (some ds[k]), s1, (hrw.set rx0 i).mono l3, m3, ?_⟩
          cases e4 : ge ((wipeD [i] ρ).set i (some ds[k])) s1 with
          | err x s5 => rw [e4] at h'; exact h'.elim
          | no => rw [e4] at h'; exact h'.elim
          | ok y s5 =>
            have es := hp _ _ _ _ e4
            subst es
            rw [e4] at h'
            simp only [noErr, R.bind_ok] at h'
            intro ι4 v4 H4 l4 m4 r4
            have d4 := l4.stay _ _ d3.1 noTab_lst d3.2
            obtain ⟨kf, mf⟩ := m4.fill (o := .lst (vs ++ [v4])) (l4.sub _ (l3.sub _ hDM)) d4.2 trivial
            have hv : vs.length = acc.length := (hacc.length).symm
            refine ⟨vs, d4.1, ?_, ι4, acc ++ [y], vs ++ [v4], ((l'.trans l3).trans l4).updNone hDa, l4.sub _ (l3.sub _ hDM), d4.2, mf, upd_same, (Reps.monoK kf ((hacc.mono l3).mono l4)).append (.cons (Rep.monoK kf r4) .nil), by simp; omega, ?_⟩
            · have := fitL_le hfit
              omega
            · cases e5 : lcM ge i (wipeD [i] ρ) s5 (ds.drop (k + 1)) with
              | ok ys s6 =>
                have es6 := lcM_st e5
                subst es6
                rw [e5] at h'; simpa using h'
              | err x s6 => rw [e5] at h'; exact h'
              | no => rw [e5] at h'; exact h'
        · refine .inl ⟨⟨ws, hsq', by rw [← hreps'.length]; omega⟩, ?_⟩
          rw [List.drop_eq_nil_of_le (by omega)] at h'
          simp only [lcM, R.bind_ok, List.append_nil] at h'
          obtain ⟨ls, ms⟩ := hm'.shut (p := Da) hDι
          exact h' _ _ H' (l'.shutNone hDa (hm1.ne hDa)) ms (.lst hD' (fun z => by simpa using (List.mem_filter.mp z).2) (Reps.monoK ls hacc))
      · exact h1.elim
    · exact h1.elim
end
end J
namespace J
theorem pure_lenVar (i : Nat) : ∀ (ρ : Env) (s : S) (y : D) (s' : S), gF (f1 fLen) (gaCons (gVar i) gaNil) ρ s = .ok y s' → s' = s := fun ρ s y s' h => by
  have e : gF (f1 fLen) (gaCons (gVar i) gaNil) ρ s = (gVar i ρ s).bind fun d s1 => R.ofO (fLen s1 d) s1 := by
    show ((gVar i ρ s).bind fun d s1 => (gaNil ρ s1).bind fun ds s2 => .ok (d :: ds) s2).bind _ = _
    cases gVar i ρ s <;> rfl
  rw [e] at h
  unfold gVar at h
  split at h
  · rename_i d hd
    simp only [R.bind_ok] at h
    cases e2 : fLen s d with
    | none => rw [e2] at h; cases h
    | some z => rw [e2] at h; cases h; rfl
  · cases h
end J


set_option Elab.async false
set_option linter.all false
set_option maxRecDepth 100000
set_option maxHeartbeats 4000000
/-! J28: an own error whose __init__ hands its argument on by super() and keeps it as a field. -/
namespace J
open PySem PySem.Spec L2
open PySem.W (Frag Looks)

/-! ### the text of such an __init__ -/
def isNm (x : Str) : Expr → Bool
  | .Name y _ => decide (y = x)
  | _ => false
theorem isNm_ok {x : Str} {e : Expr} (h : isNm x e = true) : ∃ p, e = .Name x p := by
  cases e <;> simp only [isNm] at h <;> first | exact absurd h Bool.false_ne_true | skip
  rename_i y p
  exact ⟨p, by rw [of_decide_eq_true h]⟩
def supB (fld : Str) : Stmt → Bool
  | .Expr (.Call (.Attribute (.Call s [] [] _) i pa) [e] [] p3) _ => isNm "super" s && (decide (i = "__init__") && (isNm fld e && (pa.endLine == p3.line)))
  | _ => false
theorem supB_ok {fld : Str} {st : Stmt} (h : supB fld st = true) : ∃ p0 p1 pa p2 p3 p4, st = .Expr (.Call (.Attribute (.Call (.Name "super" p0) [] [] p1) "__init__" pa) [.Name fld p2] [] p3) p4 ∧ (pa.endLine == p3.line) = true := by
  unfold supB at h
  split at h
  · simp only [Bool.and_eq_true] at h
    obtain ⟨h1, h2, h3, h4⟩ := h
    obtain ⟨p0, rfl⟩ := isNm_ok h1
    obtain ⟨p2, rfl⟩ := isNm_ok h3
    have e := of_decide_eq_true h2
    subst e
    exact ⟨_, _, _, _, _, _, rfl, h4⟩
  · exact absurd h Bool.false_ne_true
def kepB (fld : Str) : Stmt → Bool
  | .Assign [.Attribute s f _] e _ => isNm "self" s && (decide (f = fld) && isNm fld e)
  | _ => false
theorem kepB_ok {fld : Str} {st : Stmt} (h : kepB fld st = true) : ∃ p0 p1 p2 p3, st = .Assign [.Attribute (.Name "self" p0) fld p1] (.Name fld p2) p3 := by
  unfold kepB at h
  split at h
  · simp only [Bool.and_eq_true] at h
    obtain ⟨h1, h2, h3⟩ := h
    obtain ⟨p0, rfl⟩ := isNm_ok h1
    obtain ⟨p2, rfl⟩ := isNm_ok h3
    have e := of_decide_eq_true h2
    subst e
    exact ⟨_, _, _, _, rfl⟩
  · exact absurd h Bool.false_ne_true
def parB (fld : Str) : Arguments → Bool
  | ⟨[], [⟨a, none, _⟩, ⟨b, none, _⟩], none, [], [], none, []⟩ => decide (a = "self") && decide (b = fld)
  | _ => false
theorem parB_ok {fld : Str} {ar : Arguments} (h : parB fld ar = true) : ∃ p q, ar = ⟨[], [⟨"self", none, p⟩, ⟨fld, none, q⟩], none, [], [], none, []⟩ := by
  unfold parB at h
  split at h
  · simp only [Bool.and_eq_true, decide_eq_true_eq] at h
    obtain ⟨rfl, rfl⟩ := h
    exact ⟨_, _, rfl⟩
  · exact absurd h Bool.false_ne_true
def bodB (fld : Str) : FuncBody → Bool
  | .stmts [a, b] => supB fld a && kepB fld b
  | _ => false
def scoB (fld : Str) (sc : Scope) : Bool :=
  decide (sc.kind = .function) && (!sc.isCoroutine && (!sc.isGenerator && (decide (sc.names.lookup ("super" : Str) = some .globalImplicit) && (decide (sc.names.lookup ("__class__" : Str) = some .free) && (decide (sc.names.lookup ("self" : Str) = some .local) &&
    (decide (sc.names.lookup fld = some .local) && sc.names.all fun y => !decide (y.2 = .cell)))))))
def celB (K : Frag) (C : Addr) (c : Addr) : Bool := match K.lookup c with
  | some ⟨_, _, .cell (some (.ref D)), _⟩ => decide (D = C)
  | _ => false
def filB (P : Program) (K : Frag) : Value → Bool
  | .ref c => (match K.lookup c with
    | some ⟨_, _, .fields vs, _⟩ => (match (vs[2]? : Option Value) with
      | some (Value.str file _) => (P.main.file : Str) == file
      | _ => false)
    | _ => false)
  | _ => false
def fdB (P : Program) (K : Frag) (C : Addr) (fld : Str) (fd : FuncData) : Bool :=
  parB fld fd.params && (decide (fd.defaults = .none) && (bodB fld fd.body && (scoB fld fd.scope && (decide (fd.globals = mainGlobals) && (decide (fd.builtins = builtinsNs) && (PySem.W.codeIn K fd.code fd.qualname && (filB P K fd.code &&
    (match fd.closure with | [(x, c)] => decide (x = "__class__") && celB K C c | _ => false))))))))
def initAt (K : Frag) (C : Addr) : Addr := match PySem.W.findIn K (.ref C) "__init__" with
  | some (some (.ref f)) => f
  | _ => 0
def clsB (K : Frag) (C : Addr) : Bool := match K.lookup C with
  | some ⟨.type "type", _, .cls cd, sl⟩ => (match cd.mro, sl.toList with
    | .ref C' :: bm, [_, _, _, _, some (.builtin n), _] => decide (C' = C) && (decide (n = "ValueError.__new__") && (!cd.hasDel && (cd.hasDict && PySem.HandSPX.refsVE bm)))
    | _, _ => false)
  | _ => false
/-- what the written part says of such a class -/
def errB (P : Program) (K : Frag) (C : Addr) (fld : Str) : Bool :=
  clsB K C && (decide (PySem.W.findIn K (.ref C) "__setattr__" = some (some (.builtin "object.__setattr__"))) && (decide (PySem.W.subIn K (.ref C) (.type "BaseException") = some true) && (decide (PySem.W.typeIn K (.ref C) = some (.type "type")) &&
    (PySem.W.keepIn K (.ref C) && (decide (PySem.W.findIn K (.ref C) "__init__" = some (some (.ref (initAt K C)))) && (decide (PySem.W.typeIn K (.ref (initAt K C)) = some (.type "function")) && (decide (PySem.W.findIn K (.ref C) fld = some none) &&
      (decide (PySem.W.ks_superIn K C C "__init__" = some (some (.builtin "ValueError.__init__"))) && (decide (PySem.W.subIn K (.ref C) (.type "ValueError") = some true) && (decide (PySem.W.mroIn K C (.ref C) = some true) && (decide (PySem.W.nsIn K mainGlobals "super" = some none) &&
        (decide (PySem.W.nsIn K cStatics "thirdparty.any" = some none) && (!(P.main.scope.names.lookup ("super" : Str)).isSome && (match K.lookup (initAt K C) with
          | some ⟨_, _, .func fd, _⟩ => fdB P K C fld fd
          | _ => false))))))))))))))
theorem clsB_ok {K : Frag} {C : Addr} (h : clsB K C = true) : ∃ nm q N bs bm sn sub ab col dd k0 k1 k2 k3 k5, K.lookup C = some (excClassObj nm q C N bs bm true sn sub ab col dd k0 k1 k2 k3 k5 "ValueError.__new__") ∧ PySem.HandSPX.refsVE bm = true := by
  unfold clsB at h
  split at h
  · rename_i dd cd sl ho
    split at h
    · rename_i C' bm k0 k1 k2 k3 n k5 hm hs
      simp only [Bool.and_eq_true, decide_eq_true_eq, Bool.not_eq_true'] at h
      obtain ⟨rfl, rfl, h1, h2, h3⟩ := h
      obtain ⟨nm, bs, mro, ns, qn, hd, sn, sub, ab, col, del⟩ := cd
      obtain ⟨l⟩ := sl
      dsimp only at hm hs h1 h2
      subst hm hs h1 h2
      exact ⟨_, _, _, _, bm, _, _, _, _, dd, k0, k1, k2, k3, k5, ho, h3⟩
    · exact absurd h Bool.false_ne_true
  · exact absurd h Bool.false_ne_true
end J


set_option Elab.async false
set_option linter.all false
set_option maxRecDepth 100000
set_option maxHeartbeats 4000000
/-! J29: such an __init__, run. -/
namespace J
open PySem PySem.Spec L2
open PySem.W (Frag Looks)
/-- what such an __init__ does -/
def spInit (C : Addr) (fld : Str) : Sp := fun vs H Q _ => ∃ a v, vs = [.ref a, v] ∧ H a = some (exo a C none) ∧ ∀ dx, H dx = none → dx ≠ a → Q .non (upd (upd H dx (exd dx [(fld, v)])) a (exo a C (some dx)))
/-- the bound __init__ of the base class, called: the args are laid anew -/
theorem mw_call {P : Program} {w : World} {A : Around} {E : Value → Shared → Prop} {h : Heap} {g : Array GenState} {d : Drawn} {t : Nat} {os : OsState} {nm q : Str} {C N : Addr} {bs bm : List Value} {hdct : Bool} {sn : List Str} {sub : List Value} {ab : Bool} {col : Option Bool} {dd : Option Addr} {k0 k1 k2 k3 k5 : Option Value} {u e t0 : Addr} {rest : List Value} {Q : Value → Shared → Prop}
    (hC : h.get? C = some (excClassObj nm q C N bs bm hdct sn sub ab col dd k0 k1 k2 k3 k5 "ValueError.__new__")) (he : h.get? e = some (PySem.HandSPX.excO C t0)) (hu : h.get? u = some (PySem.W.kxs_mw "ValueError.__init__" e)) (hrest : rest.length ≤ sizeLine)
    (hq : ∀ h' t1, (∀ b o, b ≠ e → h.get? b = some o → h'.get? b = some o) → h'.get? e = some (PySem.HandSPX.excO C t1) → Q .none ⟨h', g, d, t, os⟩) : wpAny (model P w) A (call (.ref u) rest) Q E ⟨h, g, d, t, os⟩ := by
  refine wpAny_call (codeAny_of_tree (show wpAny _ A.in1 (callAny (.ref u) ⟨rest, []⟩) _ _ _ from ?_))
  simp only [callAny]
  refine wpAny_bind (wpAny_load hu ?_)
  have m1 : (Value.type "method-wrapper" == Value.type "method" || Value.type "method-wrapper" == Value.type "builtin_function_or_method" || Value.type "method-wrapper" == Value.type "method-wrapper") = true := by decide
  simp only [PySem.W.kxs_mw, m1, if_true]
  refine PySem.W.KFB.if_so (by decide) (wpAny_bind (PySem.W.check_bound_init PySem.F.excBase_ValueError.toExcCallFacts hC he rfl (wpAny_bind (wpAny_pure (wpAny_pure ⟨plainId_quiet PySem.F.excBase_ValueError.init.plain _, codeAny_builtin PySem.F.excBase_ValueError.initEntry ?_⟩)))))
  exact PySem.W.exc_init_tree (cls := .ref C) (t0 := t0) (dv := none) (c2 := .none) (c3 := .none) (b4 := .bool false) he hrest fun h' k e1 _ => hq h' _ k e1

structure ScF (fld : Str) (sc : Scope) : Prop where
  kind : sc.kind = .function
  co : sc.isCoroutine = false
  gen : sc.isGenerator = false
  su : sc.names.lookup ("super" : Str) = some .globalImplicit
  cl : sc.names.lookup ("__class__" : Str) = some .free
  se : sc.names.lookup ("self" : Str) = some .local
  fl : sc.names.lookup fld = some .local
  nc : ∀ x ∈ sc.names, x.2 ≠ .cell
theorem scoB_ok {fld : Str} {sc : Scope} (h : scoB fld sc = true) : ScF fld sc := by
  simp only [scoB, Bool.and_eq_true, decide_eq_true_eq, Bool.not_eq_true', List.all_eq_true, decide_eq_false_iff_not] at h
  obtain ⟨h1, h2, h3, h4, h5, h6, h7, h8⟩ := h
  exact ⟨h1, h2, h3, h4, h5, h6, h7, h8⟩
theorem celB_ok {K : Frag} {C c : Addr} (h : celB K C c = true) : ∃ oc od sl, K.lookup c = some ⟨oc, od, .cell (some (.ref C)), sl⟩ := by
  unfold celB at h
  split at h
  · rename_i oc od D sl e
    have z := of_decide_eq_true h
    subst z
    exact ⟨_, _, _, e⟩
  · cases h
theorem filB_ok {P : Program} {K : Frag} {v : Value} (h : filB P K v = true) : ∃ c oc od vs sl file tf, v = .ref c ∧ K.lookup c = some ⟨oc, od, .fields vs, sl⟩ ∧ vs[2]? = some (.str file tf) ∧ ((P.main.file : Str) == file) = true := by
  unfold filB at h
  split at h
  · split at h
    · rename_i e
      split at h
      · rename_i e2
        exact ⟨_, _, _, _, _, _, _, rfl, e, e2, h⟩
      · cases h
    · cases h
  · cases h
theorem init_run {P : Program} {w : World} {K : Frag} {mg : Str → Option Value} {base : Heap} {C f : Addr} {fld : Str} {k : Nat} {oc : Value} {od : Option Addr} {osl : Array (Option Value)} {name qual : Str} {params : Arguments} {st1 st2 : Stmt} {scope : Scope} {dV kV doc pm ct cdv : Value} {an : Option Addr} {cc : Addr}
    (lk : K.lookup f = some ⟨oc, od, .func { name, qualname := qual, params, body := .stmts [st1, st2], scope, globals := mainGlobals, closure := [("__class__", cc)], defaults := dV, kwdefaults := kV, doc, pyModule := pm, annotations := an, code := cdv, closureTuple := ct, builtins := builtinsNs }, osl⟩)
    (hpar : parB fld params = true) (h1 : supB fld st1 = true) (h2 : kepB fld st2 = true) (S : ScF fld scope) (hcd : PySem.W.codeIn K cdv qual = true) (hfil : filB P K cdv = true) (hcel : celB K C cc = true) (T : OexC K C)
    (hno : PySem.W.findIn K (.ref C) fld = some none) (hsup : PySem.W.ks_superIn K C C "__init__" = some (some (.builtin "ValueError.__init__"))) (hve : PySem.W.subIn K (.ref C) (.type "ValueError") = some true) (hmr : PySem.W.mroIn K C (.ref C) = some true)
    (hns : PySem.W.nsIn K mainGlobals "super" = some none) (hop : PySem.W.nsIn K cStatics "thirdparty.any" = some none) (htop : (P.main.scope.names.lookup ("super" : Str)).isSome = false) (hfs : fld ≠ "self") (hfd : (fld == ("__debug__" : Str)) = false) :
    FnOk P w K mg base (L2.CX P w) k f { name, qualname := qual, params, body := .stmts [st1, st2], scope, globals := mainGlobals, closure := [("__class__", cc)], defaults := dV, kwdefaults := kV, doc, pyModule := pm, annotations := an, code := cdv, closureTuple := ct, builtins := builtinsNs } ["self", fld] (spInit C fld) := by
  obtain ⟨pa, pb, rfl⟩ := parB_ok hpar
  obtain ⟨p0, p1, pt, p2, p3, p4, rfl, hline⟩ := supB_ok h1
  obtain ⟨r0, r1, r2, r3, rfl⟩ := kepB_ok h2
  obtain ⟨cda, occ, odc, vsc, slc, file, tf, rfl, lcda, hvs, hfile⟩ := filB_ok hfil
  obtain ⟨occ2, odc2, slc2, lcell⟩ := celB_ok hcel
  obtain ⟨nm, q, N, bs, bm, sn, sub, ab, col, dd, k0, k1, k2, k3, k5, hC, hbm⟩ := T.cls
  refine ⟨fun vs H Q E ⟨a, v, e, _⟩ => by rw [e]; rfl, fun A outer s H args us vs Q E hr e0 hb r hsp => ?_⟩
  have KX : K.In s.heap := e0.mod.kin.keeps fun b o e => (e0.bs b o e).1
  have lim : s.heap.NoLimit := e0.mod.nolimit.keeps fun b o e => (e0.bs b o e).1
  obtain ⟨a, v, rfl, ea, hq⟩ := hsp
  cases r with
  | @cons _ u0 _ us1 ra rest =>
  cases rest with
  | @cons _ u _ us2 ru rest2 =>
  cases rest2
  obtain rfl : u0 = Value.ref a := ra
  obtain ⟨t1, ho⟩ := exo_at e0.hok ea
  have hfs2 : (("self" : Str) == fld) = false := by simpa using fun z => hfs z.symm
  refine ks_codeAny_call_defAt (binds := (["self", fld] : List Str).zip [Value.ref a, u]) hr.depth (KX _ _ lk) rfl lim (PySem.W.codeRec_of KX hcd) rfl hb S.nc (fun x hx => ?_) (fun h₁ hns1 kp => ?_) S.co S.gen S.kind
  · simp only [List.zip_cons_cons, List.zip_nil_right, List.mem_cons, List.not_mem_nil, or_false] at hx
    rcases hx with rfl | rfl
    · exact S.se
    · exact S.fl
  · have X1 : K.In h₁ := KX.keeps kp
    have ha1 := kp _ _ ho
    have xC : a ≠ C := fun z => by
      have := KX _ _ hC
      rw [← z, ho] at this
      cases this
    generalize hE : callEnv _ s.heap.objs.size f = env
    have ek : env.scope.kind = .function := by rw [← hE]; exact S.kind
    have e1 : env.kindOf "super" = some .globalImplicit := by rw [← hE]; exact S.su
    have e2 : env.kindOf "__class__" = some .free := by rw [← hE]; exact S.cl
    have e3 : env.kindOf "self" = some .local := by rw [← hE]; exact S.se
    have e4 : env.kindOf fld = some .local := by rw [← hE]; exact S.fl
    have e5 : env.globals = mainGlobals := by rw [← hE]; rfl
    have e6 : env.builtins = builtinsNs := by rw [← hE]; rfl
    have e7 : env.locals = s.heap.objs.size := by rw [← hE]; rfl
    have e8 : env.func = some f := by rw [← hE]; rfl
    have e9 : env.code = .ref cda := by rw [← hE]; rfl
    have e10 : env.cells.lookup ("__class__" : Str) = some cc := by rw [← hE]; rfl
    clear hE
    refine PySem.ks_wpAt_execs_cons (PySem.ks_wpAt_Expr_any (PySem.ks_wpAt_MethodCall (pl := plainOf (.Call (.Name "super" p0) [] [] p1) env) ?_ ?_) ?_)
    · refine PySem.ks_wpAt_super_base e1 e2 (by decide) e8 (X1 _ _ lk) rfl rfl e9 (X1 _ _ lcda) rfl hvs hfile htop ?_
      have glob : h₁.Ns mainGlobals mg := (e0.mod.glob.keeps fun b o e => kp b o (e0.bs b o e).1)
      obtain ⟨mb, hmb, hbl⟩ := e0.mod.blt
      have blt : h₁.Ns builtinsNs mb := hmb.keeps fun b o e => kp b o (e0.bs b o e).1
      have hv1 : List.lookup ("self" : Str) ((["self", fld] : List Str).zip [Value.ref a, u]).reverse = some (.ref a) := by
        simp [List.lookup, hfs2]
      have hv2 : List.lookup fld ((["self", fld] : List Str).zip [Value.ref a, u]).reverse = some u := by
        simp [List.lookup]
      rw [← e7] at hns1
      obtain ⟨cdC, hD⟩ : ∃ cd, PySem.W.clsIn K C = some cd := by
        cases e : PySem.W.clsIn K C with
        | none => unfold PySem.W.ks_superIn at hsup; rw [e] at hsup; cases hsup
        | some cd => exact ⟨cd, rfl⟩
      refine PySem.W.ks_loadName_global ek e1 (PySem.Calls.loadGlobal_builtin (by rw [e5]; exact glob) (PySem.W.mg_none_of KX (e0.mod.glob.keeps fun b o e => (e0.bs b o e).1) hns) (by rw [e6]; exact blt) ((hbl _ (by decide)).trans (by first | boot_by_name | rfl | kernel_rfl)) ⟨rfl, ?_⟩)
      refine wpAny_loadName_free ek e2 e10 ⟨_, X1 _ _ lcell, rfl⟩ ?_
      refine wpAny_loadName_local ek e3 hns1 hv1 ?_
      refine PySem.ks_wpAny_isType_cls (X1 _ _ hC) rfl ⟨rfl, ?_⟩
      refine PySem.ks_wpAny_call_super (X1 _ _ hC) rfl ha1 rfl (fun c z => by cases z) (PySem.W.looks_mroIn X1 hmr) (fun h' so k1 => ?_)
      have X2 : K.In h' := X1.keeps k1
      have hI : Looks (model P w) h' (isInstance (.ref a) (.type "ValueError")) true := (PySem.W.InstAt.type (M := model P w) (od := none) ⟨k1 _ _ ha1, rfl, rfl, trivial⟩).andThen (PySem.W.looks_subIn X2 hve)
      unfold PySem.W.ks_superIn at hsup
      rw [hD] at hsup
      refine PySem.W.kxs_getMethod PySem.W.kxs_ValueError so (PySem.W.looks_opaque X2 hop) (l₀ := cdC.mro) (fun A Q E s k q => wpAny_bind ((PySem.W.looks_clsIn X2 hD) A _ E s k (wpAny_pure q))) rfl X2 hsup hI xC (by decide) ?_
      have eT : backTo p3 (starEach [.Name fld p2] env) = (false, eval (.Name fld p2) env) :: backTo p3 (starEach [] env) := rfl
      refine PySem.W.kxs_callWith (i := "ValueError.__init__") (x := a) (by rw [eT]; rfl) ?_
      rw [eT]
      have kp2 : ∀ b o, h₁.get? b = some o → (h'.push (PySem.W.kxs_mw "ValueError.__init__" a)).get? b = some o := fun b o e => Heap.get?_push_of_some _ (k1 b o e)
      have n2 := hns1.keeps kp2
      refine PySem.Calls.evalArgs_plain (PySem.Calls.spliced_cons (wpAny_Name (wpAny_loadName_local ek e4 n2 hv2 (PySem.Calls.spliced_nil ⟨Heap.get?_push_size _ rfl, ?_⟩)) hfd))
      refine mw_call (kp2 _ _ (X1 _ _ hC)) (kp2 _ _ ha1) (Heap.get?_push_size _ rfl) (by show 1 ≤ sizeLine; decide) fun h3 t3 kp3 ha3 => ?_
      have k03 : ∀ b o, b ≠ a → s.heap.get? b = some o → h3.get? b = some o := fun b o hb e => kp3 b o hb (kp2 b o (kp b o e))
      have La : env.locals ≠ a := fun z => by
        have := Heap.lt_size ho
        rw [← z, e7] at this
        exact Nat.lt_irrefl _ this
      have n3 : h3.Ns env.locals fun x => List.lookup x ((["self", fld] : List Str).zip [Value.ref a, u]).reverse := n2.at fun o e => kp3 _ o La e
      have nK : ∀ b o, K.lookup b = some o → b ≠ a := fun b o e z => by
        have := (e0.bs b o (e0.mod.kin b o e)).2
        rw [z, ea] at this
        cases this
      have X3 : K.In h3 := fun b o e => k03 b o (nK b o e) (KX b o e)
      have hcl : PySem.W.clsIn K C = some { name := nm, bases := bs, mro := .ref C :: bm, ns := N, qualname := q, hasDict := true, slotNames := sn, subclasses := sub, abstract := ab, collection := col, hasDel := false } := by
        unfold PySem.W.clsIn
        rw [hC] <;> rfl
      refine PySem.ks_wpAt_execs_cons (wpAt_of_wpAny (plainObj_wpAny_Assign_Attribute (wpAny_Name (wpAny_loadName_local ek e4 n3 hv2 (wpAny_Name (wpAny_loadName_local ek e3 n3 hv1 ?_) (by decide))) hfd) rfl))
      refine PySem.W.set_plain X3 (od := none) ⟨ha3, rfl, rfl, trivial⟩ T.sa (PySem.HandSPX.exc_osa X3 ha3 hcl (show PySem.HandSPX.refsVE (.ref C :: bm) = true from hbm) rfl hno (fun h4 tk4 dx k4 dn dne hx hn => wpAt_of_wpAny (wpAny_execs_nil ?_)))
      have Lz : s.heap.objs.size ≤ dx := by
        obtain ⟨oL, _, _, hL, _⟩ := n3
        have := Heap.lt_size hL
        rw [e7] at this
        exact Nat.le_trans (Nat.le_of_lt this) dn
      have k04 : ∀ b o, b ≠ a → s.heap.get? b = some o → h4.get? b = some o := fun b o hb e => k4 b o hb (k03 b o hb e)
      have hnd : H dx = none := e0.hok.fresh Lz
      have nd : ∀ {b : Addr} {o : Obj}, s.heap.get? b = some o → b ≠ dx := fun {b o} e => Nat.ne_of_lt (Nat.lt_of_lt_of_le (Heap.lt_size e) Lz)
      have na : ∀ {b : Addr}, H b = none → b ≠ a := fun {b} n z => by rw [z, ea] at n; cases n
      have up : ∀ {b : Addr} {o : HO}, H b = some o → o ≠ exo a C none → upd (upd H dx (exd dx [(fld, v)])) a (exo a C (some dx)) b = some o := fun {b o} e n => by
        have nb : b ≠ a := fun z => by
          rw [z, ea] at e
          exact n (Option.some.inj e).symm
        rw [upd_ne nb, upd_ne (ne_of_none e hnd)]
        exact e
      have un : Un (frs outer) [] H (upd (upd H dx (exd dx [(fld, v)])) a (exo a C (some dx))) s.heap h4 := ⟨fun b o e n _ _ => k04 b o (na n) e, fun b o e n _ _ => ⟨o.slots, k04 b o (na n) e⟩, fun b o e n _ => by rw [upd_ne (na n), upd_ne (nd e)]; exact n,
        fun b o e _ => (Decidable.em (b = a)).elim (fun z => ⟨_, (congrArg h4.get? z).trans hx⟩) fun z => ⟨o, k04 b o z e⟩, fun b xs e => up e fun z => exo_tup z.symm, fun b o z e => up e fun y => exo_frz y.symm, fun b ps e => ⟨#[], by rw [up e fun z => exo_tbl z.symm]; simp⟩⟩
      have ok : HOk P w (upd (upd H dx (exd dx [(fld, v)])) a (exo a C (some dx))) h4 := fun b o e => by
        by_cases hb : b = a
        · subst hb
          rw [upd_same] at e
          cases e
          exact exo_ok hx
        · rw [upd_ne hb] at e
          by_cases hd : b = dx
          · subst hd
            rw [upd_same] at e
            cases e
            exact exd_ok hn (relO_put (fs := []) ru fun g => True.intro)
          · rw [upd_ne hd] at e
            exact (e0.hok b o e).stay (fun c z hc y => k04 c z (hc.elim (fun q => by rw [q]; exact hb) fun q w => by rw [w, ea] at q; exact exo_own (Option.some.inj q)) y) (fun c hc => up hc fun z => exo_own z.symm) fun c xs hc => up hc fun z => exo_tup z.symm
      exact ⟨.non, _, rfl, e0.bare, un, ok, rfl, hq dx hnd dne⟩
    · exact (PySem.arm_eval_Call _ _ _ _ _ _ _).trans (congrArg (fun g => attributeBase _ _ env _ >>= g) (funext fun ov => congrArg (fun g => standAt _ >>= g) (funext fun _ => mcall_line (by rfl) hline)))
    · unfold interactive; simp [ek]
end J


set_option Elab.async false
set_option linter.all false
set_option maxRecDepth 100000
set_option maxHeartbeats 4000000
/-! J30: raise of an own error with a field; such an error caught: which class, its field. -/
namespace J
open PySem PySem.Spec L2
open PySem.W (Frag Looks)
open PyProof.Rows (envOfC)
/-- what the written part says of an own error class that keeps a field -/
structure ErrJ (P : Program) (K : Frag) (mg : Str → Option Value) (ca : Ct) (c : Nat) (x fld : Str) : Prop where
  g : mg x = some (.ref (ca.c c))
  o : OexC K (ca.c c)
  i : PySem.W.findIn K (.ref (ca.c c)) "__init__" = some (some (.ref (initAt K (ca.c c))))
  t : PySem.W.typeIn K (.ref (initAt K (ca.c c))) = some (.type "function")
  f : ∃ fd, Binds K fd ["self", fld] [] ∧ ∀ (w : World) (base : Heap) (k : Nat), FnOk P w K mg base (L2.CX P w) k (initAt K (ca.c c)) fd ["self", fld] (spInit (ca.c c) fld)
theorem errJ_ok {P : Program} {K : Frag} {mg : Str → Option Value} {ca : Ct} {c : Nat} {x fld : Str} {h : Heap} (X : K.In h) (G : h.Ns mainGlobals mg) (e : errB P K (He.ga K x) fld = true) (g : (He.Fa.glo x).ok K = true) (ec : ca.c c = He.ga K x) (hfs : fld ≠ "self") (hfd : (fld == ("__debug__" : Str)) = false)
    (hbi : ∀ (fd : FuncData) (p q : Pos) (u1 u2 : Value), fd.params = ⟨[], [⟨"self", none, p⟩, ⟨fld, none, q⟩], none, [], [], none, []⟩ → fd.defaults = .none → bindArgs fd ⟨[u1, u2], []⟩ = pure [(("self" : Str), u1), (fld, u2)]) : ErrJ P K mg ca c x fld := by
  rw [← ec] at e
  simp only [errB, Bool.and_eq_true, decide_eq_true_eq, Bool.not_eq_true'] at e
  obtain ⟨h1, h2, h3, h4, h5, h6, h7, h8, h9, h10, h11, h12, h13, h14, h15⟩ := e
  have T : OexC K (ca.c c) := ⟨clsB_ok h1, h2, h3, h4, h5⟩
  refine ⟨by rw [ec]; exact He.glo_ok X G g, T, h6, h7, ?_⟩
  split at h15
  · rename_i oc od fd osl lk
    simp only [fdB, Bool.and_eq_true, decide_eq_true_eq] at h15
    obtain ⟨k1, k0, k2, k3, k4, k5, k6, k7, k8⟩ := h15
    obtain ⟨name, qual, params, body, scope, globals, closure, dV, kV, doc, pm, an, cdv, ct, blt⟩ := fd
    dsimp only at k0 k1 k2 k3 k4 k5 k6 k7 k8
    subst k0 k4 k5
    unfold bodB at k2
    split at k2
    · rename_i st1 st2
      simp only [Bool.and_eq_true] at k2
      split at k8
      · rename_i x' cc
        simp only [Bool.and_eq_true, decide_eq_true_eq] at k8
        obtain ⟨rfl, k9⟩ := k8
        refine ⟨_, .all fun us hl => ?_, fun w base k => init_run lk k1 k2.1 k2.2 (scoB_ok k3) k6 k7 k9 T h8 h9 h10 h11 h12 h13 h14 hfs hfd⟩
        obtain ⟨p, q, rfl⟩ := parB_ok k1
        match us, hl with
        | [_, _], _ => exact hbi _ p q _ _ rfl rfl
      · cases k8
    · cases k2
  · cases h15
/-- no error passes on out of such an __init__ -/
theorem passes_none {X : Cx} : Passes (L2.CX X.prog X.w) X (fun _ _ _ => False) := fun _ _ _ _ _ _ _ z => by
  obtain ⟨_, _, _, _, _, _, _, _, _, _, _, _, q⟩ := z
  exact q.elim
section
variable {X : Cx} {ca : Ct} {W : WX} {e : Expr} {pos : Pos} {ge : GE}
def sRaise1 (c : Nat) (fld : Str) (ge : GE) : GS := fun ρ s => (ge ρ s).bind fun d s1 => .err ⟨c, some (fld, d)⟩ s1
theorem js_raise1 {x fld : Str} {p pos' : Pos} {c j : Nat} (T : ErrJ X.prog X.K X.mg ca c x fld) (hc : X.calm = true) (tk : Takes X W) (hr : Room (j + 1) X.A) (he : JE X ca W e ge) (hg : Gl X x := by rfl) (hdb : (x == ("__debug__" : Str)) = false := by decide)
    (hs : starEach [e] X.env = (false, eval e X.env) :: starEach [] X.env := by rfl) (hpl : (backTo pos' (starEach [] X.env)).any (·.1) = false := by rfl) :
    JS X ca W (.Raise (some (.Call (.Name x p) [e] [] pos')) none pos) (sRaise1 c fld ge) := by
  obtain ⟨fd, hb, F⟩ := T.f
  refine PS.imp (ps_raise hc tk (pmk_oex T.o T.i T.t (F X.w X.base j) hr hb .nil passes_none hg T.g (pa_cons he pa_nil hs) hdb hs hpl)) fun D σ H ⟨ι, ρ, s, hrs, hm, h⟩ => ?_
  show tG X.K ca W ge σ H _
  refine bindE famS hrs hm h fun ι1 s1 d v H1 l1 hr1 hm1 rd h1 => ⟨by show 1 ≤ 1000; decide, fun a ha => ⟨a, v, rfl, upd_same, fun dx hdx hne => ⟨rfl, dx, [(fld, v)], upd_same, by rw [upd_ne hne, upd_same], by rw [upd_ne hne] at hdx; exact hdx, ?_⟩⟩⟩
  rw [upd_ne hne] at hdx
  have eH : upd (del (upd (upd (upd H1 a (exo a (ca.c c) none)) dx (exd dx [(fld, v)])) a (exo a (ca.c c) (some dx))) a) dx (.xd [(fld, v)]) = upd H1 dx (.xd [(fld, v)]) := by
    funext b
    by_cases h1 : b = dx
    · subst h1; rw [upd_same, upd_same]
    · rw [upd_ne h1, upd_ne h1]
      by_cases h2 : b = a
      · subst h2; rw [del_same, ha]
      · rw [del_ne h2, upd_ne h2, upd_ne h1, upd_ne h2]
  rw [eH]
  obtain ⟨l2, m2⟩ := hm1.new (o := .xd [(fld, v)]) hdx
  refine h1 ι1 _ _ _ σ l2 m2 ⟨rfl, (fun z => nomatch z), fun f x ef => ?_⟩
  cases ef
  exact ⟨dx, _, v, rfl, upd_same, by simp [List.lookup], rd.mono l2⟩
end
theorem bind_line (fd : FuncData) (p q : Pos) (u1 u2 : Value) (h : fd.params = ⟨[], [⟨"self", none, p⟩, ⟨"line", none, q⟩], none, [], [], none, []⟩) (h2 : fd.defaults = .none) : bindArgs fd ⟨[u1, u2], []⟩ = pure [(("self" : Str), u1), (("line" : Str), u2)] := by
  obtain ⟨_, _, _, _, _, _, _, _, _, _, _, _, _, _, _⟩ := fd
  cases h
  cases h2
  rfl
theorem bind_core (fd : FuncData) (p q : Pos) (u1 u2 : Value) (h : fd.params = ⟨[], [⟨"self", none, p⟩, ⟨"core", none, q⟩], none, [], [], none, []⟩) (h2 : fd.defaults = .none) : bindArgs fd ⟨[u1, u2], []⟩ = pure [(("self" : Str), u1), (("core" : Str), u2)] := by
  obtain ⟨_, _, _, _, _, _, _, _, _, _, _, _, _, _, _⟩ := fd
  cases h
  cases h2
  rfl
theorem bind_index (fd : FuncData) (p q : Pos) (u1 u2 : Value) (h : fd.params = ⟨[], [⟨"self", none, p⟩, ⟨"index", none, q⟩], none, [], [], none, []⟩) (h2 : fd.defaults = .none) : bindArgs fd ⟨[u1, u2], []⟩ = pure [(("self" : Str), u1), (("index" : Str), u2)] := by
  obtain ⟨_, _, _, _, _, _, _, _, _, _, _, _, _, _, _⟩ := fd
  cases h
  cases h2
  rfl
end J


set_option Elab.async false
set_option linter.all false
set_option maxRecDepth 100000
set_option maxHeartbeats 4000000
/-! J31: the head's Hook, with the statics among what is seen. -/
namespace J
open PySem PySem.Spec PyProof.Rows L2
abbrev seeS (n : Nat) (g : Addr → Option Obj) : PySem.W.Frag := He.frT g (cStatics :: He.asD g n)
def obsS (n : Nat) (fa : List He.Fa) (fn : List He.DefD) (tf : List He.Defn) (ex : PySem.W.Frag → Bool) (g : Addr → Option Obj) : He.AlX := (He.obsT fa fn [] (seeS n g), ex (seeS n g) && He.tabsB g tf (seeS n g))
theorem saysS_of {n : Nat} {fa : List He.Fa} {fn : List He.DefD} {tf : List He.Defn} {ex : PySem.W.Frag → Bool} {w : World} {h : Heap} (e : obsS n fa fn tf ex h.get? = He.valX fn [] w) : He.SaysX fa fn [] tf ex w h (seeS n h.get?) := by
  have e2 : (ex (seeS n h.get?) && He.tabsB h.get? tf (seeS n h.get?)) = true := congrArg Prod.snd e
  obtain ⟨x1, x2⟩ := Bool.and_eq_true_iff.mp e2
  have one : ∀ p ∈ tf, PySem.W.codeHdIn (seeS n h.get?) (He.cT (seeS n h.get?) p).1 (He.cT (seeS n h.get?) p).2 = true ∧ ∃ o, h.get? (He.cT (seeS n h.get?) p).2 = some o ∧ He.emptyTab o = true := fun p hp => by
    obtain ⟨y1, y2⟩ := Bool.and_eq_true_iff.mp (List.all_eq_true.mp x2 p hp)
    cases q : h.get? (He.cT (seeS n h.get?) p).2 with
    | none => rw [q] at y2; cases y2
    | some o => rw [q] at y2; exact ⟨y1, o, rfl, y2⟩
  exact ⟨congrArg Prod.fst e, x1, fun p hp => (one p hp).1, fun p hp => let ⟨_, _, a, b⟩ := one p hp; He.frT_none a b, fun p hp => let ⟨_, _, a, b⟩ := one p hp; a.trans (congrArg some (He.emptyTab_eq b))⟩
def hookS (n : Nat) (fa : List He.Fa) (fn : List He.DefD) (tf : List He.Defn) (ex : PySem.W.Frag → Bool) : PySem.W.Hook where
  α := He.AlX
  obs := fun s => obsS n fa fn tf ex s.heap.get?
  val := fun w => He.valX fn [] w
  says := fun w h => ∃ K : PySem.W.Frag, K.In h ∧ He.SaysX fa fn [] tf ex w h K
  of := fun _ _ e => ⟨_, He.frT_in, saysS_of e⟩
  keeps := fun _ _ _ ⟨K, hK, c⟩ k => ⟨K, PySem.W.Frag.In.keeps hK k, c.t, c.more, c.hd, c.out, fun p hp => k _ _ (c.empty p hp)⟩
theorem obsS_eq {n : Nat} {fa : List He.Fa} {fn : List He.DefD} {tf : List He.Defn} {ex : PySem.W.Frag → Bool} {g : Addr → Option Obj} {s : Shared} (h : ∀ a, g a = s.heap.get? a) : obsS n fa fn tf ex g = (hookS n fa fn tf ex).obs s := (funext h : g = s.heap.get?) ▸ rfl
end J


set_option Elab.async false
set_option linter.all false
set_option maxRecDepth 100000
set_option maxHeartbeats 4000000
/-! J32: an error with a field, held by a suite: isinstance of it, its field. -/
namespace J
open PySem PySem.Spec L2
/-- as rIsE, the error with a dict -/
def rIsD (K : PySem.W.Frag) (D a dd : Addr) : List V → Hp → VK → Prop := fun xs H Q => ∃ (c : V) (cv : Value) (b : Bool) (fs : List (Str × V)), xs = [.ref a, c] ∧ (∀ u, RelV c u → u = cv) ∧ PySem.W.kitOne K (.ref D) cv = some b ∧ H dd = some (.xd fs) ∧ Q (.bl b) H
theorem call_isD {X : Cx} {a D dd : Addr} {oe : Obj} {pn : List (Addr × Obj)} (C : ExcC X.K D) (hz : Zc (.ref D) (some dd) oe) (hf : ∃ vs, oe.data = .fields vs) : CallR (X.suite a ((a, oe) :: pn)) (.builtin "isinstance") (rIsD X.K D a dd) := by
  intro pins s σ H xs us Q I r ⟨c, cv, b, fs, e0, hcv, e, ed, q⟩
  subst e0
  cases r with
  | @cons _ ua _ ur ra rr =>
  cases rr with
  | @cons _ uc _ us2 rc rs2 =>
  cases rs2
  obtain rfl : ua = Value.ref a := ra
  have ec := hcv _ rc
  subst ec
  obtain ⟨at_, _⟩ := I.pin (a, oe) (List.mem_append_left _ List.mem_cons_self)
  obtain ⟨vs, hv⟩ := hf
  obtain ⟨mA, ⟨od, es, ep, hd, _⟩, _⟩ := I.hok dd _ ed
  have J : PySem.W.InstAt s.heap a oe D (some od) := ⟨at_, hz.1, by unfold PySem.W.notCls; rw [hv] <;> rfl, by rw [hz.2]; exact hd⟩
  obtain ⟨cd, hcd, _⟩ := PySem.W.any_some C.hd
  exact PySem.W.kia_one (PySem.W.kitx_exc (by rw [hcd]; rfl) C.hg C.hk C.hs C.ha C.hn C.ht C.hm) I.kIn J e (fun z => nomatch z) fun tk => ⟨.bl b, H, I.kept (t' := tk) fun _ _ z => z, rfl, q⟩
section
variable {X : Cx} {ca : Ct} {W : WX} {pos : Pos}
theorem je_isD {a D₀ dd : Addr} {oe : Obj} {pn : List (Addr × Obj)} {ea ec : Expr} {ga gc : GE} {p : Pos} {b : Addr → Option Bool} {f : Str} {v : V} (C : ExcC X.K D₀) (hz : Zc (.ref D₀) (some dd) oe) (hf : ∃ vs, oe.data = .fields vs) (hx : (dd, f, v) ∈ ca.x) (hb : ∀ E v, b E = some v → PySem.W.kitOne X.K (.ref D₀) (.ref E) = some v) (hm : X.mg "isinstance" = none)
    (ha : JE (X.suite a ((a, oe) :: pn)) ca W ea ga) (hc : JE (X.suite a ((a, oe) :: pn)) ca W ec gc) (hg : Gl X "isinstance" := by rfl)
    (he : starEach [ea, ec] X.env = (false, eval ea X.env) :: starEach [ec] X.env := by rfl) (he2 : starEach [ec] X.env = (false, eval ec X.env) :: starEach [] X.env := by rfl) (hpl : (backTo pos (starEach [ec] X.env)).any (·.1) = false := by rfl) :
    JE (X.suite a ((a, oe) :: pn)) ca W (.Call (.Name "isinstance" p) [ea, ec] [] pos) (gIsE (fun a' E => if a' = a then b E else none) ga gc) := by
  refine PE.imp (pe_callB (call_isD C hz hf) hg hm bt_isinstance (pa_cons ha (pa_cons hc pa_nil he2) he) (by decide) (by decide) he hpl) fun σ H Q ⟨ι, ρ, s, hr, hms, h⟩ => bindE famE hr hms h fun ι1 s1 x v H1 l1 hr1 hm1 rx h1 => bindE famE hr1 hm1 h1 fun ι2 s2 y u H2 l2 hr2 hm2 ry h2 => ?_
  cases rx with
  | raw a' =>
    cases ry with
    | raw E =>
      simp only at h2
      split at h2
      · rename_i ea
        subst ea
        cases eb : b E with
        | none => rw [eb] at h2; exact h2.elim
        | some k =>
          rw [eb] at h2
          obtain ⟨fs, q1, _, _⟩ := hm2.tab.e _ hx
          exact ⟨.ref E, .ref E, k, fs, rfl, fun u r => r, hb E k eb, q1, h2 ι2 _ H2 .refl hm2 (.bl k)⟩
      · exact h2.elim
    | _ => exact h2.elim
  | _ => exact h2.elim
/-- the field's value as data -/
def vD : V → Option D
  | .int i => some (.int i)
  | .non => some .non
  | _ => none
theorem vD_rep {K : PySem.W.Frag} {ι : Wd} {H : Hp} {v : V} {d : D} (h : vD v = some d) : Rep K ι H d v := by
  cases v <;> simp only [vD] at h <;> cases h
  · exact .non
  · exact .int _
/-- e.f, e the error that the suite holds -/
def gXf (a : Addr) (v : V) (ga : GE) : GE := fun ρ s => (ga ρ s).bind fun x s1 => match x with
  | .raw b => if b = a then R.ofO (vD v) s1 else .no
  | _ => .no
theorem je_xf {a C dd : Addr} {oe : Obj} {pn : List (Addr × Obj)} {e : Expr} {ga : GE} {f : Str} {v : V} (T : XfC X.K C) (hno : PySem.W.findIn X.K (.ref C) f = some none) (hz : Zc (.ref C) (some dd) oe) (hf : ∃ vs, oe.data = .fields vs) (hx : (dd, f, v) ∈ ca.x)
    (he : JE (X.suite a ((a, oe) :: pn)) ca W e ga) (hb : attributeBase e f X.env (eval e X.env) = eval e X.env := by rfl) : JE (X.suite a ((a, oe) :: pn)) ca W (.Attribute e f pos) (gXf a v ga) := by
  refine PE.imp (pe_xf T hno hz hf he hb) fun σ H Q ⟨ι, ρ, s, hr, hms, h⟩ => bindE famE hr hms h fun ι1 s1 x w H1 l1 hr1 hm1 rx h1 => ?_
  cases rx with
  | raw b =>
    simp only at h1
    split at h1
    · rename_i eb
      subst eb
      cases ev : vD v with
      | none => rw [ev] at h1; exact h1.elim
      | some d =>
        rw [ev] at h1
        obtain ⟨fs, q1, _, q3⟩ := hm1.tab.e _ hx
        exact ⟨rfl, rfl, dd, fs, v, rfl, q1, q3, h1 ι1 v H1 .refl hm1 (vD_rep ev)⟩
    · exact h1.elim
  | _ => exact h1.elim
end
end J


set_option Elab.async false
set_option linter.all false
set_option maxRecDepth 100000
set_option maxHeartbeats 4000000
/-! J33: a def that tries what it is handed and tells the class of the error, and its field. -/
namespace J
open PySem PySem.Spec L2
open PyProof.Rows (envOfC)
abbrev Ct.hold (ca : Ct) (fx : Option (Addr × Str × V)) : Ct := { ca with x := fx.toList }
theorem repO_hold {K : PySem.W.Frag} {ca : Ct} {fx : Option (Addr × Str × V)} {ι : Wd} {H : Hp} {a : Addr} {o : IO} : RepO K (ca.hold fx) ι H a o ↔ RepO K ca ι H a o := by cases o <;> exact Iff.rfl
theorem Sim.hold {K : PySem.W.Frag} {ca : Ct} {ι : Wd} {s : S} {H : Hp} (m : Sim K ca ι s H) {fx : Option (Addr × Str × V)} (h : ∀ p, fx = some p → ∃ fs, H p.1 = some (.xd fs) ∧ fs.lookup p.2.1 = some p.2.2) : Sim K (ca.hold fx) ι s H :=
  ⟨m.len, m.nd, m.sub, m.tr, ⟨m.tab.t, fun p hp => by
    have e : fx = some p := by
      cases fx with
      | none => cases hp
      | some q => rw [List.mem_singleton.mp (show p ∈ [q] from hp)]
    obtain ⟨fs, h1, h2⟩ := h p e
    exact ⟨fs, h1, fun z => by
      obtain ⟨o, q1, q2⟩ := m.tr _ z
      rw [h1] at q1
      cases q1
      exact q2, h2⟩⟩, fun n a o h1 h2 => repO_hold.mpr (m.ob n a o h1 h2)⟩
theorem Sim.unhold {K : PySem.W.Frag} {ca : Ct} {ι : Wd} {s : S} {H : Hp} {fx : Option (Addr × Str × V)} (m : Sim K (ca.hold fx) ι s H) (hx : ca.x = []) : Sim K ca ι s H :=
  ⟨m.len, m.nd, m.sub, m.tr, ⟨m.tab.t, fun p hp => by rw [hx] at hp; cases hp⟩, fun n a o h1 h2 => repO_hold.mp (m.ob n a o h1 h2)⟩
/-- what a suite knows of the error that it holds -/
structure HeldJ (K : PySem.W.Frag) (x : List (Addr × Str × V)) (C : Addr) (oe : Obj) (fx : Option (Addr × Str × V)) : Prop where
  z : Zc (.ref C) (fx.map (·.1)) oe
  f : ∃ vs, oe.data = .fields vs
  x : ∀ p, fx = some p → p ∈ x
  c : ExcC K C
  n : ∀ p, fx = some p → PySem.W.findIn K (.ref C) p.2.1 = some none
def gXfH (a : Addr) (fx : Option (Addr × Str × V)) (n : Str) (ga : GE) : GE := match fx with
  | some p => if p.2.1 = n then gXf a p.2.2 ga else fun _ _ => .no
  | none => fun _ _ => .no
section
variable {X : Cx} {ca : Ct} {W : WX} {pos : Pos}
theorem je_no {e : Expr} : JE X ca W e (fun _ _ => .no) := ⟨fun pins s σ H Q I ⟨_, _, _, _, _, h⟩ => h.elim⟩
theorem je_isH {a C : Addr} {oe : Obj} {pn : List (Addr × Obj)} {ea ec : Expr} {ga gc : GE} {p : Pos} {b : Addr → Option Bool} {fx : Option (Addr × Str × V)} (T : HeldJ X.K ca.x C oe fx) (hb : ∀ E v, b E = some v → PySem.W.kitOne X.K (.ref C) (.ref E) = some v) (hm : X.mg "isinstance" = none)
    (ha : JE (X.suite a ((a, oe) :: pn)) ca W ea ga) (hc : JE (X.suite a ((a, oe) :: pn)) ca W ec gc) (hg : Gl X "isinstance" := by rfl)
    (he : starEach [ea, ec] X.env = (false, eval ea X.env) :: starEach [ec] X.env := by rfl) (he2 : starEach [ec] X.env = (false, eval ec X.env) :: starEach [] X.env := by rfl) (hpl : (backTo pos (starEach [ec] X.env)).any (·.1) = false := by rfl) :
    JE (X.suite a ((a, oe) :: pn)) ca W (.Call (.Name "isinstance" p) [ea, ec] [] pos) (gIsE (fun a' E => if a' = a then b E else none) ga gc) := by
  cases fx with
  | none => exact je_isE T.c T.z T.f hb hm ha hc hg he he2 hpl
  | some q => exact je_isD T.c T.z T.f (T.x q rfl) hb hm ha hc hg he he2 hpl
theorem je_xfH {a C : Addr} {oe : Obj} {pn : List (Addr × Obj)} {e : Expr} {ga : GE} {n : Str} {fx : Option (Addr × Str × V)} (T : HeldJ X.K ca.x C oe fx) (he : JE (X.suite a ((a, oe) :: pn)) ca W e ga) (hb : attributeBase e n X.env (eval e X.env) = eval e X.env := by rfl) :
    JE (X.suite a ((a, oe) :: pn)) ca W (.Attribute e n pos) (gXfH a fx n ga) := by
  cases fx with
  | none => exact je_no
  | some q =>
    unfold gXfH
    simp only
    split
    · rename_i z
      subst z
      exact je_xf ⟨T.c.hg, T.c.hk, T.c.hs, T.c.hd⟩ (T.n q rfl) T.z T.f (T.x q rfl) he hb
    · exact je_no
end
/-- the value of a field that is told on -/
def dV : D → Option V
  | .int i => some (.int i)
  | .non => some .non
  | _ => none
theorem dV_rep {K : PySem.W.Frag} {ι : Wd} {H : Hp} {d : D} {v u : V} (r : Rep K ι H d v) (h : dV d = some u) : v = u := by
  cases r <;> simp only [dV] at h <;> cases h <;> rfl
theorem gives_wrongH {X : Cx} {ca : Ct} {x a en ec q : Str} {N : List Str} {j : Nat} {zv : V} {ze : Expr} {sg : Scope} {g C : Addr} {cdg : Value} {sst : Stmt} {ssts : List Stmt} {p1 p2 p3 p4 p5 p6 p8 : Pos} {cls : List Nat} {fld : Nat → Option Str} {hd : Ex → S → R D} {gs : Nat → Option (Addr × Str × V) → Addr → GS}
    (hnd : N.Nodup) (hj : N[j]? = some en) (hen : sg.names.lookup en = some .local) (hge : sg.names.lookup ec = some .globalImplicit) (hme : X.mg ec = some (.ref C)) (hde : (ec == ("__debug__" : Str)) = false) (hx0 : ca.x = []) (h0 : ∀ f : Addr, (L2.start N [V.ref f])[0]? = some (some (V.ref f)))
    (hze : ∀ (s : Shared) (H : Hp), PE (cxOf C8.CX0 X.prog X.w X.K X.mg X.base N x sg g cdg X.A X.stack s H C8.E0).nox ze (tC zv))
    (hx : ∀ i ∈ cls, PySem.W.exmOne X.K (.ref (ca.c i)) (.ref C) = some true) (hc : ∀ i ∈ cls, ExcC X.K (ca.c i)) (hf : ∀ i ∈ cls, ∀ n, fld i = some n → PySem.W.findIn X.K (.ref (ca.c i)) n = some none)
    (hs : ∀ (s : Shared) (H : Hp), ∀ i ∈ cls, ∀ (a' : Addr) (oe : Obj) (pn : List (Addr × Obj)) (fx : Option (Addr × Str × V)), HeldJ X.K (ca.hold fx).x (ca.c i) oe fx →
      JSs ((cxOf C8.CX0 X.prog X.w X.K X.mg X.base N x sg g cdg X.A X.stack s H C8.E0).nox.suite a' ((a', oe) :: pn)) (ca.hold fx) W0 (sst :: ssts) (gs i fx a'))
    (hg : ∀ e s d s2, hd e s = .ok d s2 → e.cls ∈ cls ∧ ((e.arg = none ∧ ∀ a', gs e.cls none a' ((List.replicate N.length none).set j (some (.raw a'))) s = .ok (.rt d) s2) ∨
      ∃ f y v, e.arg = some (f, y) ∧ fld e.cls = some f ∧ dV y = some v ∧ ∀ a' dd, gs e.cls (some (dd, f, v)) a' ((List.replicate N.length none).set j (some (.raw a'))) s = .ok (.rt d) s2)) :
    LamX.GivesTo X N x sg g cdg [.Try [.Expr (.Call (.Name a p1) [] [] p2) p3] [.ExceptHandler (some (.Name ec p4)) (some en) (sst :: ssts) p5] [] [] p6, .Return (some ze) p8] a q (TTw X.K ca zv hd) := by
  intro f c' s H Q tl act hcc h
  have hgl : Gl (cxOf C8.CX0 X.prog X.w X.K X.mg X.base N x sg g cdg X.A X.stack s H C8.E0).nox ec := hge
  refine ⟨_, pss_cons (ps_try_as (X := (cxOf C8.CX0 X.prog X.w X.K X.mg X.base N x sg g cdg X.A X.stack s H C8.E0).nox) (c := .ref C) (i := j) (Wout := fun _ _ _ _ => False)
      (tb := fun W D σ H => ∃ Ech : XK, (∀ cls d σ' H', Ech cls d H' → W cls d σ' H') ∧ σ[0]? = some (some (.ref f)) ∧ H c' = some (LamX.CodeO c' q) ∧ tl Ech H (fun _ H' => D.nx σ H'))
      (ts := fun a' cv d D σ H => ∃ i ∈ cls, cv = .ref (ca.c i) ∧ ∃ fx : Option (Addr × Str × V), d = fx.map (·.1) ∧ (∀ p, fx = some p → fld i = some p.2.1) ∧ (σ.length = N.length → tS X.K (ca.hold fx) W0 (gs i fx a') D σ H))
      rfl rfl hnd hj hen ⟨hgl, hde, .inl hme⟩ LamX.takes0 (fun W pn xe tk _ => ?_) (fun a' oe cv d pn hz hfv => ?_)) (pss_one (ps_ret (hze s H))), ?_⟩
  · refine ⟨fun pins s' σ H' D I ⟨Ech, hW, h1, h2, h3⟩ => (pss_one (ps_expr (pos := p3) (act W pn xe Ech p1 p2 tk (fun cv d σ' H2 z => hW cv d σ' H2 z)))).run pins s' σ H' D I ⟨h1, h2, h3⟩⟩
  · refine ⟨fun pins s' σ H' D I ⟨i, hi, e1, fx, e2, e3, h'⟩ => ?_⟩
    subst e1 e2
    exact (hs s H i hi a' oe pn fx ⟨hz, hfv, fun p hp => by rw [hp]; exact List.mem_singleton_self p, hc i hi, fun p hp => hf i hi _ (e3 p hp)⟩).run pins s' σ H' D I (h' I.len)
  · refine ⟨fun cv d H' => ∃ e ι s, Sim X.K ca ι s H' ∧ RepX X.K ca ι H' e cv d ∧ PostE X.K ca ι H' (match hd e s with | .ok d s2 => .ok d s2 | _ => .no) Q (fun _ _ _ => False), fun cv d σ' H' ⟨e, ι, s', m, rx, p⟩ => ?_, h0 f, hcc, h⟩
    cases eh : hd e s' with
    | err _ _ => rw [eh] at p; exact p.elim
    | no => rw [eh] at p; exact p.elim
    | ok d' s2 =>
      rw [eh] at p
      obtain ⟨k1, k2⟩ := hg e s' d' s2 eh
      obtain ⟨r1, r2, r3⟩ := rx
      have fin : ∀ (fx : Option (Addr × Str × V)) (a' : Addr) (σ : L2.St) (D : Ends), D.rt = Q → (∀ p, fx = some p → ∃ fs, H' p.1 = some (.xd fs) ∧ fs.lookup p.2.1 = some p.2.2) → gs e.cls fx a' ((List.replicate N.length none).set j (some (.raw a'))) s' = .ok (.rt d') s2 → (σ.set j (some (V.ref a'))).length = N.length →
          tS X.K (ca.hold fx) W0 (gs e.cls fx a') D (σ.set j (some (V.ref a'))) H' := fun fx a' σ D hD hfx hgs hl => by
        refine ⟨ι, (List.replicate N.length none).set j (some (.raw a')), s', ⟨by simpa using hl.symm, fun i d hi => ?_⟩, m.hold hfx, ?_⟩
        · by_cases hij : j = i
          · subst hij
            have hlt : j < N.length := (List.getElem?_eq_some_iff.mp hj).1
            rw [List.getElem?_set_self (by simpa using hlt)] at hi
            cases hi
            rw [List.length_set] at hl
            exact ⟨_, List.getElem?_set_self (by omega), .raw a'⟩
          · rw [List.getElem?_set_ne hij, List.getElem?_replicate] at hi
            split at hi <;> cases hi
        · rw [hgs]
          intro ι' v H2 l m2 r
          rw [hD]
          exact p ι' v H2 l (m2.unhold hx0) r
      refine ⟨true, by rw [r1]; exact hx _ k1, fun _ a' _ => ⟨e.cls, k1, r1, ?_⟩, fun z => by cases z⟩
      rcases k2 with ⟨ea, hgs⟩ | ⟨f2, y, v, ea, ef, ev, hgs⟩
      · exact ⟨none, r2 ea, fun p hp => (by cases hp), fun hl => fin none a' _ _ rfl (fun p hp => by cases hp) (hgs a') hl⟩
      · obtain ⟨dd, fs, u, ed, hH, hl, ry⟩ := r3 f2 y ea
        have eu := dV_rep ry ev
        subst eu
        exact ⟨some (dd, f2, u), ed, fun p hp => (by cases hp; exact ef), fun hl2 => fin _ a' _ _ rfl (fun p hp => by cases hp; exact ⟨fs, hH, hl⟩) (hgs a' dd) hl2⟩
end J
theorem J.vD_dV {d : J.D} {v : L2.V} (h : J.dV d = some v) : J.vD v = some d := by
  cases d <;> simp only [J.dV] at h <;> cases h <;> rfl


set_option Elab.async false
set_option linter.all false
set_option maxRecDepth 100000
set_option maxHeartbeats 4000000
/-! J34: a lambda as data; a lambda with a default. -/
namespace J
open PySem PySem.Spec L2
open PyProof.Rows (envOfC)
theorem lamO_ok {P : Program} {w : World} {H : Hp} {h : Heap} {a : Addr} {fd : FuncData} (e : h.get? a = some ({ cls := .type "function", data := .func fd } : Obj)) : ObjOk P w H h a (LamO a fd) := ⟨e, ⟨_, e⟩, fun _ _ z k => k _ z⟩
/-- the defaults of a lambda as they lie -/
def DflH (H : Hp) (dfl : List V) (dV : Value) : Prop := (dfl = [] ∧ dV = .none) ∨ ∃ T, dV = .ref T ∧ H T = some (.tup dfl)
theorem DflH.ext {H H' : Hp} {dfl : List V} {dV : Value} (h : DflH H dfl dV) (e : LamX.ExtN H H') : DflH H' dfl dV := h.imp id fun ⟨T, a, b⟩ => ⟨T, a, e _ _ b fun ps z => by cases z⟩
abbrev lamQ (X : Cx) : Str := X.env.qual ++ "<lambda>"
abbrev lamC (X : Cx) (scope : Scope) : List (Str × Addr) := cloFrom X.env.cells scope.names []
section
variable {X : Cx} {pins : List (Addr × Obj)} {σ : L2.St} {H : Hp} {s : Shared}
theorem lam_tail {T : List (Addr × Str)} {c P : Addr} {params : Arguments} {body : Expr} {scope : Scope} {pos : Pos} {fl : Nat} {E : Value → Shared → Prop} {Q : Value → Shared → Prop} {dfl : List V} {dV : Value} (I : Inv X pins σ H s) (TB : LamX.TabB X.base X.mg c P) (hcode : X.env.code = .ref c)
    (hm : (P, lamQ X) ∈ T) (hu : ∀ p ∈ T, p.1 = P → p.2 = lamQ X) (hT : LamX.Tabs T H) (hfree : ∀ y ∈ scope.names, y.2 = .free → ∃ c, X.env.cells.lookup y.1 = some c) (hd : DflH H dfl dV)
    (h : ∀ (f c' : Addr) (pm ctv doc : Value) (H1 : Hp) (s' : Shared), LamX.ExtN H H1 → LamX.Tabs T H1 → H1 f = none → H1 c' = some (LamX.CodeO c' (lamQ X)) → DflH H1 dfl dV →
      Inv X pins σ (upd H1 f (LamO f (LamD.fd ⟨params, body, scope, lamQ X, lamC X scope, dfl⟩ pm (.ref c') ctv dV doc))) s' → Q (.ref f) s') :
    wpAny (model X.prog X.w) X.A (makeTail "<lambda>" (lamQ X) params (.expr body) scope X.env dV .none none pos fl) Q E s := by
  obtain ⟨ps, hP, ht, ha⟩ := hT _ hm
  have bP : s.heap.BuiltinsAt X.mg P := TB.bm.keeps I.bk
  have hP' : s.heap.get? P = some { cls := .none, data := .fields ps } := I.hok P _ hP
  cases hc : codeAmong pos ps.toList with
  | none =>
    refine PySem.W.kdv_makeTail (mg := X.mg) (c := c) (P := P) (ps := ps) (closure_ok hfree) I.ok.glob (I.mod.glob.keeps I.bk) hcode (TB.code.keeps I.bk) hP' ht hc TB.gP bP fun c' ctv doc h' tk hx hge hlt ⟨c2, oc, vs, t, e2, hoc, hdt, hv⟩ htb => ?_
    cases e2
    have nC : H c' = none := I.hok.fresh hge
    have I1 := LamX.inv_table (t' := tk) (q := lamQ X) (more := #[rawInt pos.line, rawInt pos.col, .ref c']) (h' := h') I hP (fun b o hb e => hx b o hb e) htb hge ⟨oc, vs, t, hoc, hdt, hv⟩
    have hE : LamX.ExtN H (upd (upd H P (.tbl (ps ++ #[rawInt pos.line, rawInt pos.col, .ref c']))) c' (LamX.CodeO c' (lamQ X))) := fun b o e n => by
      have nP : b ≠ P := fun z => by rw [z, hP] at e; exact n ps (Option.some.inj e).symm
      rw [upd_ne (ne_of_none e nC), upd_ne nP]
      exact e
    have eL : (ps ++ #[rawInt pos.line, rawInt pos.col, .ref c']).toList = ps.toList ++ [rawInt pos.line, rawInt pos.col, .ref c'] := by simp
    have T1 : LamX.Tabs T (upd (upd H P (.tbl (ps ++ #[rawInt pos.line, rawInt pos.col, .ref c']))) c' (LamX.CodeO c' (lamQ X))) := fun p hp => by
      obtain ⟨qs, a1, a2, a3⟩ := hT p hp
      by_cases hb : p.1 = P
      · refine ⟨ps ++ #[rawInt pos.line, rawInt pos.col, .ref c'], by rw [hb, upd_ne (ne_of_none hP nC), upd_same], by rw [eL]; exact PySem.TriplesOk_snoc _ _ _ _ ht, fun p' cv hcv => ?_⟩
        rw [hu p hp hb]
        rw [eL] at hcv
        rcases LamX.among_app _ ht hcv with z | z
        · obtain ⟨c0, e1, e2⟩ := ha p' cv z
          exact ⟨c0, e1, hE _ _ e2 LamX.codeO_ne⟩
        · exact ⟨c', z, upd_same⟩
      · refine ⟨qs, by rw [upd_ne (ne_of_none a1 nC), upd_ne hb]; exact a1, a2, fun p' cv hcv => ?_⟩
        obtain ⟨c0, e1, e2⟩ := a3 p' cv hcv
        exact ⟨c0, e1, hE _ _ e2 LamX.codeO_ne⟩
    have I2 := I1.laid (t' := tk) (a := h'.objs.size) (o := LamO h'.objs.size (LamD.fd ⟨params, body, scope, lamQ X, lamC X scope, dfl⟩ ((X.mg "__name__").getD .none) (.ref c') ctv dV doc)) (h' := h'.push _) (fun b o e => Heap.get?_push_of_some _ e) (Nat.le_refl _) (lamO_ok (Heap.get?_push_size _ rfl))
    exact h _ c' _ ctv doc _ _ hE T1 (I1.hok.fresh (Nat.le_refl _)) upd_same (hd.ext hE) I2
  | some cv =>
    obtain ⟨c', e, hco⟩ := ha pos cv hc
    subst e
    refine PySem.W.kdv_makeTailHit (mg := X.mg) (c := c) (P := P) (ps := ps) (closure_ok hfree) I.ok.glob (I.mod.glob.keeps I.bk) hcode (TB.code.keeps I.bk) hP' ht hc bP fun ctv doc h' tk hx hsz => ?_
    have I2 := I.laid (t' := tk) (a := h'.objs.size) (o := LamO h'.objs.size (LamD.fd ⟨params, body, scope, lamQ X, lamC X scope, dfl⟩ ((X.mg "__name__").getD .none) (.ref c') ctv dV doc)) (h' := h'.push _) (fun b o e => Heap.get?_push_of_some _ (hx b o e)) hsz (lamO_ok (Heap.get?_push_size _ rfl))
    exact h _ c' _ ctv doc _ _ (.refl H) hT (I.hok.fresh hsz) hco hd I2
end
/-- a lambda made -/
def tLamD (X : Cx) (T : List (Addr × Str)) (params : Arguments) (body : Expr) (scope : Scope) (dfl : List V) : TE := fun σ H Q => LamX.Tabs T H ∧ ∀ (f c' : Addr) (pm ctv dV doc : Value) (H1 : Hp), LamX.ExtN H H1 → LamX.Tabs T H1 → H1 f = none → H1 c' = some (LamX.CodeO c' (lamQ X)) → DflH H1 dfl dV →
  Q (.ref f) (upd H1 f (LamO f (LamD.fd ⟨params, body, scope, lamQ X, lamC X scope, dfl⟩ pm (.ref c') ctv dV doc)))
theorem pe_lam0 {X : Cx} {T : List (Addr × Str)} {c P : Addr} {params : Arguments} {body : Expr} {scope : Scope} {pos : Pos} (TB : LamX.TabB X.base X.mg c P) (hcode : X.env.code = .ref c) (hm : (P, lamQ X) ∈ T) (hu : ∀ p ∈ T, p.1 = P → p.2 = lamQ X) (hfree : X.Ok → ∀ y ∈ scope.names, y.2 = .free → ∃ c, X.env.cells.lookup y.1 = some c)
    (hdef : defaultsOf params X.env = ([], [])) : PE X (.Lambda params body scope pos) (tLamD X T params body scope []) := by
  refine ⟨fun pins s σ H Q I ⟨hT, h⟩ => PySem.W.kla_eval hdef ?_⟩
  rw [makeFunction_eq]
  simp only [List.zip_nil_right, List.filterMap_nil, List.isEmpty_nil, if_true, pure_bind]
  exact lam_tail I TB hcode hm hu hT (hfree I.ok) (.inl ⟨rfl, rfl⟩) fun f c' pm ctv doc H1 s' a1 a2 a3 a4 a5 a6 => ⟨.ref f, _, a6, rfl, h f c' pm ctv .none doc H1 a1 a2 a3 a4 a5⟩
theorem pe_lam1 {X : Cx} {T : List (Addr × Str)} {c P : Addr} {params : Arguments} {body : Expr} {scope : Scope} {pos p : Pos} {n : Int} {j : Nat} (TB : LamX.TabB X.base X.mg c P) (hcode : X.env.code = .ref c) (hm : (P, lamQ X) ∈ T) (hu : ∀ p ∈ T, p.1 = P → p.2 = lamQ X) (hfree : X.Ok → ∀ y ∈ scope.names, y.2 = .free → ∃ c, X.env.cells.lookup y.1 = some c)
    (hdef : params.defaults = [.Constant (.int n) j p]) (hk : params.kw_defaults = []) : PE X (.Lambda params body scope pos) (tLamD X T params body scope [.int n]) := by
  refine ⟨fun pins s σ H Q I ⟨hT, h⟩ => PySem.W.kdv_lam (by rw [hdef]; rfl) hk ?_⟩
  rw [hdef]
  refine PySem.W.kdv_all1 (thn ((pe_int (X := X) (i := n) (j := j) (pos := p)).run pins s σ H (fun v H' => v = .int n ∧ H' = H) I ⟨rfl, rfl⟩) fun u s1 ⟨v, H1, I1, r1, e1, e2⟩ => PySem.W.kdv_all0 ?_)
  subst e1
  rw [e2] at I1
  rw [makeFunction_eq]
  simp only [List.zip_nil_right, List.filterMap_nil, List.isEmpty_nil, List.isEmpty_cons, Bool.false_eq_true, if_false, if_true, pure_bind]
  refine wpAny_bind (wpAny_newTextTuple ?_)
  have I2 := I1.laid (t' := s1.toks) (a := s1.heap.objs.size) (o := .tup [.int n]) (h' := s1.heap.push _) (fun b o e => Heap.get?_push_of_some _ e) (Nat.le_refl _) ⟨by show 1 ≤ sizeLine; decide, [u], .cons r1 .nil, ⟨({ cls := .type "tuple", data := .seq #[u] } : Obj), Heap.get?_push_size _ rfl, rfl, _, rfl⟩⟩
  have ht : H s1.heap.objs.size = none := I1.hok.fresh (Nat.le_refl _)
  have hE : LamX.ExtN H (upd H s1.heap.objs.size (.tup [.int n])) := .of fun b o e => by rw [upd_ne (ne_of_none e ht)]; exact e
  exact lam_tail I2 TB hcode hm hu (hT.ext fun b o e => by rw [upd_ne (ne_of_none e ht)]; exact e) (hfree I.ok) (.inr ⟨_, rfl, upd_same⟩) fun f c' pm ctv doc H1 s' a1 a2 a3 a4 a5 a6 => ⟨.ref f, _, a6, rfl, h f c' pm ctv _ doc H1 (hE.trans a1) a2 a3 a4 a5⟩

section
variable {X : Cx} {ca : Ct} {W : WX}
def gLam (k : Nat) : GE := fun _ s => .ok (.obj s.length) (s ++ [.lam k])
theorem je_lam {params : Arguments} {body : Expr} {scope : Scope} {dfl : List V} {e : Expr} (k : Nat) (hp : PE X e (tLamD X ca.T params body scope dfl)) (hk : ca.lam k = some ⟨params, body, scope, lamQ X, lamC X scope, dfl⟩) : JE X ca W e (gLam k) := PE.imp hp fun σ H Q ⟨ι, ρ, s, hr, hm, h⟩ => ⟨hm.tab.tabs, fun f c' pm ctv dV doc H1 eN T1 hf hc hd => by
  obtain ⟨l1, m1⟩ := hm.extN eN T1
  have nf : c' ≠ f := ne_of_none hc hf
  obtain ⟨l2, m2⟩ := m1.alloc (p := f) (o := LamO f (LamD.fd ⟨params, body, scope, lamQ X, lamC X scope, dfl⟩ pm (.ref c') ctv dV doc)) (u := .lam k) hf LamO_mut fun l => by
    simp only [RepO, hk]
    refine ⟨c', pm, ctv, dV, doc, upd_same, ⟨by rw [upd_ne nf]; exact hc, fun z => ?_⟩, hd.imp id fun ⟨T, a, b⟩ => ⟨T, a, by rw [upd_ne (ne_of_none b hf)]; exact b⟩⟩
    rcases List.mem_cons.mp z with z | z
    · exact nf z
    · obtain ⟨o, q1, q2⟩ := m1.tr _ z
      rw [hc] at q1
      cases q1
      exact q2.noCode rfl
  exact h _ _ _ (l1.trans l2) m2 (.obj (by simp [← m1.len]))⟩
end
end J


set_option Elab.async false
set_option linter.all false
set_option maxRecDepth 100000
set_option maxHeartbeats 4000000
/-! J35: a lambda that stands as data is handed to a def that calls it. -/
namespace J
open PySem PySem.Spec L2
open PyProof.Rows (envOfC)
/-- the lambda's names: no name of the maker is its own -/
structure LamS1 (sc scope : Scope) (N : List Str) : Prop where
  kind : scope.kind = .function
  co : scope.isCoroutine = false
  gen : scope.isGenerator = false
  nc : ∀ y ∈ scope.names, y.2 ≠ .cell
  own : ∀ y ∈ N, scope.names.lookup y ≠ some .local
  free : ∀ y ∈ scope.names, y.2 = .free → sc.names.lookup y.1 = some .cell ∨ sc.names.lookup y.1 = some .free
def lamS1B (sc scope : Scope) (N : List Str) : Bool :=
  decide (scope.kind = .function) && (!scope.isCoroutine && (!scope.isGenerator && ((scope.names.all fun y => !decide (y.2 = .cell) && (!decide (y.2 = .free) || (decide (sc.names.lookup y.1 = some .cell) || decide (sc.names.lookup y.1 = some .free)))) && N.all fun y => !decide (scope.names.lookup y = some .local))))
theorem lamS1_by {sc scope : Scope} {N : List Str} (h : lamS1B sc scope N = true) : LamS1 sc scope N := by
  simp only [lamS1B, Bool.and_eq_true, Bool.or_eq_true, Bool.not_eq_true', decide_eq_true_eq, decide_eq_false_iff_not, List.all_eq_true] at h
  obtain ⟨h1, h2, h3, h4, h5⟩ := h
  exact ⟨h1, h2, h3, fun y hy => (h4 y hy).1, fun y hy => h5 y hy, fun y hy e => (h4 y hy).2.elim (fun z => absurd e z) id⟩
section
variable {X : Cx} {pins : List (Addr × Obj)} {σ : L2.St} {H HZ : Hp} {s s1 : Shared}
theorem LamS1.hasC' {scope : Scope} (L : LamS1 X.env.scope scope X.N) (ok : X.Ok) : ∀ y ∈ scope.names, y.2 = .free → ∃ c, X.env.cells.lookup y.1 = some c := fun y hy e => (L.free y hy e).elim (fun k => ok.has _ (.inl k)) fun k => ok.has _ (.inr k)
theorem LamS1.hasC {scope : Scope} (L : LamS1 X.env.scope scope X.N) (ok : X.Ok) (y : Str × NameKind) (hy : y ∈ scope.names) (e : y.2 = .free) : ∃ c, X.env.cells.lookup y.1 = some c := (L.free y hy e).elim (fun k => ok.has _ (.inl k)) fun k => ok.has _ (.inr k)
theorem lam_start3 {A : Around} {outer : List PySem.Env} {E : XK} {scope : Scope} {f c' : Addr} {h₁ : Heap} {tk : Nat} {mL : Str → Option Value} (I : Inv X pins σ H s) (L : LamS1 X.env.scope scope X.N) (e0 : Env0 X.prog X.w X.K X.mg X.base A outer s1 HZ) (hd : A.handled = none)
    (un : Un (frs X.stack) [] H HZ s.heap s1.heap) (hns : h₁.Ns s1.heap.objs.size mL) (kp : ∀ b o, s1.heap.get? b = some o → h₁.get? b = some o) : Inv (LamX.lamCx X A outer s1 HZ E scope f c') [] σ HZ { s1 with heap := h₁, toks := tk } := by
  have back : ∀ {y : Str} {b : Addr}, (lamC X scope).lookup y = some b → X.env.cells.lookup y = some b := fun {y b} e => by
    rcases cloFrom_mem (PySem.mem_of_lookup e) with z | ⟨z1, z2⟩
    · exact absurd z List.not_mem_nil
    · obtain ⟨b1, hb⟩ := L.hasC I.ok _ z1 rfl
      have hb2 : X.env.cells.lookup y = some b1 := hb
      have : b = b1 := by rw [z2, hb2] <;> rfl
      rw [this, hb2]
  have there : ∀ {y : Str}, scope.names.lookup y = some .free → ∃ b, (lamC X scope).lookup y = some b := fun {y} e => mem_lookup (cloFrom_has (cells := X.env.cells) (acc := []) (PySem.mem_of_lookup e))
  have stays : ∀ {b : Addr} {v : Option Value}, H b = none → s.heap.IsCell b v → h₁.IsCell b v := fun {b v} n ⟨o, ho, hv⟩ => let ⟨sl, q⟩ := un.any ho n (by simp); ⟨_, kp _ _ q, hv⟩
  have none_ex : ∀ b : Addr, b ∉ (LamX.lamCx X A outer s1 HZ E scope f c').ex := fun b => List.not_mem_nil
  have nocell : ∀ {y : Str}, scope.names.lookup y ≠ some .cell := fun {y} e => L.nc _ (PySem.mem_of_lookup e) rfl
  have ok : (LamX.lamCx X A outer s1 HZ E scope f c').Ok := ⟨e0.mod, L.kind, rfl, rfl, Nat.le_refl _, fun y z c g1 g2 => I.ok.inj y z c (back g1) (back g2), fun y hy => hy.elim (fun q => absurd q nocell) there, fun y c z _ => (nomatch z), fun _ => hd, Around.frames_deeper e0.frames, .inr ⟨rfl, rfl⟩,
    fun b z => absurd z (none_ex b), e0.bs, e0.bsz, fun b _ _ => none_ex b, fun b z => absurd z (none_ex b), e0.funs, e0.frf⟩
  refine ⟨ok, rfl, e0.bare, Un.kept kp, ⟨_, hns, fun i y v g1 g2 g3 => ?_⟩, fun y c e => ?_, e0.hok.fresh (Nat.le_refl _), fun y c e => ?_, fun q hq => absurd hq List.not_mem_nil, e0.hok.kept kp, I.len⟩
  · have g3' : Vis scope y := g3
    have fr : scope.names.lookup y = some .free := g3'.elim (fun q => absurd q (L.own y (List.mem_of_getElem? (show X.N[i]? = some y from g1)))) fun q => q.elim (fun q => absurd q nocell) id
    have kf := L.free _ (PySem.mem_of_lookup fr) rfl
    obtain ⟨m, hn, hl⟩ := I.loc
    obtain ⟨u, ru, lu⟩ := hl i y v g1 g2 (.inr kf)
    obtain ⟨b, hb⟩ := there fr
    have hb2 := back hb
    refine ⟨u, ru, .inr ⟨.inr fr, b, hb, ?_⟩⟩
    rcases lu with ⟨k, _⟩ | ⟨_, b2, hb3, ic⟩
    · have k' : X.env.scope.names.lookup y = some .local := k
      rcases kf with q | q <;> rw [show X.env.scope.names.lookup y = _ from q] at k' <;> cases k'
    · rw [hb2] at hb3
      cases hb3
      exact stays (I.freeC y _ hb2) ic
  · obtain ⟨w', ic⟩ := I.cell y c (back e)
    exact ⟨w', stays (I.freeC y c (back e)) ic⟩
  · obtain ⟨v, o, ho, _⟩ := I.cell y c (back e)
    exact un.free c o ho (I.freeC y c (back e)) List.not_mem_nil
end

/-- its defaults bind -/
def DflB (d : LamD) : Prop := ∀ (s : Shared) (pm cv ctv dV doc : Value), ((d.dfl = [] ∧ dV = .none) ∨ ∃ T o its n, dV = .ref T ∧ s.heap.get? T = some o ∧ o.data = .seq its n ∧ Vals d.dfl its.toList) → ∃ binds, BindsTo s (d.fd pm cv ctv dV doc) ⟨[], []⟩ binds ∧ ∀ y ∈ binds, d.scope.names.lookup y.1 = some .local
theorem dflB0 {d : LamD} (h0 : d.dfl = []) (hp : d.params = ⟨[], [], none, [], [], none, []⟩) : DflB d := fun s pm cv ctv dV doc h => by
  obtain ⟨params, body, scope, q, cl, dfl⟩ := d
  cases h0
  cases hp
  rcases h with ⟨_, rfl⟩ | ⟨T, o, its, n, rfl, h1, h2, h3⟩
  · exact ⟨[], .of_eq rfl, fun y hy => nomatch hy⟩
  · obtain ⟨its⟩ := its
    cases h3
    exact ⟨[], .of_defaults rfl h1 h2 rfl rfl, fun y hy => nomatch hy⟩
theorem dflB1 {d : LamD} {v : V} {y : Str} (h0 : d.dfl = [v]) (hk : ∀ (pm cv ctv doc u : Value) (T : Addr), ∃ k, bindArgs (d.fd pm cv ctv (.ref T) doc) ⟨[], []⟩ = seqItems? (.ref T) >>= k ∧ k (some #[u]) = pure [(y, u)]) (hl : d.scope.names.lookup y = some .local) : DflB d := fun s pm cv ctv dV doc h => by
  rw [h0] at h
  rcases h with ⟨z, _⟩ | ⟨T, o, its, n, rfl, h1, h2, h3⟩
  · cases z
  · obtain ⟨its⟩ := its
    cases h3 with
    | @cons _ u _ us r t =>
      cases t
      obtain ⟨k, k1, k2⟩ := hk pm cv ctv doc u T
      refine ⟨[(y, u)], .of_defaults rfl h1 h2 k1 k2, fun z hz => ?_⟩
      rw [List.mem_singleton.mp hz]
      exact hl
/-- a lambda of the def that runs -/
structure LamOk (X : Cx) (d : LamD) : Prop where
  q : d.q = lamQ X
  cl : d.cl = lamC X d.scope
  L : LamS1 X.env.scope d.scope X.N
  b : DflB d
/-- what of a lambda stands -/
def LamF (H : Hp) (f c' : Addr) (d : LamD) : Prop := ∃ (pm ctv dV doc : Value), H f = some (LamO f (d.fd pm (.ref c') ctv dV doc)) ∧ DflH H d.dfl dV
section
variable {X : Cx} {pins : List (Addr × Obj)} {σ : L2.St} {H : Hp} {s : Shared}
theorem pe_actL {CXg : CXT} {Eg : XK} {Ng : List Str} {qg : Str} {sg : Scope} {g f c' : Addr} {cdg : Value} {d : LamD} {k : Nat} {a : Str} {pn : List (Addr × Obj)} {xe : Value → Shared → Prop} {W : WX} {E : XK} {tb : TE} {p1 p2 : Pos} (I : Inv X pins σ H s) (D : LamOk X d)
    (tk : Takes ((cxOf CXg X.prog X.w X.K X.mg X.base Ng qg sg g cdg X.A X.stack s H Eg).tr pn xe) W) (hW : ∀ cls d σ' H', E cls d H' → W cls d σ' H') (hr : Room (k + 1) (X.A.deeper (envOfC qg sg s.heap.objs.size g cdg)))
    (hbody : ∀ (A : Around) (outer : List PySem.Env) (s : Shared) (H : Hp), Room k (A.deeper (LamX.lamEnv X d.scope s.heap.objs.size f c')) → PE (LamX.lamCx X A outer s H E d.scope f c') d.body tb)
    (hN : Ng[0]? = some a) (hv : Vis sg a) (hd : (a == ("__debug__" : Str)) = false := by decide) (hcd : (a == ("__classdict__" : Str)) = false := by decide) :
    PE ((cxOf CXg X.prog X.w X.K X.mg X.base Ng qg sg g cdg X.A X.stack s H Eg).tr pn xe) (.Call (.Name a p1) [] [] p2) (fun σZ HZ Q => σZ[0]? = some (some (.ref f)) ∧ HZ c' = some (LamX.CodeO c' (lamQ X)) ∧ (LamF HZ f c' d ∧ tb σ HZ Q)) := by
  refine ⟨fun pinsZ sZ σZ HZ Q IZ ⟨hs, hc, ⟨pm, ctv, dV, doc, hf, hdf⟩, ht⟩ => ?_⟩
  refine wpAny_Call_Name_kw (thn ((pe_var (pos := p1) (i := 0) hN hv hd hcd).run pinsZ sZ σZ HZ (fun v H1 => v = .ref f ∧ H1 = HZ) IZ ⟨.ref f, hs, rfl, rfl⟩) fun u s1 ⟨v, H1, I1, r1, ev, eH⟩ => ?_)
  subst ev
  rw [eH] at I1
  obtain rfl : u = Value.ref f := r1
  have of1 : s1.heap.get? f = some ({ cls := .type "function", data := .func (d.fd pm (.ref c') ctv dV doc) } : Obj) := (I1.hok f _ hf).1
  refine PySem.W.callWith_F0 ⟨_, _, _, _, of1⟩ ?_
  have un : Un (frs X.stack) [] H HZ s.heap s1.heap := I1.base
  obtain ⟨⟨oc, vs, t, hoc, hdc, hvc⟩, _, _⟩ := I1.hok c' _ hc
  obtain ⟨binds, hb1, hb2⟩ := D.b s1 pm (.ref c') ctv dV doc (hdf.imp id fun ⟨T, e, hT⟩ => by
    obtain ⟨_, its, rv, o, ho, _, n, hn⟩ := I1.hok T _ hT
    exact ⟨T, o, its.toArray, n, e, ho, hn, by simpa using rv⟩)
  have rc : codeAny (model X.prog X.w) (X.A.deeper (envOfC qg sg s.heap.objs.size g cdg)) (.call (.ref f) ⟨[], []⟩) (CR (L2.CX X.prog X.w) (envOfC qg sg s.heap.objs.size g cdg :: X.stack) X.prog X.w HZ s1 Q E) s1 := by
    refine PySem.W.kla_callFunE hr.depth of1 rfl D.L.co D.L.gen rfl ⟨c', oc, vs, t, rfl, hoc, hdc, by rw [hvc]; show _ = some (Value.str d.q t); rw [D.q]⟩ (hb1 _ _ _ _ (wpAny_newFunctionEnv D.L.nc hb2 (fun h₁ hns hsb => ⟨I1.nolimit.fresh _ hsb, ?_⟩) D.L.kind))
    have kp : ∀ b o, s1.heap.get? b = some o → h₁.get? b = some o := fun b o e => hsb.extBut b o (Nat.ne_of_lt (Heap.lt_size e)) (Heap.get?_push_of_some _ e)
    have J := lam_start3 (f := f) (c' := c') (E := E) (tk := s1.toks + binds.length) I D.L I1.env0 hr.hd un hns kp
    have eE : newEnv d.scope s1.heap.objs.size mainGlobals d.cl (d.q ++ ".<locals>.") (some f) (.ref c') none builtinsNs = LamX.lamEnv X d.scope s1.heap.objs.size f c' := by
      rw [D.q, D.cl] <;> rfl
    show codeAny _ _ (.expr d.body (newEnv d.scope s1.heap.objs.size mainGlobals d.cl (d.q ++ ".<locals>.") (some f) (.ref c') none builtinsNs)) _ _
    rw [eE]
    refine PySem.W.kla_codeExpr (wpAny_mono ((hbody _ _ s1 HZ (hr.deeper _)).run [] _ _ HZ Q J ht) (fun v s' ⟨w', H', J', rv, q⟩ => ⟨w', H', J'.os, J'.bare, J'.base, J'.hok, rv, q⟩) fun e s' hq => hq)
  have hx : Passes (L2.CX X.prog X.w) ((cxOf CXg X.prog X.w X.K X.mg X.base Ng qg sg g cdg X.A X.stack s H Eg).tr pn xe) E := passes_call tk hW
  exact wpAny_call (codeAny_mono rc fun r s' hq => match r, hq with
    | .error e, hq => hx pinsZ σZ HZ s1 e s' I1 hq
    | .ok (.ret u), hq => I1.after hq
    | .ok .next, hq => False.elim hq
    | .ok .brk, hq => False.elim hq
    | .ok .cont, hq => False.elim hq)
end

/-- what the def makes of a lambda that stands as data -/
def gWrongL (z : D) (hd : Ex → S → R D) (gls : Nat → GE) (ge : GE) : GE := fun ρ s => (ge ρ s).bind fun d s1 => match d with
  | .obj n => (match s1[n]? with
    | some (.lam k) => gWrong z hd (gls k) ρ s1
    | _ => .no)
  | _ => .no
section
variable {X : Cx} {ca : Ct} {W : WX}
theorem je_wrongL {z : D} {zv : V} (hz : ∀ ι H, Rep X.K ι H z zv) {hd : Ex → S → R D} {x a : Str} {g : Addr} {k : Nat} {pg : Arguments} {bg : List Stmt} {sg : Scope} {dV kV doc pm cdv ct oc : Value} {an od : Option Addr} {osl : Array (Option Value)} {Ng : List Str} {e : Expr} {ge : GE} {gls : Nat → GE} {p pos : Pos}
    (hg : Gl X x) (hm : X.mg x = some (.ref g)) (hk : PySem.W.keepIn X.K (.ref g) = true) (lk : X.K.lookup g = some ⟨oc, od, .func (PySem.W.fnOf x x pg bg sg dV kV doc pm an cdv ct), osl⟩) (hcg : PySem.W.codeIn X.K cdv x = true)
    (hb : L2.Binds X.K (PySem.W.fnOf x x pg bg sg dV kV doc pm an cdv ct) [a] []) (Sg : FnScope Ng [a] sg) (hNg : Ng[0]? = some a) (hva : Vis sg a) (hG : LamX.GivesTo X Ng x sg g cdv bg a (lamQ X) (TTw X.K ca zv hd)) (hr : Room (k + 2) X.A)
    (hall : ∀ j d, ca.lam j = some d → LamOk X d ∧ ∀ (A : Around) (outer : List PySem.Env) (s : Shared) (H : Hp) (E : XK) (f c' : Addr), Room k (A.deeper (LamX.lamEnv X d.scope s.heap.objs.size f c')) → JE (LamX.lamCx X A outer s H E d.scope f c') ca (fun cls d _ H => E cls d H) d.body (gls j))
    (hnone : ∀ j, ca.lam j = none → gls j = fun _ _ => .no) (he : JE X ca W e ge) (hdb : (x == ("__debug__" : Str)) = false := by decide) (hd' : (a == ("__debug__" : Str)) = false := by decide) (hcd : (a == ("__classdict__" : Str)) = false := by decide)
    (hs : starEach [e] X.env = (false, eval e X.env) :: starEach [] X.env := by rfl) (hpl : (backTo pos (starEach [] X.env)).any (·.1) = false := by rfl) : JE X ca W (.Call (.Name x p) [e] [] pos) (gWrongL z hd gls ge) := by
  refine ⟨fun pins s σ H Q I ⟨ι, ρ, s0, hrs, hms, h⟩ => wpAny_Call_Name_kw (ld_glob I hg hm ?_ hdb)⟩
  refine PySem.W.callWith_K (h₀ := X.base) I.ok.mod.kin hk ?_ hs hpl
  have arg : tG X.K ca W ge σ H (fun v H1 => ∃ f c' d j, v = .ref f ∧ ca.lam j = some d ∧ LamF H1 f c' d ∧ H1 c' = some (LamX.CodeO c' (lamQ X)) ∧
      TTw X.K ca zv hd (fun E H' Q' => LamF H' f c' d ∧ tG X.K ca (fun cls d _ H => E cls d H) (gls j) σ H' Q') H1 Q) := by
    refine bindE famE hrs hms h fun ι1 s1 d v H1 l1 hr1 hm1 rd h1 => ?_
    cases rd with
    | @obj f n hn =>
      simp only at h1
      split at h1
      · rename_i j ej
        have ro := hm1.ob n f _ hn ej
        simp only [RepO] at ro
        cases el : ca.lam j with
        | none =>
          rw [hnone j el] at h1
          exact h1.elim
        | some dl =>
          rw [el] at ro
          obtain ⟨c', pm', ctv', dV', doc', q1, q2, q3⟩ := ro
          have D := (hall j dl el).1
          have F : LamF H1 f c' dl := ⟨pm', ctv', dV', doc', q1, q3⟩
          refine ⟨f, c', dl, j, rfl, el, F, by rw [← D.q]; exact q2.1, F, ι1, ρ, s1, hr1, hm1, ?_⟩
          unfold gWrong at h1
          cases eg : gls j ρ s1 with
          | no => rw [eg] at h1; exact h1
          | ok d2 s2 =>
            rw [eg] at h1
            exact fun ι' v H' l' m' r => h1 ι' zv H' l' m' (hz ι' H')
          | err y s2 =>
            rw [eg] at h1
            simp only at h1
            intro ι' cv dd H' l' m' q
            refine ⟨y, ι', s2, m', q, ?_⟩
            cases e2 : hd y s2 with
            | ok d3 s3 => rw [e2] at h1; exact PostE.mono (show PostE X.K ca ι1 H1 (.ok d3 s3) Q (fun _ _ _ => False) from h1) l'
            | err _ _ => rw [e2] at h1; exact h1
            | no => rw [e2] at h1; exact h1
      · exact h1.elim
    | _ => exact h1.elim
  rw [show backTo pos (starEach [e] X.env) = (false, eval e X.env) :: backTo pos (starEach [] X.env) by rw [hs] <;> rfl]
  refine Calls.spliced_cons (thn (he.run pins s σ H _ I arg) fun u s1 ⟨v, H1, I1, r1, f, c', d, j, ev, el, hF, hc, hT⟩ => Calls.spliced_nil ⟨I1.kIn, ?_⟩)
  subst ev
  obtain rfl : u = Value.ref f := r1
  obtain ⟨D, hbody⟩ := hall j d el
  have rc : codeAny (model X.prog X.w) X.A (.call (.ref g) ⟨[.ref f], []⟩) (CR C8.CX0 X.stack X.prog X.w H1 s1 Q C8.E0) s1 := by
    refine LamX.run_ofS (N := Ng) (ps := [a]) (us := [.ref f]) (vs := [.ref f]) lk hcg Sg hr I1.env0 (hb s1 [.ref f] I1.kIn rfl) (.cons rfl .nil) rfl fun hr' => ?_
    obtain ⟨t', ht', hq'⟩ := hG f c' s1 H1 Q (fun E H' Q' => LamF H' f c' d ∧ tG X.K ca (fun cls d _ H => E cls d H) (gls j) σ H' Q') (fun W pn xe E p1 p2 tk hW => pe_actL (tb := tG X.K ca (fun cls d _ H => E cls d H) (gls j)) I1 D tk hW hr' (fun A outer s H hr2 => hbody A outer s H E f c' hr2) hNg hva hd' hcd) hc hT
    exact ⟨t', ht'.nox, hq'⟩
  refine wpAny_call (codeAny_mono rc fun r s2 hq => match r, hq with
    | .error e, hq => (show False from hq).elim
    | .ok (.ret u), hq => I1.after hq
    | .ok .next, hq => False.elim hq
    | .ok .brk, hq => False.elim hq
    | .ok .cont, hq => False.elim hq)
end
end J


set_option Elab.async false
set_option linter.all false
set_option maxRecDepth 100000
set_option maxHeartbeats 4000000
/-! J36: the law's def, where lambdas stand as data. -/
namespace J
open PySem PySem.Spec L2
open PyProof.Rows (envOfC)
def lamOf : Expr → LamD
  | .Lambda p b sc _ => ⟨p, b, sc, Str.empty, [], []⟩
  | _ => ⟨⟨[], [], none, [], [], none, []⟩, .Constant .none 0 ⟨0, 0, 0, 0⟩, default, Str.empty, [], []⟩
/-- the members of a list that is assigned, or joined to a list and assigned -/
def asgL : Stmt → List Expr
  | .Assign _ (.List es _) _ => es
  | .Assign _ (.BinOp _ _ (.List es _) _) _ => es
  | _ => []
abbrev LamD.at_ (d : LamD) (X : Cx) (dfl : List V) : LamD := ⟨d.params, d.body, d.scope, lamQ X, lamC X d.scope, dfl⟩
/-- what is asked of the law: its mirror gives True -/
def spL (K : PySem.W.Frag) (ca : Ct) (n : Nat) (F : List D → S → R D) : Sp := fun vs H Q _ => ∃ ι ds, Reps K ι H ds vs ∧ Sim K ca ι [] H ∧ ds.length = n ∧ (∃ s', F ds [] = .ok (.bl true) s') ∧ ∀ H', Q (.bl true) H'
theorem Sim.lams {K : PySem.W.Frag} {ca : Ct} {ι : Wd} {H : Hp} (m : Sim K ca ι [] H) (l : Nat → Option LamD) : Sim K { ca with lam := l } ι [] H := ⟨m.len, m.nd, m.sub, m.tr, m.tab, fun n a o h1 h2 => by simp at h2⟩
theorem fnJLL {ca : Ct} {P : Program} {w : World} {K : PySem.W.Frag} {mg : Str → Option Value} {base : Heap} {x qual : Str} {params : Arguments} {body : List Stmt} {scope : Scope} {f c : Addr} {fd : FuncData} {N ps : List Str} {k : Nat} {b : GS} {lams : Cx → Nat → Option LamD} (F : FunD K x qual params body scope [] [] f fd) (Sc : FnScope N ps scope)
    (hf : He.fAd K (x, none) = f) (hc : He.codeOf K (x, none) = c)
    (hb : ∀ (cdv : Value) (A : Around) (outer : List PySem.Env) (s : Shared) (H : Hp) (E : XK), cdv = .ref c → Room k (A.deeper (envOfC qual scope s.heap.objs.size f cdv)) →
      JSs (cxOf (L2.CX P w) P w K mg base N qual scope f cdv A outer s H E) { ca with lam := lams (cxOf (L2.CX P w) P w K mg base N qual scope f cdv A outer s H E) } (fun cls d _ H => E cls d H) body b) :
    FnOk P w K mg base (L2.CX P w) (k + 1) f fd ps (spL K ca ps.length (runF N.length b)) := by
  obtain ⟨oc, od, dVx, kV, doc, pm, an, cdv, ct, osl, rfl, lk, hcd, _, _⟩ := F.ex
  obtain ⟨c', rfl⟩ := He.codeIn_ref hcd
  have ec : c' = c := by rw [← hc]; exact (He.codeOf_eq (by rw [hf]; exact lk) rfl).symm
  refine fn_of lk hcd Sc (fun vs H Q E ⟨ι, ds, hr, hm, hl, h⟩ => by rw [← hr.length, hl]) fun A outer s H vs Q E hr ⟨ι, ds, hrs, hm, hl, ⟨s', h⟩, hq⟩ => ⟨_, hb (.ref c') A outer s H E (by rw [ec]) hr, ι, _, [], relS_start N hrs, hm.lams _, ?_⟩
  unfold runF at h
  cases e : b (ds.map some ++ List.replicate (N.length - ds.length) none) [] with
  | err y s1 => rw [e] at h; cases h
  | no => rw [e] at h; cases h
  | ok fl s1 =>
    rw [e] at h
    cases fl with
    | rt d =>
      simp only [R.bind_ok] at h
      cases h
      intro ι' v H' l m r
      cases r
      exact hq H'
    | nx ρ => cases h
    | bk ρ => cases h
    | ct ρ => cases h
theorem spL_law {K : PySem.W.Frag} {ca : Ct} {F : List D → S → R D} {H : Hp} {a : Addr} {ns : List Int} (hT : ∀ p ∈ ca.T, H p.1 = some (.tbl #[])) (hx : ca.x = []) (hS : SqL K H a (ns.map V.int)) (h : ∃ s', F [.frz (ns.map D.int)] [] = .ok (.bl true) s') :
    spL K ca 1 F [.ref a] H (fun v _ => v = .bl true) (fun _ _ _ => False) := by
  have ri : ∀ ns : List Int, Reps K ⟨[], []⟩ H (ns.map D.int) (ns.map V.int) := fun ns => by
    induction ns with
    | nil => exact .nil
    | cons n ns ih => exact .cons (.int n) ih
  have r : Rep K ⟨[], []⟩ H (.frz (ns.map D.int)) (.ref a) := hS.elim (fun q => q.elim (fun q => .frz2 q (by simp) (ri ns)) fun ⟨o, q⟩ => .frz (.inl ⟨o, q⟩) (ri ns)) fun q => .frz (.inr q) (ri ns)
  refine ⟨⟨[], []⟩, _, .cons r .nil, ⟨rfl, List.nodup_nil, (fun _ h => (List.not_mem_nil h).elim), (fun _ h => (List.not_mem_nil h).elim), ⟨(fun p hp => ⟨#[], hT p hp, List.not_mem_nil, trivial, fun pos cv hc => ?_⟩), fun p hp => by rw [hx] at hp; cases hp⟩, fun n a o h1 h2 => by simp at h2⟩, rfl, h, fun H' => rfl⟩
  have z : codeAmong pos [] = some cv := hc
  simp [codeAmong] at z
end J


set_option Elab.async false
set_option linter.all false
set_option maxRecDepth 100000
set_option maxHeartbeats 4000000
namespace G
open PySem PySem.Spec L2 J
open PyProof.Rows (envOfC)
def top (i : Nat) : Stmt := PySem.Challenge.pw_pairskept_k11_whole_texts_refused.main.body.getD i (.Pass ⟨0, 0, 0, 0⟩)
def mst (i k : Nat) : Stmt := (match top i with | .ClassDef _ _ _ b _ _ _ _ _ _ _ => b | _ => []).getD k (.Pass ⟨0, 0, 0, 0⟩)
def c_REGISTERS : D := (.int 2)
def c_CELLS : D := (.int 3)
def c_WORDS : D := (.int 10)
def c_MOST_CORES : D := (.int 3)
def c_MOST_CORE : D := (.int 5)
def c_MOST_PROGRAM : D := (.int 10)
def c_NAMES : D := (.tup [(.str (PySem.Str.ofString "gr")), (.str (PySem.Str.ofString "gw")), (.str (PySem.Str.ofString "own")), (.str (PySem.Str.ofString "rr")), (.str (PySem.Str.ofString "rw")), (.str (PySem.Str.ofString "ss")), (.str (PySem.Str.ofString "wr")), (.str (PySem.Str.ofString "ww"))])
def c_FIGURES : D := (.str (PySem.Str.ofString "0123456789"))
structure Fx (P : Program) (w : World) (K : PySem.W.Frag) (mg : Str → Option Value) (ca : Ct) : Prop where
  pP : ca.P = P
  pw : ca.w = w
  bi_all : mg "all" = none
  bi_bool : mg "bool" = none
  bi_int : mg "int" = none
  bi_isinstance : mg "isinstance" = none
  bi_len : mg "len" = none
  bi_min : mg "min" = none
  bi_range : mg "range" = none
  bi_str : mg "str" = none
  bi_sum : mg "sum" = none
  bi_tuple : mg "tuple" = none
  c_REGISTERS : ConstJ K mg "REGISTERS" c_REGISTERS
  c_CELLS : ConstJ K mg "CELLS" c_CELLS
  c_WORDS : ConstJ K mg "WORDS" c_WORDS
  c_MOST_CORES : ConstJ K mg "MOST_CORES" c_MOST_CORES
  c_MOST_CORE : ConstJ K mg "MOST_CORE" c_MOST_CORE
  c_MOST_PROGRAM : ConstJ K mg "MOST_PROGRAM" c_MOST_PROGRAM
  c_NAMES : ConstJ K mg "NAMES" c_NAMES
  c_FIGURES : ConstJ K mg "FIGURES" c_FIGURES
  x_NotText : ExcJ K mg ca 0 "NotText"
  e_InvalidText : ErrJ P K mg ca 1 "InvalidText" "line"
  xn_InvalidText : PySem.W.findIn K (.ref (ca.c 1)) "line" = some none
  xb : ∃ C, mg "PairError" = some (.ref C) ∧ ∀ i ∈ ([0, 1] : List Nat), PySem.W.exmOne K (.ref (ca.c i)) (.ref C) = some true
  xc : ∀ i ∈ ([0, 1] : List Nat), ExcC K (ca.c i)
  xk : ∀ i j : Nat, i ∈ ([0, 1] : List Nat) → j ∈ ([0, 1] : List Nat) → PySem.W.kitOne K (.ref (ca.c i)) (.ref (ca.c j)) = some (decide (i = j))
  d_is_integer : ∃ f fd, mg "is_integer" = some (.ref f) ∧ FunD K "is_integer" "is_integer" (defArgs (top 1)) (defBody (top 1)) (defScope (top 1)) [] [] f fd
  d_is_in : ∃ f fd, mg "is_in" = some (.ref f) ∧ FunD K "is_in" "is_in" (defArgs (top 2)) (defBody (top 2)) (defScope (top 2)) [] [] f fd
  d_is_list : ∃ f fd, mg "is_list" = some (.ref f) ∧ FunD K "is_list" "is_list" (defArgs (top 3)) (defBody (top 3)) (defScope (top 3)) [] [] f fd
  d_is_instruction : ∃ f fd, mg "is_instruction" = some (.ref f) ∧ FunD K "is_instruction" "is_instruction" (defArgs (top 16)) (defBody (top 16)) (defScope (top 16)) [] [] f fd
  d_is_core : ∃ f fd, mg "is_core" = some (.ref f) ∧ FunD K "is_core" "is_core" (defArgs (top 17)) (defBody (top 17)) (defScope (top 17)) [] [] f fd
  d_need_program : ∃ f fd, mg "need_program" = some (.ref f) ∧ FunD K "need_program" "need_program" (defArgs (top 18)) (defBody (top 18)) (defScope (top 18)) [] [] f fd
  d_is_design : ∃ f fd, mg "is_design" = some (.ref f) ∧ FunD K "is_design" "is_design" (defArgs (top 21)) (defBody (top 21)) (defScope (top 21)) [] [] f fd
  d_need_text : ∃ f fd, mg "need_text" = some (.ref f) ∧ FunD K "need_text" "need_text" (defArgs (top 24)) (defBody (top 24)) (defScope (top 24)) [] [] f fd
  d_number_in : ∃ f fd, mg "number_in" = some (.ref f) ∧ FunD K "number_in" "number_in" (defArgs (top 25)) (defBody (top 25)) (defScope (top 25)) [] [] f fd
  d_instruction_in : ∃ f fd, mg "instruction_in" = some (.ref f) ∧ FunD K "instruction_in" "instruction_in" (defArgs (top 26)) (defBody (top 26)) (defScope (top 26)) [] [] f fd
  d_core_in : ∃ f fd, mg "core_in" = some (.ref f) ∧ FunD K "core_in" "core_in" (defArgs (top 27)) (defBody (top 27)) (defScope (top 27)) [] [] f fd
  d_write_program : ∃ f fd, mg "write_program" = some (.ref f) ∧ FunD K "write_program" "write_program" (defArgs (top 28)) (defBody (top 28)) (defScope (top 28)) [] [] f fd
  d_read_program : ∃ f fd, mg "read_program" = some (.ref f) ∧ FunD K "read_program" "read_program" (defArgs (top 29)) (defBody (top 29)) (defScope (top 29)) [] [] f fd
  d_read_design : ∃ f fd, mg "read_design" = some (.ref f) ∧ FunD K "read_design" "read_design" (defArgs (top 30)) (defBody (top 30)) (defScope (top 30)) [] [] f fd
  d_law_taken : ∃ f fd, mg "_law_taken" = some (.ref f) ∧ FunD K "_law_taken" "_law_taken" (defArgs (top 32)) (defBody (top 32)) (defScope (top 32)) [] [] f fd
  d_law_pick : ∃ f fd, mg "_law_pick" = some (.ref f) ∧ FunD K "_law_pick" "_law_pick" (defArgs (top 33)) (defBody (top 33)) (defScope (top 33)) [] [] f fd
  d_law_instruction : ∃ f fd, mg "_law_instruction" = some (.ref f) ∧ FunD K "_law_instruction" "_law_instruction" (defArgs (top 34)) (defBody (top 34)) (defScope (top 34)) [] [] f fd
  d_law_program : ∃ f fd, mg "_law_program" = some (.ref f) ∧ FunD K "_law_program" "_law_program" (defArgs (top 35)) (defBody (top 35)) (defScope (top 35)) [] [] f fd
  d_law_wrong : ∃ f fd, mg "_law_wrong" = some (.ref f) ∧ FunD K "_law_wrong" "_law_wrong" (defArgs (top 36)) (defBody (top 36)) (defScope (top 36)) [] [] f fd
theorem Fx.hold {P : Program} {w : World} {K : PySem.W.Frag} {mg : Str → Option Value} {ca : Ct} (h : Fx P w K mg ca) (fx : Option (Addr × Str × V)) : Fx P w K mg (ca.hold fx) where
  pP := h.pP
  pw := h.pw
  bi_all := h.bi_all
  bi_bool := h.bi_bool
  bi_int := h.bi_int
  bi_isinstance := h.bi_isinstance
  bi_len := h.bi_len
  bi_min := h.bi_min
  bi_range := h.bi_range
  bi_str := h.bi_str
  bi_sum := h.bi_sum
  bi_tuple := h.bi_tuple
  c_REGISTERS := h.c_REGISTERS
  c_CELLS := h.c_CELLS
  c_WORDS := h.c_WORDS
  c_MOST_CORES := h.c_MOST_CORES
  c_MOST_CORE := h.c_MOST_CORE
  c_MOST_PROGRAM := h.c_MOST_PROGRAM
  c_NAMES := h.c_NAMES
  c_FIGURES := h.c_FIGURES
  x_NotText := ⟨h.x_NotText.g, h.x_NotText.q, h.x_NotText.k, h.x_NotText.b, h.x_NotText.t⟩
  e_InvalidText := ⟨h.e_InvalidText.g, h.e_InvalidText.o, h.e_InvalidText.i, h.e_InvalidText.t, h.e_InvalidText.f⟩
  xn_InvalidText := h.xn_InvalidText
  xb := h.xb
  xc := h.xc
  xk := h.xk
  d_is_integer := h.d_is_integer
  d_is_in := h.d_is_in
  d_is_list := h.d_is_list
  d_is_instruction := h.d_is_instruction
  d_is_core := h.d_is_core
  d_need_program := h.d_need_program
  d_is_design := h.d_is_design
  d_need_text := h.d_need_text
  d_number_in := h.d_number_in
  d_instruction_in := h.d_instruction_in
  d_core_in := h.d_core_in
  d_write_program := h.d_write_program
  d_read_program := h.d_read_program
  d_read_design := h.d_read_design
  d_law_taken := h.d_law_taken
  d_law_pick := h.d_law_pick
  d_law_instruction := h.d_law_instruction
  d_law_program := h.d_law_program
  d_law_wrong := h.d_law_wrong
theorem Fx.lamx {P : Program} {w : World} {K : PySem.W.Frag} {mg : Str → Option Value} {ca : Ct} (h : Fx P w K mg ca) (l : Nat → Option LamD) : Fx P w K mg { ca with lam := l } where
  pP := h.pP
  pw := h.pw
  bi_all := h.bi_all
  bi_bool := h.bi_bool
  bi_int := h.bi_int
  bi_isinstance := h.bi_isinstance
  bi_len := h.bi_len
  bi_min := h.bi_min
  bi_range := h.bi_range
  bi_str := h.bi_str
  bi_sum := h.bi_sum
  bi_tuple := h.bi_tuple
  c_REGISTERS := h.c_REGISTERS
  c_CELLS := h.c_CELLS
  c_WORDS := h.c_WORDS
  c_MOST_CORES := h.c_MOST_CORES
  c_MOST_CORE := h.c_MOST_CORE
  c_MOST_PROGRAM := h.c_MOST_PROGRAM
  c_NAMES := h.c_NAMES
  c_FIGURES := h.c_FIGURES
  x_NotText := ⟨h.x_NotText.g, h.x_NotText.q, h.x_NotText.k, h.x_NotText.b, h.x_NotText.t⟩
  e_InvalidText := ⟨h.e_InvalidText.g, h.e_InvalidText.o, h.e_InvalidText.i, h.e_InvalidText.t, h.e_InvalidText.f⟩
  xn_InvalidText := h.xn_InvalidText
  xb := h.xb
  xc := h.xc
  xk := h.xk
  d_is_integer := h.d_is_integer
  d_is_in := h.d_is_in
  d_is_list := h.d_is_list
  d_is_instruction := h.d_is_instruction
  d_is_core := h.d_is_core
  d_need_program := h.d_need_program
  d_is_design := h.d_is_design
  d_need_text := h.d_need_text
  d_number_in := h.d_number_in
  d_instruction_in := h.d_instruction_in
  d_core_in := h.d_core_in
  d_write_program := h.d_write_program
  d_read_program := h.d_read_program
  d_read_design := h.d_read_design
  d_law_taken := h.d_law_taken
  d_law_pick := h.d_law_pick
  d_law_instruction := h.d_law_instruction
  d_law_program := h.d_law_program
  d_law_wrong := h.d_law_wrong
section
variable {P : Program} {w : World} {K : PySem.W.Frag} {mg : Str → Option Value} {base : Heap} {ca : Ct}
abbrev s_is_integer : Stmt := top 1
def b_is_integer : GS := sRet (gAndV (gF (fIsi) (gaCons (gVar 0) (gaCons (gC (.ty "int")) (gaNil)))) (gNotV (gF (fIsi) (gaCons (gVar 0) (gaCons (gC (.ty "bool")) (gaNil))))))
def F_is_integer : List D → S → R D := runF 1 b_is_integer
theorem sc_is_integer : FnScope ["value"] ["value"] (defScope s_is_integer) := ⟨rfl, rfl, rfl, by decide +kernel, rfl, by decide +kernel, by decide +kernel⟩
theorem j_is_integer (Fx : Fx P w K mg ca) : JFn P w K mg base ca 1 "is_integer" 1 F_is_integer := by
  obtain ⟨f, fd, hm, F⟩ := Fx.d_is_integer
  refine ⟨⟨f, fd, ["value"], hm, F.kp, F.bindsN (fun _ _ _ _ _ _ us hl => match us, hl with | [_], _ => rfl), rfl, fnJD F sc_is_integer fun cdv A outer s H E hr => ?_⟩⟩
  have tk : Takes (cxOf (L2.CX P w) P w K mg base ["value"] "is_integer" (defScope s_is_integer) f cdv A outer s H E) (fun cls d _ H => E cls d H) := takes_of rfl rfl rfl rfl
  exact jss_one (js_ret (je_and (je_B cj_isinstance Fx.bi_isinstance bt_isinstance (ja_cons (je_var 0) (ja_cons (je_ty Fx.bi_int bt_int) (ja_nil)))) (je_one (je_not (je_B cj_isinstance Fx.bi_isinstance bt_isinstance (ja_cons (je_var 0) (ja_cons (je_ty Fx.bi_bool bt_bool) (ja_nil))))))))
abbrev s_is_in : Stmt := top 2
def b_is_in : GS := sRet (gAndV (gCall 1 (F_is_integer) (gaCons (gVar 0) (gaNil))) (gChain fLe fLe (gVar 1) (gVar 0) (gVar 2)))
def F_is_in : List D → S → R D := runF 3 b_is_in
theorem sc_is_in : FnScope ["value", "least", "most"] ["value", "least", "most"] (defScope s_is_in) := ⟨rfl, rfl, rfl, by decide +kernel, rfl, by decide +kernel, by decide +kernel⟩
theorem j_is_in (Fx : Fx P w K mg ca) : JFn P w K mg base ca 2 "is_in" 3 F_is_in := by
  obtain ⟨f, fd, hm, F⟩ := Fx.d_is_in
  refine ⟨⟨f, fd, ["value", "least", "most"], hm, F.kp, F.bindsN (fun _ _ _ _ _ _ us hl => match us, hl with | [_, _, _], _ => rfl), rfl, fnJD F sc_is_in fun cdv A outer s H E hr => ?_⟩⟩
  have tk : Takes (cxOf (L2.CX P w) P w K mg base ["value", "least", "most"] "is_in" (defScope s_is_in) f cdv A outer s H E) (fun cls d _ H => E cls d H) := takes_of rfl rfl rfl rfl
  exact jss_one (js_ret (je_and (je_call (j_is_integer Fx) (hr.mono (by decide)) tk (ja_cons (je_var 0) (ja_nil))) (je_one (je_chain oj_le oj_le (je_var 1) (je_var 0) (je_var 2)))))
abbrev s_is_list : Stmt := top 3
def b_is_list : GS := sRet (gAndV (gF (fIsi) (gaCons (gVar 0) (gaCons (gC (.ty "tuple")) (gaNil)))) (gChain fLe fLe (gVar 1) (gF (f1 fLen) (gaCons (gVar 0) (gaNil))) (gVar 2)))
def F_is_list : List D → S → R D := runF 3 b_is_list
theorem sc_is_list : FnScope ["value", "least", "most"] ["value", "least", "most"] (defScope s_is_list) := ⟨rfl, rfl, rfl, by decide +kernel, rfl, by decide +kernel, by decide +kernel⟩
theorem j_is_list (Fx : Fx P w K mg ca) : JFn P w K mg base ca 1 "is_list" 3 F_is_list := by
  obtain ⟨f, fd, hm, F⟩ := Fx.d_is_list
  refine ⟨⟨f, fd, ["value", "least", "most"], hm, F.kp, F.bindsN (fun _ _ _ _ _ _ us hl => match us, hl with | [_, _, _], _ => rfl), rfl, fnJD F sc_is_list fun cdv A outer s H E hr => ?_⟩⟩
  have tk : Takes (cxOf (L2.CX P w) P w K mg base ["value", "least", "most"] "is_list" (defScope s_is_list) f cdv A outer s H E) (fun cls d _ H => E cls d H) := takes_of rfl rfl rfl rfl
  exact jss_one (js_ret (je_and (je_B cj_isinstance Fx.bi_isinstance bt_isinstance (ja_cons (je_var 0) (ja_cons (je_ty Fx.bi_tuple bt_tuple) (ja_nil)))) (je_one (je_chain oj_le oj_le (je_var 1) (je_B cj_len Fx.bi_len bt_len (ja_cons (je_var 0) (ja_nil))) (je_var 2)))))
abbrev s_is_instruction : Stmt := top 16
def b_is_instruction : GS := sSeq (sIf (gOr (gNot (gB (gCall 3 (F_is_list) (gaCons (gVar 0) (gaCons (gC (.int 1)) (gaCons (gC (.int 3)) (gaNil))))))) (gNot (gB (gF (fIsi) (gaCons (gOp2 fIdx (gVar 0) (gC (.int 0))) (gaCons (gC (.ty "str")) (gaNil))))))) (sRet (gC (.bl false))) (sNext)) (sSeq (sPar 1 2 (gaCons (gOp2 fIdx (gVar 0) (gC (.int 0))) (gaCons (gSl (gVar 0) (goSome (gC (.int 1))) (goNone)) (gaNil)))) (sSeq (sIf (gB (gOp2 fEq (gVar 1) (gC (.str (PySem.Str.ofString "fence"))))) (sRet (gOp2 fEq (gVar 2) (gTup (gaNil)))) (sNext)) (sSeq (sIf (gB (gOp2 fNe (gF (f1 fLen) (gaCons (gVar 2) (gaNil))) (gC (.int 2)))) (sRet (gC (.bl false))) (sNext)) (sSeq (sIf (gB (gOp2 fEq (gVar 1) (gC (.str (PySem.Str.ofString "read"))))) (sRet (gAndV (gCall 3 (F_is_in) (gaCons (gOp2 fIdx (gVar 2) (gC (.int 0))) (gaCons (gC (.int 0)) (gaCons (gOp2 fSub (gC c_REGISTERS) (gC (.int 1))) (gaNil))))) (gCall 3 (F_is_in) (gaCons (gOp2 fIdx (gVar 2) (gC (.int 1))) (gaCons (gC (.int 0)) (gaCons (gOp2 fSub (gC c_CELLS) (gC (.int 1))) (gaNil))))))) (sNext)) (sSeq (sIf (gB (gOp2 fEq (gVar 1) (gC (.str (PySem.Str.ofString "write"))))) (sRet (gAndV (gCall 3 (F_is_in) (gaCons (gOp2 fIdx (gVar 2) (gC (.int 0))) (gaCons (gC (.int 0)) (gaCons (gOp2 fSub (gC c_CELLS) (gC (.int 1))) (gaNil))))) (gCall 3 (F_is_in) (gaCons (gOp2 fIdx (gVar 2) (gC (.int 1))) (gaCons (gC (.int 0)) (gaCons (gOp2 fSub (gC c_WORDS) (gC (.int 1))) (gaNil))))))) (sNext)) (sSeq (sIf (gB (gOp2 fEq (gVar 1) (gC (.str (PySem.Str.ofString "copy"))))) (sRet (gAndV (gCall 3 (F_is_in) (gaCons (gOp2 fIdx (gVar 2) (gC (.int 0))) (gaCons (gC (.int 0)) (gaCons (gOp2 fSub (gC c_CELLS) (gC (.int 1))) (gaNil))))) (gCall 3 (F_is_in) (gaCons (gOp2 fIdx (gVar 2) (gC (.int 1))) (gaCons (gC (.int 0)) (gaCons (gOp2 fSub (gC c_REGISTERS) (gC (.int 1))) (gaNil))))))) (sNext)) (sRet (gAndV (gOp2 fEq (gVar 1) (gC (.str (PySem.Str.ofString "guard")))) (gAndV (gCall 3 (F_is_in) (gaCons (gOp2 fIdx (gVar 2) (gC (.int 0))) (gaCons (gC (.int 0)) (gaCons (gOp2 fSub (gC c_REGISTERS) (gC (.int 1))) (gaNil))))) (gCall 3 (F_is_in) (gaCons (gOp2 fIdx (gVar 2) (gC (.int 1))) (gaCons (gC (.int 0)) (gaCons (gOp2 fSub (gC c_WORDS) (gC (.int 1))) (gaNil))))))))))))))
def F_is_instruction : List D → S → R D := runF 3 b_is_instruction
theorem sc_is_instruction : FnScope ["value", "kind", "rest"] ["value"] (defScope s_is_instruction) := ⟨rfl, rfl, rfl, by decide +kernel, rfl, by decide +kernel, by decide +kernel⟩
theorem j_is_instruction (Fx : Fx P w K mg ca) : JFn P w K mg base ca 3 "is_instruction" 1 F_is_instruction := by
  obtain ⟨f, fd, hm, F⟩ := Fx.d_is_instruction
  refine ⟨⟨f, fd, ["value"], hm, F.kp, F.bindsN (fun _ _ _ _ _ _ us hl => match us, hl with | [_], _ => rfl), rfl, fnJD F sc_is_instruction fun cdv A outer s H E hr => ?_⟩⟩
  have tk : Takes (cxOf (L2.CX P w) P w K mg base ["value", "kind", "rest"] "is_instruction" (defScope s_is_instruction) f cdv A outer s H E) (fun cls d _ H => E cls d H) := takes_of rfl rfl rfl rfl
  exact jss_cons (js_if (jw_t (jw_or (jt_not (jt_val (je_call (j_is_list Fx) (hr.mono (by decide)) tk (ja_cons (je_var 0) (ja_cons (je_int) (ja_cons (je_int) (ja_nil))))))) (jw_or1 (jt_not (jt_val (je_B cj_isinstance Fx.bi_isinstance bt_isinstance (ja_cons (je_ix (je_var 0) (je_int)) (ja_cons (je_ty Fx.bi_str bt_str) (ja_nil))))))))) (jss_one (js_ret (je_bl))) (jss_nil)) (jss_cons (js_par 1 2 rfl sc_is_instruction.nd (ja_cons (je_ix (je_var 0) (je_int)) (ja_cons (je_slice (je_var 0) (jo_some (je_int)) (jo_none)) (ja_nil)))) (jss_cons (js_if (jt_cmp (oj_eq hr.units) (je_var 1) (je_str)) (jss_one (js_ret (je_cmp (oj_eq hr.units) (je_var 2) (je_tup (ja_nil))))) (jss_nil)) (jss_cons (js_if (jt_cmp (oj_ne hr.units) (je_B cj_len Fx.bi_len bt_len (ja_cons (je_var 2) (ja_nil))) (je_int)) (jss_one (js_ret (je_bl))) (jss_nil)) (jss_cons (js_if (jt_cmp (oj_eq hr.units) (je_var 1) (je_str)) (jss_one (js_ret (je_and (je_call (j_is_in Fx) (hr.mono (by decide)) tk (ja_cons (je_ix (je_var 2) (je_int)) (ja_cons (je_int) (ja_cons (je_op oj_sub (je_k Fx.c_REGISTERS) (je_int)) (ja_nil))))) (je_one (je_call (j_is_in Fx) (hr.mono (by decide)) tk (ja_cons (je_ix (je_var 2) (je_int)) (ja_cons (je_int) (ja_cons (je_op oj_sub (je_k Fx.c_CELLS) (je_int)) (ja_nil))))))))) (jss_nil)) (jss_cons (js_if (jt_cmp (oj_eq hr.units) (je_var 1) (je_str)) (jss_one (js_ret (je_and (je_call (j_is_in Fx) (hr.mono (by decide)) tk (ja_cons (je_ix (je_var 2) (je_int)) (ja_cons (je_int) (ja_cons (je_op oj_sub (je_k Fx.c_CELLS) (je_int)) (ja_nil))))) (je_one (je_call (j_is_in Fx) (hr.mono (by decide)) tk (ja_cons (je_ix (je_var 2) (je_int)) (ja_cons (je_int) (ja_cons (je_op oj_sub (je_k Fx.c_WORDS) (je_int)) (ja_nil))))))))) (jss_nil)) (jss_cons (js_if (jt_cmp (oj_eq hr.units) (je_var 1) (je_str)) (jss_one (js_ret (je_and (je_call (j_is_in Fx) (hr.mono (by decide)) tk (ja_cons (je_ix (je_var 2) (je_int)) (ja_cons (je_int) (ja_cons (je_op oj_sub (je_k Fx.c_CELLS) (je_int)) (ja_nil))))) (je_one (je_call (j_is_in Fx) (hr.mono (by decide)) tk (ja_cons (je_ix (je_var 2) (je_int)) (ja_cons (je_int) (ja_cons (je_op oj_sub (je_k Fx.c_REGISTERS) (je_int)) (ja_nil))))))))) (jss_nil)) (jss_one (js_ret (je_and (je_cmp (oj_eq hr.units) (je_var 1) (je_str)) (je_and (je_call (j_is_in Fx) (hr.mono (by decide)) tk (ja_cons (je_ix (je_var 2) (je_int)) (ja_cons (je_int) (ja_cons (je_op oj_sub (je_k Fx.c_REGISTERS) (je_int)) (ja_nil))))) (je_one (je_call (j_is_in Fx) (hr.mono (by decide)) tk (ja_cons (je_ix (je_var 2) (je_int)) (ja_cons (je_int) (ja_cons (je_op oj_sub (je_k Fx.c_WORDS) (je_int)) (ja_nil))))))))))))))))
abbrev s_is_core : Stmt := top 17
def b_is_core : GS := sRet (gAndV (gCall 3 (F_is_list) (gaCons (gVar 0) (gaCons (gC (.int 0)) (gaCons (gC c_MOST_CORE) (gaNil))))) (gF (f1 fAll) (gaCons (gLc [1] (gItems (gVar 0)) (dName 1) (gYes) (gCall 1 (F_is_instruction) (gaCons (gVar 1) (gaNil)))) (gaNil))))
def F_is_core : List D → S → R D := runF 2 b_is_core
theorem sc_is_core : FnScope ["value", "one"] ["value"] (defScope s_is_core) := ⟨rfl, rfl, rfl, by decide +kernel, rfl, by decide +kernel, by decide +kernel⟩
theorem j_is_core (Fx : Fx P w K mg ca) : JFn P w K mg base ca 4 "is_core" 1 F_is_core := by
  obtain ⟨f, fd, hm, F⟩ := Fx.d_is_core
  refine ⟨⟨f, fd, ["value"], hm, F.kp, F.bindsN (fun _ _ _ _ _ _ us hl => match us, hl with | [_], _ => rfl), rfl, fnJD F sc_is_core fun cdv A outer s H E hr => ?_⟩⟩
  have tk : Takes (cxOf (L2.CX P w) P w K mg base ["value", "one"] "is_core" (defScope s_is_core) f cdv A outer s H E) (fun cls d _ H => E cls d H) := takes_of rfl rfl rfl rfl
  exact jss_one (js_ret (je_and (je_call (j_is_list Fx) (hr.mono (by decide)) tk (ja_cons (je_var 0) (ja_cons (je_int) (ja_cons (je_k Fx.c_MOST_CORE) (ja_nil))))) (je_one (je_B (cj_all rfl) Fx.bi_all bt_all (ja_cons (je_lc rfl sc_is_core.nd (ji_seq (je_var 0)) (blkOk_by (N := ["value", "one"]) (sc := defScope s_is_core) (by decide +kernel)) (fun _ _ _ _ _ => pg_name (i := 1) sc_is_core.nd rfl (by first | exact Or.inl rfl | exact Or.inr rfl)) (fun _ _ _ _ _ => jts_nil) (fun _ _ _ _ _ => je_call (j_is_instruction Fx) (hr.mono (by decide)) takes0 (ja_cons (je_var 1) (ja_nil)))) (ja_nil))))))
abbrev s_need_program : Stmt := top 18
def b_need_program : GS := sSeq (sIf (gNot (gB (gCall 3 (F_is_list) (gaCons (gVar 0) (gaCons (gC (.int 1)) (gaCons (gC c_MOST_CORES) (gaNil))))))) (sNever) (sNext)) (sFor (dName 1) (gRange1 (gaCons (gF (f1 fLen) (gaCons (gVar 0) (gaNil))) (gaNil))) (sIf (gOr (gNot (gB (gCall 1 (F_is_core) (gaCons (gOp2 fIdx (gVar 0) (gVar 1)) (gaNil))))) (gB (gOp2 fGt (gF (f1 fSum) (gaCons (gLc [2] (gItems (gSl (gVar 0) (goNone) (goSome (gOp2 fAdd (gVar 1) (gC (.int 1)))))) (dName 2) (gYes) (gF (f1 fLen) (gaCons (gVar 2) (gaNil)))) (gaNil))) (gC c_MOST_PROGRAM)))) (sNever) (sNext)))
def F_need_program : List D → S → R D := runF 3 b_need_program
theorem sc_need_program : FnScope ["program", "index", "core"] ["program"] (defScope s_need_program) := ⟨rfl, rfl, rfl, by decide +kernel, rfl, by decide +kernel, by decide +kernel⟩
theorem j_need_program (Fx : Fx P w K mg ca) : JFn P w K mg base ca 5 "need_program" 1 F_need_program := by
  obtain ⟨f, fd, hm, F⟩ := Fx.d_need_program
  refine ⟨⟨f, fd, ["program"], hm, F.kp, F.bindsN (fun _ _ _ _ _ _ us hl => match us, hl with | [_], _ => rfl), rfl, fnJD F sc_need_program fun cdv A outer s H E hr => ?_⟩⟩
  have tk : Takes (cxOf (L2.CX P w) P w K mg base ["program", "index", "core"] "need_program" (defScope s_need_program) f cdv A outer s H E) (fun cls d _ H => E cls d H) := takes_of rfl rfl rfl rfl
  exact jss_cons (js_if (jt_not (jt_val (je_call (j_is_list Fx) (hr.mono (by decide)) tk (ja_cons (je_var 0) (ja_cons (je_int) (ja_cons (je_k Fx.c_MOST_CORES) (ja_nil))))))) (jss_one (js_never)) (jss_nil)) (jss_one (js_for (passes_of rfl) rfl (ji_range1 Fx.bi_range (ja_cons (je_B cj_len Fx.bi_len bt_len (ja_cons (je_var 0) (ja_nil))) (ja_nil))) (jg_name 1 sc_need_program.nd) (jss_one (js_if (jw_t (jw_or (jt_not (jt_val (je_call (j_is_core Fx) (hr.mono (by decide)) tk (ja_cons (je_ix (je_var 0) (je_var 1)) (ja_nil))))) (jw_or1 (jt_cmp oj_gt (je_B (cj_sum rfl) Fx.bi_sum bt_sum (ja_cons (je_lc rfl sc_need_program.nd (ji_seq (je_slice (je_var 0) (jo_none) (jo_some (je_op oj_add (je_var 1) (je_int))))) (blkOk_by (N := ["program", "index", "core"]) (sc := defScope s_need_program) (by decide +kernel)) (fun _ _ _ _ _ => pg_name (i := 2) sc_need_program.nd rfl (by first | exact Or.inl rfl | exact Or.inr rfl)) (fun _ _ _ _ _ => jts_nil) (fun _ _ _ _ _ => je_B cj_len Fx.bi_len bt_len (ja_cons (je_var 2) (ja_nil)))) (ja_nil))) (je_k Fx.c_MOST_PROGRAM))))) (jss_one (js_never)) (jss_nil)))))
abbrev s_is_design : Stmt := top 21
def b_is_design : GS := sSeq (sIf (gOr (gNot (gB (gF (fIsi) (gaCons (gVar 0) (gaCons (gC (.ty "tuple")) (gaNil)))))) (gNot (gB (gF (f1 fAll) (gaCons (gLc [2] (gItems (gVar 0)) (dName 2) (gYes) (gAndV (gF (fIsi) (gaCons (gVar 2) (gaCons (gC (.ty "str")) (gaNil)))) (gOp2 fIn (gVar 2) (gC c_NAMES)))) (gaNil)))))) (sRet (gC (.bl false))) (sNext)) (sRet (gF (f1 fAll) (gaCons (gLc [1] (gRange2 (gaCons (gC (.int 1)) (gaCons (gF (f1 fLen) (gaCons (gVar 0) (gaNil))) (gaNil)))) (dName 1) (gYes) (gOp2 fLt (gOp2 fIdx (gVar 0) (gOp2 fSub (gVar 1) (gC (.int 1)))) (gOp2 fIdx (gVar 0) (gVar 1)))) (gaNil))))
def F_is_design : List D → S → R D := runF 3 b_is_design
theorem sc_is_design : FnScope ["value", "index", "one"] ["value"] (defScope s_is_design) := ⟨rfl, rfl, rfl, by decide +kernel, rfl, by decide +kernel, by decide +kernel⟩
theorem j_is_design (Fx : Fx P w K mg ca) : JFn P w K mg base ca 1 "is_design" 1 F_is_design := by
  obtain ⟨f, fd, hm, F⟩ := Fx.d_is_design
  refine ⟨⟨f, fd, ["value"], hm, F.kp, F.bindsN (fun _ _ _ _ _ _ us hl => match us, hl with | [_], _ => rfl), rfl, fnJD F sc_is_design fun cdv A outer s H E hr => ?_⟩⟩
  have tk : Takes (cxOf (L2.CX P w) P w K mg base ["value", "index", "one"] "is_design" (defScope s_is_design) f cdv A outer s H E) (fun cls d _ H => E cls d H) := takes_of rfl rfl rfl rfl
  exact jss_cons (js_if (jw_t (jw_or (jt_not (jt_val (je_B cj_isinstance Fx.bi_isinstance bt_isinstance (ja_cons (je_var 0) (ja_cons (je_ty Fx.bi_tuple bt_tuple) (ja_nil)))))) (jw_or1 (jt_not (jt_val (je_B (cj_all rfl) Fx.bi_all bt_all (ja_cons (je_lc rfl sc_is_design.nd (ji_seq (je_var 0)) (blkOk_by (N := ["value", "index", "one"]) (sc := defScope s_is_design) (by decide +kernel)) (fun _ _ _ _ _ => pg_name (i := 2) sc_is_design.nd rfl (by first | exact Or.inl rfl | exact Or.inr rfl)) (fun _ _ _ _ _ => jts_nil) (fun _ _ _ _ _ => je_and (je_B cj_isinstance Fx.bi_isinstance bt_isinstance (ja_cons (je_var 2) (ja_cons (je_ty Fx.bi_str bt_str) (ja_nil)))) (je_one (je_cmp (oj_in (J.Room.u65 hr)) (je_var 2) (je_k Fx.c_NAMES))))) (ja_nil)))))))) (jss_one (js_ret (je_bl))) (jss_nil)) (jss_one (js_ret (je_B (cj_all rfl) Fx.bi_all bt_all (ja_cons (je_lc rfl sc_is_design.nd (ji_range2 Fx.bi_range (ja_cons (je_int) (ja_cons (je_B cj_len Fx.bi_len bt_len (ja_cons (je_var 0) (ja_nil))) (ja_nil)))) (blkOk_by (N := ["value", "index", "one"]) (sc := defScope s_is_design) (by decide +kernel)) (fun _ _ _ _ _ => pg_name (i := 1) sc_is_design.nd rfl (by first | exact Or.inl rfl | exact Or.inr rfl)) (fun _ _ _ _ _ => jts_nil) (fun _ _ _ _ _ => je_cmp oj_lt (je_ix (je_var 0) (je_op oj_sub (je_var 1) (je_int))) (je_ix (je_var 0) (je_var 1)))) (ja_nil)))))
abbrev s_need_text : Stmt := top 24
def b_need_text : GS := sIf (gNot (gB (gF (fIsi) (gaCons (gVar 0) (gaCons (gC (.ty "str")) (gaNil)))))) (sRaise 0) (sNext)
def F_need_text : List D → S → R D := runF 1 b_need_text
theorem sc_need_text : FnScope ["text"] ["text"] (defScope s_need_text) := ⟨rfl, rfl, rfl, by decide +kernel, rfl, by decide +kernel, by decide +kernel⟩
theorem j_need_text (Fx : Fx P w K mg ca) : JFn P w K mg base ca 1 "need_text" 1 F_need_text := by
  obtain ⟨f, fd, hm, F⟩ := Fx.d_need_text
  refine ⟨⟨f, fd, ["text"], hm, F.kp, F.bindsN (fun _ _ _ _ _ _ us hl => match us, hl with | [_], _ => rfl), rfl, fnJD F sc_need_text fun cdv A outer s H E hr => ?_⟩⟩
  have tk : Takes (cxOf (L2.CX P w) P w K mg base ["text"] "need_text" (defScope s_need_text) f cdv A outer s H E) (fun cls d _ H => E cls d H) := takes_of rfl rfl rfl rfl
  exact jss_one (js_if (jt_not (jt_val (je_B cj_isinstance Fx.bi_isinstance bt_isinstance (ja_cons (je_var 0) (ja_cons (je_ty Fx.bi_str bt_str) (ja_nil)))))) (jss_one (js_raise0 Fx.x_NotText rfl tk)) (jss_nil))
abbrev s_number_in : Stmt := top 25
def b_number_in : GS := sSeq (sIf (gOr (gB (gOp2 fEq (gVar 0) (gC (.str (PySem.Str.ofString ""))))) (gOr (gNot (gB (gF (f1 fAll) (gaCons (gLc [1] (gSigns (gVar 0)) (dName 1) (gYes) (gOp2 fIn (gVar 1) (gC c_FIGURES))) (gaNil))))) (gAnd (gB (gOp2 fGt (gF (f1 fLen) (gaCons (gVar 0) (gaNil))) (gC (.int 1)))) (gB (gOp2 fEq (gOp2 fIdx (gVar 0) (gC (.int 0))) (gC (.str (PySem.Str.ofString "0")))))))) (sRet (gC .non)) (sNext)) (sRet (gF (f1 fIntS) (gaCons (gVar 0) (gaNil))))
def F_number_in : List D → S → R D := runF 2 b_number_in
theorem sc_number_in : FnScope ["word", "sign"] ["word"] (defScope s_number_in) := ⟨rfl, rfl, rfl, by decide +kernel, rfl, by decide +kernel, by decide +kernel⟩
theorem j_number_in (Fx : Fx P w K mg ca) : JFn P w K mg base ca 1 "number_in" 1 F_number_in := by
  obtain ⟨f, fd, hm, F⟩ := Fx.d_number_in
  refine ⟨⟨f, fd, ["word"], hm, F.kp, F.bindsN (fun _ _ _ _ _ _ us hl => match us, hl with | [_], _ => rfl), rfl, fnJD F sc_number_in fun cdv A outer s H E hr => ?_⟩⟩
  have tk : Takes (cxOf (L2.CX P w) P w K mg base ["word", "sign"] "number_in" (defScope s_number_in) f cdv A outer s H E) (fun cls d _ H => E cls d H) := takes_of rfl rfl rfl rfl
  exact jss_cons (js_if (jw_t (jw_or (jt_cmp (oj_eq hr.units) (je_var 0) (je_str)) (jw_or (jt_not (jt_val (je_B (cj_all rfl) Fx.bi_all bt_all (ja_cons (je_lc rfl sc_number_in.nd (ji_signs (je_var 0)) (blkOk_by (N := ["word", "sign"]) (sc := defScope s_number_in) (by decide +kernel)) (fun _ _ _ _ _ => pg_name (i := 1) sc_number_in.nd rfl (by first | exact Or.inl rfl | exact Or.inr rfl)) (fun _ _ _ _ _ => jts_nil) (fun _ _ _ _ _ => je_cmp (oj_in (J.Room.u65 hr)) (je_var 1) (je_k Fx.c_FIGURES))) (ja_nil))))) (jw_or1 (jw_t (jw_and (jt_cmp oj_gt (je_B cj_len Fx.bi_len bt_len (ja_cons (je_var 0) (ja_nil))) (je_int)) (jw_and1 (jt_cmp (oj_eq hr.units) (je_ix (je_var 0) (je_int)) (je_str))))))))) (jss_one (js_ret (je_non))) (jss_nil)) (jss_one (js_ret (je_Ty cj_intS Fx.bi_int bt_int (ja_cons (je_var 0) (ja_nil)))))
abbrev s_instruction_in : Stmt := top 26
def b_instruction_in : GS := sSeq (sAsg (gM1 fSplit (gVar 0) (gC (.str (PySem.Str.ofString " ")))) (dName 1)) (sRet (gF (f1 fTuple) (gaCons (gOp2 fAdd (gSl (gVar 1) (goNone) (goSome (gC (.int 1)))) (gLc [2] (gItems (gSl (gVar 1) (goSome (gC (.int 1))) (goNone))) (dName 2) (gYes) (gCall 1 (F_number_in) (gaCons (gVar 2) (gaNil))))) (gaNil))))
def F_instruction_in : List D → S → R D := runF 3 b_instruction_in
theorem sc_instruction_in : FnScope ["text", "words", "word"] ["text"] (defScope s_instruction_in) := ⟨rfl, rfl, rfl, by decide +kernel, rfl, by decide +kernel, by decide +kernel⟩
theorem j_instruction_in (Fx : Fx P w K mg ca) : JFn P w K mg base ca 2 "instruction_in" 1 F_instruction_in := by
  obtain ⟨f, fd, hm, F⟩ := Fx.d_instruction_in
  refine ⟨⟨f, fd, ["text"], hm, F.kp, F.bindsN (fun _ _ _ _ _ _ us hl => match us, hl with | [_], _ => rfl), rfl, fnJD F sc_instruction_in fun cdv A outer s H E hr => ?_⟩⟩
  have tk : Takes (cxOf (L2.CX P w) P w K mg base ["text", "words", "word"] "instruction_in" (defScope s_instruction_in) f cdv A outer s H E) (fun cls d _ H => E cls d H) := takes_of rfl rfl rfl rfl
  exact jss_cons (js_set 1 sc_instruction_in.nd (je_split (je_var 0) (je_str))) (jss_one (js_ret (je_Ty cj_tuple Fx.bi_tuple bt_tuple (ja_cons (je_op oj_add (je_slice (je_var 1) (jo_none) (jo_some (je_int))) (je_lc rfl sc_instruction_in.nd (ji_seq (je_slice (je_var 1) (jo_some (je_int)) (jo_none))) (blkOk_by (N := ["text", "words", "word"]) (sc := defScope s_instruction_in) (by decide +kernel)) (fun _ _ _ _ _ => pg_name (i := 2) sc_instruction_in.nd rfl (by first | exact Or.inl rfl | exact Or.inr rfl)) (fun _ _ _ _ _ => jts_nil) (fun _ _ _ _ _ => je_call (j_number_in Fx) (hr.mono (by decide)) takes0 (ja_cons (je_var 2) (ja_nil))))) (ja_nil)))))
abbrev s_core_in : Stmt := top 27
def b_core_in : GS := sRet (gIf (gB (gOp2 fEq (gVar 0) (gC (.str (PySem.Str.ofString "-"))))) (gTup (gaNil)) (gF (f1 fTuple) (gaCons (gLc [1] (gItems (gM1 fSplit (gVar 0) (gC (.str (PySem.Str.ofString "; "))))) (dName 1) (gYes) (gCall 1 (F_instruction_in) (gaCons (gVar 1) (gaNil)))) (gaNil))))
def F_core_in : List D → S → R D := runF 2 b_core_in
theorem sc_core_in : FnScope ["line", "part"] ["line"] (defScope s_core_in) := ⟨rfl, rfl, rfl, by decide +kernel, rfl, by decide +kernel, by decide +kernel⟩
theorem j_core_in (Fx : Fx P w K mg ca) : JFn P w K mg base ca 3 "core_in" 1 F_core_in := by
  obtain ⟨f, fd, hm, F⟩ := Fx.d_core_in
  refine ⟨⟨f, fd, ["line"], hm, F.kp, F.bindsN (fun _ _ _ _ _ _ us hl => match us, hl with | [_], _ => rfl), rfl, fnJD F sc_core_in fun cdv A outer s H E hr => ?_⟩⟩
  have tk : Takes (cxOf (L2.CX P w) P w K mg base ["line", "part"] "core_in" (defScope s_core_in) f cdv A outer s H E) (fun cls d _ H => E cls d H) := takes_of rfl rfl rfl rfl
  exact jss_one (js_ret (je_if (jt_cmp (oj_eq hr.units) (je_var 0) (je_str)) (je_tup (ja_nil)) (je_Ty cj_tuple Fx.bi_tuple bt_tuple (ja_cons (je_lc rfl sc_core_in.nd (ji_seq (je_split (je_var 0) (je_str))) (blkOk_by (N := ["line", "part"]) (sc := defScope s_core_in) (by decide +kernel)) (fun _ _ _ _ _ => pg_name (i := 1) sc_core_in.nd rfl (by first | exact Or.inl rfl | exact Or.inr rfl)) (fun _ _ _ _ _ => jts_nil) (fun _ _ _ _ _ => je_call (j_instruction_in Fx) (hr.mono (by decide)) takes0 (ja_cons (je_var 1) (ja_nil)))) (ja_nil)))))
abbrev s_write_program : Stmt := top 28
def b_write_program : GS := sSeq (sExpr (gCall 1 (F_need_program) (gaCons (gVar 0) (gaNil)))) (sSeq (sAsg (gLstM (gaNil)) (dName 1)) (sSeq (sFor (dName 2) (gItems (gVar 0)) (sSeq (sAsg (gLc [4] (gItems (gVar 2)) (dName 4) (gYes) (gM1 fJoin (gC (.str (PySem.Str.ofString " "))) (gLc [5] (gItems (gVar 4)) (dName 5) (gYes) (gF (f1 fStr) (gaCons (gVar 5) (gaNil)))))) (dName 3)) (sExpr (gApp (gVar 1) (gIf (gB (gOp2 fNe (gVar 3) (gLst (gaNil)))) (gM1 fJoin (gC (.str (PySem.Str.ofString "; "))) (gVar 3)) (gC (.str (PySem.Str.ofString "-")))))))) (sRet (gM1 fJoin (gC (.str (PySem.Str.ofString "\n"))) (gVar 1)))))
def F_write_program : List D → S → R D := runF 6 b_write_program
theorem sc_write_program : FnScope ["program", "lines", "core", "some", "instruction", "item"] ["program"] (defScope s_write_program) := ⟨rfl, rfl, rfl, by decide +kernel, rfl, by decide +kernel, by decide +kernel⟩
theorem j_write_program (Fx : Fx P w K mg ca) : JFn P w K mg base ca 6 "write_program" 1 F_write_program := by
  obtain ⟨f, fd, hm, F⟩ := Fx.d_write_program
  refine ⟨⟨f, fd, ["program"], hm, F.kp, F.bindsN (fun _ _ _ _ _ _ us hl => match us, hl with | [_], _ => rfl), rfl, fnJD F sc_write_program fun cdv A outer s H E hr => ?_⟩⟩
  have tk : Takes (cxOf (L2.CX P w) P w K mg base ["program", "lines", "core", "some", "instruction", "item"] "write_program" (defScope s_write_program) f cdv A outer s H E) (fun cls d _ H => E cls d H) := takes_of rfl rfl rfl rfl
  exact jss_cons (js_expr (je_call (j_need_program Fx) (hr.mono (by decide)) tk (ja_cons (je_var 0) (ja_nil)))) (jss_cons (js_set 1 sc_write_program.nd (je_lstM (ja_nil))) (jss_cons (js_for (passes_of rfl) rfl (ji_seq (je_var 0)) (jg_name 2 sc_write_program.nd) (jss_cons (js_setLc 3 rfl sc_write_program.nd (ji_seq (je_var 2)) (blkOk_by (N := ["program", "lines", "core", "some", "instruction", "item"]) (sc := defScope s_write_program) (by decide +kernel)) (fun _ _ _ _ _ => pg_name (i := 4) sc_write_program.nd rfl (by first | exact Or.inl rfl | exact Or.inr rfl)) (fun _ _ _ _ _ => jts_nil) (fun _ _ _ _ _ => je_join (je_str) (je_lc rfl sc_write_program.nd (ji_seq (je_var 4)) (blkOk_by (N := ["program", "lines", "core", "some", "instruction", "item"]) (sc := _) (by kernel_rfl)) (fun _ _ _ _ _ => pg_name (i := 5) sc_write_program.nd rfl (by first | exact Or.inl rfl | exact Or.inr rfl)) (fun _ _ _ _ _ => jts_nil) (fun _ _ _ _ _ => je_Ty cj_str Fx.bi_str bt_str (ja_cons (je_var 5) (ja_nil))))) (sw_true rfl rfl rfl (by decide +kernel))) (jss_one (js_expr (je_append (je_var 1) (je_if (jt_cmp (oj_ne hr.units) (je_var 3) (je_lst (ja_nil))) (je_join (je_str) (je_var 3)) (je_str))))))) (jss_one (js_ret (je_join (je_str) (je_var 1))))))
abbrev s_read_program : Stmt := top 29
def b_read_program : GS := sSeq (sExpr (gCall 1 (F_need_text) (gaCons (gVar 0) (gaNil)))) (sSeq (sPar 2 3 (gaCons (gM1 fSplit (gVar 0) (gC (.str (PySem.Str.ofString "\n")))) (gaCons (gLstM (gaNil)) (gaNil)))) (sSeq (sFor (dName 1) (gRange1 (gaCons (gF (f1 fLen) (gaCons (gVar 2) (gaNil))) (gaNil))) (sSeq (sAsg (gCall 1 (F_core_in) (gaCons (gOp2 fIdx (gVar 2) (gVar 1)) (gaNil))) (dName 4)) (sSeq (sIf (gOr (gB (gOp2 fEq (gVar 1) (gC c_MOST_CORES))) (gOr (gNot (gB (gCall 1 (F_is_core) (gaCons (gVar 4) (gaNil))))) (gB (gOp2 fGt (gOp2 fAdd (gF (f1 fSum) (gaCons (gLcM 5 (gVar 3) (gF (f1 fLen) (gaCons (gVar 5) (gaNil)))) (gaNil))) (gF (f1 fLen) (gaCons (gVar 4) (gaNil)))) (gC c_MOST_PROGRAM))))) (sRaise1 1 "line" (gOp2 fAdd (gVar 1) (gC (.int 1)))) (sNext)) (sExpr (gApp (gVar 3) (gVar 4)))))) (sRet (gF (f1 fTuple) (gaCons (gVar 3) (gaNil))))))
def F_read_program : List D → S → R D := runF 6 b_read_program
theorem sc_read_program : FnScope ["text", "index", "lines", "program", "core", "one"] ["text"] (defScope s_read_program) := ⟨rfl, rfl, rfl, by decide +kernel, rfl, by decide +kernel, by decide +kernel⟩
theorem j_read_program (Fx : Fx P w K mg ca) : JFn P w K mg base ca 5 "read_program" 1 F_read_program := by
  obtain ⟨f, fd, hm, F⟩ := Fx.d_read_program
  refine ⟨⟨f, fd, ["text"], hm, F.kp, F.bindsN (fun _ _ _ _ _ _ us hl => match us, hl with | [_], _ => rfl), rfl, fnJD F sc_read_program fun cdv A outer s H E hr => ?_⟩⟩
  have tk : Takes (cxOf (L2.CX P w) P w K mg base ["text", "index", "lines", "program", "core", "one"] "read_program" (defScope s_read_program) f cdv A outer s H E) (fun cls d _ H => E cls d H) := takes_of rfl rfl rfl rfl
  exact jss_cons (js_expr (je_call (j_need_text Fx) (hr.mono (by decide)) tk (ja_cons (je_var 0) (ja_nil)))) (jss_cons (js_par 2 3 rfl sc_read_program.nd (ja_cons (je_split (je_var 0) (je_str)) (ja_cons (je_lstM (ja_nil)) (ja_nil)))) (jss_cons (js_for (passes_of rfl) rfl (ji_range1 Fx.bi_range (ja_cons (je_B cj_len Fx.bi_len bt_len (ja_cons (je_var 2) (ja_nil))) (ja_nil))) (jg_name 1 sc_read_program.nd) (jss_cons (js_set 4 sc_read_program.nd (je_call (j_core_in Fx) (hr.mono (by decide)) tk (ja_cons (je_ix (je_var 2) (je_var 1)) (ja_nil)))) (jss_cons (js_if (jw_t (jw_or (jt_cmp (oj_eq hr.units) (je_var 1) (je_k Fx.c_MOST_CORES)) (jw_or (jt_not (jt_val (je_call (j_is_core Fx) (hr.mono (by decide)) tk (ja_cons (je_var 4) (ja_nil))))) (jw_or1 (jt_cmp oj_gt (je_op oj_add (je_B (cj_sum rfl) Fx.bi_sum bt_sum (ja_cons (je_lcM rfl sc_read_program.nd (je_var 3) (blkOk_by (N := ["text", "index", "lines", "program", "core", "one"]) (sc := defScope s_read_program) (by decide +kernel)) (by exact pure_lenVar _) (fun _ _ _ _ _ => pg_name (i := 5) sc_read_program.nd rfl (by first | exact Or.inl rfl | exact Or.inr rfl)) (fun _ _ _ _ _ => je_B cj_len Fx.bi_len bt_len (ja_cons (je_var 5) (ja_nil)))) (ja_nil))) (je_B cj_len Fx.bi_len bt_len (ja_cons (je_var 4) (ja_nil)))) (je_k Fx.c_MOST_PROGRAM)))))) (jss_one (js_raise1 (j := 0) Fx.e_InvalidText rfl tk (hr.mono (by decide)) (je_op oj_add (je_var 1) (je_int)))) (jss_nil)) (jss_one (js_expr (je_append (je_var 3) (je_var 4))))))) (jss_one (js_ret (je_Ty cj_tuple Fx.bi_tuple bt_tuple (ja_cons (je_var 3) (ja_nil)))))))
abbrev s_read_design : Stmt := top 30
def b_read_design : GS := sSeq (sExpr (gCall 1 (F_need_text) (gaCons (gVar 0) (gaNil)))) (sSeq (sAsg (gIf (gB (gOp2 fEq (gVar 0) (gC (.str (PySem.Str.ofString "-"))))) (gTup (gaNil)) (gF (f1 fTuple) (gaCons (gM1 fSplit (gVar 0) (gC (.str (PySem.Str.ofString " ")))) (gaNil)))) (dName 1)) (sSeq (sIf (gNot (gB (gCall 1 (F_is_design) (gaCons (gVar 1) (gaNil))))) (sRaise1 1 "line" (gC (.int 1))) (sNext)) (sRet (gVar 1))))
def F_read_design : List D → S → R D := runF 2 b_read_design
theorem sc_read_design : FnScope ["text", "design"] ["text"] (defScope s_read_design) := ⟨rfl, rfl, rfl, by decide +kernel, rfl, by decide +kernel, by decide +kernel⟩
theorem j_read_design (Fx : Fx P w K mg ca) : JFn P w K mg base ca 2 "read_design" 1 F_read_design := by
  obtain ⟨f, fd, hm, F⟩ := Fx.d_read_design
  refine ⟨⟨f, fd, ["text"], hm, F.kp, F.bindsN (fun _ _ _ _ _ _ us hl => match us, hl with | [_], _ => rfl), rfl, fnJD F sc_read_design fun cdv A outer s H E hr => ?_⟩⟩
  have tk : Takes (cxOf (L2.CX P w) P w K mg base ["text", "design"] "read_design" (defScope s_read_design) f cdv A outer s H E) (fun cls d _ H => E cls d H) := takes_of rfl rfl rfl rfl
  exact jss_cons (js_expr (je_call (j_need_text Fx) (hr.mono (by decide)) tk (ja_cons (je_var 0) (ja_nil)))) (jss_cons (js_set 1 sc_read_design.nd (je_if (jt_cmp (oj_eq hr.units) (je_var 0) (je_str)) (je_tup (ja_nil)) (je_Ty cj_tuple Fx.bi_tuple bt_tuple (ja_cons (je_split (je_var 0) (je_str)) (ja_nil))))) (jss_cons (js_if (jt_not (jt_val (je_call (j_is_design Fx) (hr.mono (by decide)) tk (ja_cons (je_var 1) (ja_nil))))) (jss_one (js_raise1 (j := 0) Fx.e_InvalidText rfl tk (hr.mono (by decide)) (je_int))) (jss_nil)) (jss_one (js_ret (je_var 1)))))
abbrev s_law_taken : Stmt := top 32
def b_law_taken : GS := sSeq (sIf (gB (gOp2 fGt (gOp2 fIdx (gVar 0) (gC (.int 3))) (gC (.int 0)))) (sSeq (sAsg (gOp2 fMod (gF (f1 fInt) (gaCons (gOp2 fIdx (gVar 0) (gC (.int 3))) (gaNil))) (gVar 1)) (dName 3)) (sSeq (sSetIx (gOp2 fDiv (gOp2 fIdx (gVar 0) (gC (.int 3))) (gVar 1)) (gVar 0) (gC (.int 3))) (sRet (gVar 3)))) (sNext)) (sSeq (sSetIx (gOp2 fAdd (gOp2 fIdx (gVar 0) (gC (.int 1))) (gC (.int 1))) (gVar 0) (gC (.int 1))) (sSeq (sIf (gB (gOp2 fGt (gOp2 fIdx (gVar 0) (gC (.int 1))) (gF (f1 fLen) (gaCons (gOp2 fIdx (gVar 0) (gC (.int 0))) (gaNil))))) (sSeq (sSetIx (gOp2 fMod (gF (f1 fInt) (gaCons (gOp2 fAdd (gOp2 fMul (gOp2 fIdx (gVar 0) (gC (.int 2))) (gC (.int 48271))) (gC (.int 11))) (gaNil))) (gC (.int 2147483647))) (gVar 0) (gC (.int 2))) (sRet (gOp2 fMod (gF (f1 fInt) (gaCons (gOp2 fDiv (gOp2 fIdx (gVar 0) (gC (.int 2))) (gC (.int 7))) (gaNil))) (gVar 1)))) (sNext)) (sSeq (sAsg (gOp2 fIdx (gOp2 fIdx (gVar 0) (gC (.int 0))) (gOp2 fSub (gOp2 fIdx (gVar 0) (gC (.int 1))) (gC (.int 1)))) (dName 2)) (sSeq (sSetIx (gOp2 fMod (gF (f1 fInt) (gaCons (gOp2 fAdd (gOp2 fAdd (gOp2 fMul (gOp2 fIdx (gVar 0) (gC (.int 2))) (gC (.int 48271))) (gVar 2)) (gC (.int 11))) (gaNil))) (gC (.int 2147483647))) (gVar 0) (gC (.int 2))) (sSeq (sIf (gB (gOp2 fGe (gVar 2) (gOp2 fPow (gC (.int 10)) (gC (.int 18))))) (sSetIx (gOp2 fDiv (gVar 2) (gVar 1)) (gVar 0) (gC (.int 3))) (sNext)) (sRet (gOp2 fMod (gF (f1 fInt) (gaCons (gVar 2) (gaNil))) (gVar 1))))))))
def F_law_taken : List D → S → R D := runF 4 b_law_taken
theorem sc_law_taken : FnScope ["_law_row", "_law_many", "_law_cell", "_law_found"] ["_law_row", "_law_many"] (defScope s_law_taken) := ⟨rfl, rfl, rfl, by decide +kernel, rfl, by decide +kernel, by decide +kernel⟩
theorem j_law_taken (Fx : Fx P w K mg ca) : JFn P w K mg base ca 1 "_law_taken" 2 F_law_taken := by
  obtain ⟨f, fd, hm, F⟩ := Fx.d_law_taken
  refine ⟨⟨f, fd, ["_law_row", "_law_many"], hm, F.kp, F.bindsN (fun _ _ _ _ _ _ us hl => match us, hl with | [_, _], _ => rfl), rfl, fnJD F sc_law_taken fun cdv A outer s H E hr => ?_⟩⟩
  have tk : Takes (cxOf (L2.CX P w) P w K mg base ["_law_row", "_law_many", "_law_cell", "_law_found"] "_law_taken" (defScope s_law_taken) f cdv A outer s H E) (fun cls d _ H => E cls d H) := takes_of rfl rfl rfl rfl
  exact jss_cons (js_if (jt_cmp oj_gt (je_ix (je_var 0) (je_int)) (je_int)) (jss_cons (js_set 3 sc_law_taken.nd (je_op oj_mod (je_Ty cj_int Fx.bi_int bt_int (ja_cons (je_ix (je_var 0) (je_int)) (ja_nil))) (je_var 1))) (jss_cons (js_setIx (je_op oj_div (je_ix (je_var 0) (je_int)) (je_var 1)) (je_var 0) (je_int)) (jss_one (js_ret (je_var 3))))) (jss_nil)) (jss_cons (js_setIx (je_op oj_add (je_ix (je_var 0) (je_int)) (je_int)) (je_var 0) (je_int)) (jss_cons (js_if (jt_cmp oj_gt (je_ix (je_var 0) (je_int)) (je_B cj_len Fx.bi_len bt_len (ja_cons (je_ix (je_var 0) (je_int)) (ja_nil)))) (jss_cons (js_setIx (je_op oj_mod (je_Ty cj_int Fx.bi_int bt_int (ja_cons (je_op oj_add (je_op oj_mul (je_ix (je_var 0) (je_int)) (je_int)) (je_int)) (ja_nil))) (je_int)) (je_var 0) (je_int)) (jss_one (js_ret (je_op oj_mod (je_Ty cj_int Fx.bi_int bt_int (ja_cons (je_op oj_div (je_ix (je_var 0) (je_int)) (je_int)) (ja_nil))) (je_var 1))))) (jss_nil)) (jss_cons (js_set 2 sc_law_taken.nd (je_ix (je_ix (je_var 0) (je_int)) (je_op oj_sub (je_ix (je_var 0) (je_int)) (je_int)))) (jss_cons (js_setIx (je_op oj_mod (je_Ty cj_int Fx.bi_int bt_int (ja_cons (je_op oj_add (je_op oj_add (je_op oj_mul (je_ix (je_var 0) (je_int)) (je_int)) (je_var 2)) (je_int)) (ja_nil))) (je_int)) (je_var 0) (je_int)) (jss_cons (js_if (jt_cmp oj_ge (je_var 2) (je_op oj_pow (je_int) (je_int))) (jss_one (js_setIx (je_op oj_div (je_var 2) (je_var 1)) (je_var 0) (je_int))) (jss_nil)) (jss_one (js_ret (je_op oj_mod (je_Ty cj_int Fx.bi_int bt_int (ja_cons (je_var 2) (ja_nil))) (je_var 1)))))))))
abbrev s_law_pick : Stmt := top 33
def b_law_pick : GS := sRet (gOp2 fIdx (gVar 1) (gCall 2 (F_law_taken) (gaCons (gVar 0) (gaCons (gF (f1 fLen) (gaCons (gVar 1) (gaNil))) (gaNil)))))
def F_law_pick : List D → S → R D := runF 2 b_law_pick
theorem sc_law_pick : FnScope ["_law_row", "_law_kinds"] ["_law_row", "_law_kinds"] (defScope s_law_pick) := ⟨rfl, rfl, rfl, by decide +kernel, rfl, by decide +kernel, by decide +kernel⟩
theorem j_law_pick (Fx : Fx P w K mg ca) : JFn P w K mg base ca 2 "_law_pick" 2 F_law_pick := by
  obtain ⟨f, fd, hm, F⟩ := Fx.d_law_pick
  refine ⟨⟨f, fd, ["_law_row", "_law_kinds"], hm, F.kp, F.bindsN (fun _ _ _ _ _ _ us hl => match us, hl with | [_, _], _ => rfl), rfl, fnJD F sc_law_pick fun cdv A outer s H E hr => ?_⟩⟩
  have tk : Takes (cxOf (L2.CX P w) P w K mg base ["_law_row", "_law_kinds"] "_law_pick" (defScope s_law_pick) f cdv A outer s H E) (fun cls d _ H => E cls d H) := takes_of rfl rfl rfl rfl
  exact jss_one (js_ret (je_ix (je_var 1) (je_call (j_law_taken Fx) (hr.mono (by decide)) tk (ja_cons (je_var 0) (ja_cons (je_B cj_len Fx.bi_len bt_len (ja_cons (je_var 1) (ja_nil))) (ja_nil))))))
abbrev s_law_instruction : Stmt := top 34
def b_law_instruction : GS := sSeq (sAsg (gCall 2 (F_law_pick) (gaCons (gVar 0) (gaCons (gLst (gaCons (gC (.str (PySem.Str.ofString "read"))) (gaCons (gC (.str (PySem.Str.ofString "read"))) (gaCons (gC (.str (PySem.Str.ofString "read"))) (gaCons (gC (.str (PySem.Str.ofString "write"))) (gaCons (gC (.str (PySem.Str.ofString "write"))) (gaCons (gC (.str (PySem.Str.ofString "write"))) (gaCons (gC (.str (PySem.Str.ofString "copy"))) (gaCons (gC (.str (PySem.Str.ofString "fence"))) (gaCons (gC (.str (PySem.Str.ofString "guard"))) (gaNil))))))))))) (gaNil)))) (dName 1)) (sSeq (sIf (gB (gOp2 fEq (gVar 1) (gC (.str (PySem.Str.ofString "fence"))))) (sRet (gTup (gaCons (gC (.str (PySem.Str.ofString "fence"))) (gaNil)))) (sNext)) (sSeq (sIf (gB (gOp2 fEq (gVar 1) (gC (.str (PySem.Str.ofString "write"))))) (sRet (gTup (gaCons (gC (.str (PySem.Str.ofString "write"))) (gaCons (gCall 2 (F_law_taken) (gaCons (gVar 0) (gaCons (gC (.int 2)) (gaNil)))) (gaCons (gOp2 fAdd (gC (.int 1)) (gCall 2 (F_law_taken) (gaCons (gVar 0) (gaCons (gC (.int 3)) (gaNil))))) (gaNil)))))) (sNext)) (sSeq (sIf (gB (gOp2 fEq (gVar 1) (gC (.str (PySem.Str.ofString "copy"))))) (sRet (gTup (gaCons (gC (.str (PySem.Str.ofString "copy"))) (gaCons (gCall 2 (F_law_taken) (gaCons (gVar 0) (gaCons (gC (.int 2)) (gaNil)))) (gaCons (gCall 2 (F_law_taken) (gaCons (gVar 0) (gaCons (gC (.int 2)) (gaNil)))) (gaNil)))))) (sNext)) (sRet (gTup (gaCons (gVar 1) (gaCons (gCall 2 (F_law_taken) (gaCons (gVar 0) (gaCons (gC (.int 2)) (gaNil)))) (gaCons (gCall 2 (F_law_taken) (gaCons (gVar 0) (gaCons (gC (.int 2)) (gaNil)))) (gaNil)))))))))
def F_law_instruction : List D → S → R D := runF 2 b_law_instruction
theorem sc_law_instruction : FnScope ["_law_row", "_law_kind"] ["_law_row"] (defScope s_law_instruction) := ⟨rfl, rfl, rfl, by decide +kernel, rfl, by decide +kernel, by decide +kernel⟩
theorem j_law_instruction (Fx : Fx P w K mg ca) : JFn P w K mg base ca 3 "_law_instruction" 1 F_law_instruction := by
  obtain ⟨f, fd, hm, F⟩ := Fx.d_law_instruction
  refine ⟨⟨f, fd, ["_law_row"], hm, F.kp, F.bindsN (fun _ _ _ _ _ _ us hl => match us, hl with | [_], _ => rfl), rfl, fnJD F sc_law_instruction fun cdv A outer s H E hr => ?_⟩⟩
  have tk : Takes (cxOf (L2.CX P w) P w K mg base ["_law_row", "_law_kind"] "_law_instruction" (defScope s_law_instruction) f cdv A outer s H E) (fun cls d _ H => E cls d H) := takes_of rfl rfl rfl rfl
  exact jss_cons (js_set 1 sc_law_instruction.nd (je_call (j_law_pick Fx) (hr.mono (by decide)) tk (ja_cons (je_var 0) (ja_cons (je_lst (ja_cons (je_str) (ja_cons (je_str) (ja_cons (je_str) (ja_cons (je_str) (ja_cons (je_str) (ja_cons (je_str) (ja_cons (je_str) (ja_cons (je_str) (ja_cons (je_str) (ja_nil))))))))))) (ja_nil))))) (jss_cons (js_if (jt_cmp (oj_eq hr.units) (je_var 1) (je_str)) (jss_one (js_ret (je_tup (ja_cons (je_str) (ja_nil))))) (jss_nil)) (jss_cons (js_if (jt_cmp (oj_eq hr.units) (je_var 1) (je_str)) (jss_one (js_ret (je_tup (ja_cons (je_str) (ja_cons (je_call (j_law_taken Fx) (hr.mono (by decide)) tk (ja_cons (je_var 0) (ja_cons (je_int) (ja_nil)))) (ja_cons (je_op oj_add (je_int) (je_call (j_law_taken Fx) (hr.mono (by decide)) tk (ja_cons (je_var 0) (ja_cons (je_int) (ja_nil))))) (ja_nil))))))) (jss_nil)) (jss_cons (js_if (jt_cmp (oj_eq hr.units) (je_var 1) (je_str)) (jss_one (js_ret (je_tup (ja_cons (je_str) (ja_cons (je_call (j_law_taken Fx) (hr.mono (by decide)) tk (ja_cons (je_var 0) (ja_cons (je_int) (ja_nil)))) (ja_cons (je_call (j_law_taken Fx) (hr.mono (by decide)) tk (ja_cons (je_var 0) (ja_cons (je_int) (ja_nil)))) (ja_nil))))))) (jss_nil)) (jss_one (js_ret (je_tup (ja_cons (je_var 1) (ja_cons (je_call (j_law_taken Fx) (hr.mono (by decide)) tk (ja_cons (je_var 0) (ja_cons (je_int) (ja_nil)))) (ja_cons (je_call (j_law_taken Fx) (hr.mono (by decide)) tk (ja_cons (je_var 0) (ja_cons (je_int) (ja_nil)))) (ja_nil))))))))))
abbrev s_law_program : Stmt := top 35
def b_law_program : GS := sSeq (sPar 3 4 (gaCons (gVar 1) (gaCons (gTup (gaNil)) (gaNil)))) (sSeq (sFor (dName 2) (gRange1 (gaCons (gOp2 fAdd (gC (.int 1)) (gCall 2 (F_law_pick) (gaCons (gVar 0) (gaCons (gLst (gaCons (gC (.int 0)) (gaCons (gC (.int 1)) (gaCons (gC (.int 1)) (gaCons (gC (.int 1)) (gaCons (gC (.int 2)) (gaNil))))))) (gaNil))))) (gaNil))) (sSeq (sAsg (gF (fMin) (gaCons (gVar 3) (gaCons (gCall 2 (F_law_taken) (gaCons (gVar 0) (gaCons (gC (.int 5)) (gaNil)))) (gaNil)))) (dName 5)) (sSeq (sAsg (gOp2 fAdd (gVar 4) (gTup (gaCons (gF (f1 fTuple) (gaCons (gLc [6] (gRange1 (gaCons (gVar 5) (gaNil))) (dName 6) (gYes) (gCall 1 (F_law_instruction) (gaCons (gVar 0) (gaNil)))) (gaNil))) (gaNil)))) (dName 4)) (sAsg (gOp2 fSub (gVar 3) (gVar 5)) (dName 3))))) (sRet (gVar 4)))
def F_law_program : List D → S → R D := runF 7 b_law_program
theorem sc_law_program : FnScope ["_law_row", "_law_most", "_law_turn", "_law_left", "_law_found", "_law_many", "_law_step"] ["_law_row", "_law_most"] (defScope s_law_program) := ⟨rfl, rfl, rfl, by decide +kernel, rfl, by decide +kernel, by decide +kernel⟩
theorem j_law_program (Fx : Fx P w K mg ca) : JFn P w K mg base ca 4 "_law_program" 2 F_law_program := by
  obtain ⟨f, fd, hm, F⟩ := Fx.d_law_program
  refine ⟨⟨f, fd, ["_law_row", "_law_most"], hm, F.kp, F.bindsN (fun _ _ _ _ _ _ us hl => match us, hl with | [_, _], _ => rfl), rfl, fnJD F sc_law_program fun cdv A outer s H E hr => ?_⟩⟩
  have tk : Takes (cxOf (L2.CX P w) P w K mg base ["_law_row", "_law_most", "_law_turn", "_law_left", "_law_found", "_law_many", "_law_step"] "_law_program" (defScope s_law_program) f cdv A outer s H E) (fun cls d _ H => E cls d H) := takes_of rfl rfl rfl rfl
  exact jss_cons (js_par 3 4 rfl sc_law_program.nd (ja_cons (je_var 1) (ja_cons (je_tup (ja_nil)) (ja_nil)))) (jss_cons (js_for (passes_of rfl) rfl (ji_range1 Fx.bi_range (ja_cons (je_op oj_add (je_int) (je_call (j_law_pick Fx) (hr.mono (by decide)) tk (ja_cons (je_var 0) (ja_cons (je_lst (ja_cons (je_int) (ja_cons (je_int) (ja_cons (je_int) (ja_cons (je_int) (ja_cons (je_int) (ja_nil))))))) (ja_nil))))) (ja_nil))) (jg_name 2 sc_law_program.nd) (jss_cons (js_set 5 sc_law_program.nd (je_B (cj_min rfl) Fx.bi_min bt_min (ja_cons (je_var 3) (ja_cons (je_call (j_law_taken Fx) (hr.mono (by decide)) tk (ja_cons (je_var 0) (ja_cons (je_int) (ja_nil)))) (ja_nil))))) (jss_cons (js_set 4 sc_law_program.nd (je_op oj_add (je_var 4) (je_tup (ja_cons (je_Ty cj_tuple Fx.bi_tuple bt_tuple (ja_cons (je_lc rfl sc_law_program.nd (ji_range1 Fx.bi_range (ja_cons (je_var 5) (ja_nil))) (blkOk_by (N := ["_law_row", "_law_most", "_law_turn", "_law_left", "_law_found", "_law_many", "_law_step"]) (sc := defScope s_law_program) (by decide +kernel)) (fun _ _ _ _ _ => pg_name (i := 6) sc_law_program.nd rfl (by first | exact Or.inl rfl | exact Or.inr rfl)) (fun _ _ _ _ _ => jts_nil) (fun _ _ _ _ _ => je_call (j_law_instruction Fx) (hr.mono (by decide)) takes0 (ja_cons (je_var 0) (ja_nil)))) (ja_nil))) (ja_nil))))) (jss_one (js_set 3 sc_law_program.nd (je_op oj_sub (je_var 3) (je_var 5))))))) (jss_one (js_ret (je_var 4))))
abbrev s_law_wrong : Stmt := top 36
theorem sc_law_wrong : FnScope ["_law_work", "e"] ["_law_work"] (defScope s_law_wrong) := ⟨rfl, rfl, rfl, by decide +kernel, rfl, by decide +kernel, by decide +kernel⟩
def gs_law_wrong (K : PySem.W.Frag) (ca : Ct) (i : Nat) (fx : Option (Addr × Str × V)) (a' : Addr) : GS := sRet (gIf (gB (gIsE (fun a2 E => if a2 = a' then PySem.W.kitOne K (.ref (ca.c i)) (.ref E) else none) (gVar 1) (gC (.raw (ca.c 1))))) (gXfH a' fx "line" (gVar 1)) (gIf (gB (gIsE (fun a2 E => if a2 = a' then PySem.W.kitOne K (.ref (ca.c i)) (.ref E) else none) (gVar 1) (gC (.raw (ca.c 0))))) (gC (.str (PySem.Str.ofString "text"))) (gC (.str (PySem.Str.ofString "other")))))
def fl_law_wrong : Nat → Option Str
  | 1 => some "line"
  | _ => none
def hd_law_wrong : Ex → S → R D := fun e s => match e.arg, e.cls with
  | some (f, x), 1 => if f = "line" then (match dV x with | some _ => .ok (x) s | none => .no) else .no
  | none, 0 => .ok (.str (PySem.Str.ofString "text")) s
  | _, _ => .no
theorem g_law_wrong {X : Cx} {ca : Ct} (Fx : Fx X.prog X.w X.K X.mg ca) (hx0 : ca.x = []) {g : Addr} {cdg : Value} {q : Str} : LamX.GivesTo X ["_law_work", "e"] "_law_wrong" (defScope s_law_wrong) g cdg (defBody s_law_wrong) "_law_work" q (TTw X.K ca (.str (PySem.Str.ofString "")) hd_law_wrong) := by
  obtain ⟨C, hC, hx⟩ := Fx.xb
  refine gives_wrongH (j := 1) (hd := hd_law_wrong) (cls := [0, 1]) (fld := fl_law_wrong) (gs := gs_law_wrong X.K ca) sc_law_wrong.nd rfl rfl rfl hC (by decide) hx0 (fun _ => rfl) (fun _ _ => pe_str) hx Fx.xc (fun i hi n hn => ?_) (fun s H i hi a' oe pn fx T => ?_) (fun e s d s2 h => ?_)
  · simp only [List.mem_cons, List.not_mem_nil, or_false] at hi
    rcases hi with rfl | rfl
    · exact absurd hn (by simp [fl_law_wrong])
    · have e := Option.some.inj (show some ("line" : Str) = some n from hn)
      subst e
      exact Fx.xn_InvalidText
  · have Fx := G.Fx.hold Fx fx
    exact jss_one (js_ret (je_if (jt_val (je_isH (b := fun E => PySem.W.kitOne X.K (.ref (ca.c i)) (.ref E)) T (fun _ _ h => h) Fx.bi_isinstance (je_var 1) (je_glob (v := .ref (ca.c 1)) Fx.e_InvalidText.g rfl (fun _ _ => .raw _)))) (je_xfH T (je_var 1)) (je_if (jt_val (je_isH (b := fun E => PySem.W.kitOne X.K (.ref (ca.c i)) (.ref E)) T (fun _ _ h => h) Fx.bi_isinstance (je_var 1) (je_glob (v := .ref (ca.c 0)) Fx.x_NotText.g rfl (fun _ _ => .raw _)))) (je_str) (je_str))))
  · obtain ⟨c, ar⟩ := e
    unfold hd_law_wrong at h
    simp only at h
    split at h
    · split at h
      · rename_i ef
        subst ef
        split at h
        · rename_i v ev
          cases h
          refine ⟨(show (1 : Nat) ∈ ([0, 1] : List Nat) by decide), .inr ⟨_, _, v, rfl, rfl, ev, fun a' dd => ?_⟩⟩
          have ed := vD_dV ev
          simp [gs_law_wrong, sRet, sIf, sSeq, sNext, gIf, gB, gIsE, gVar, gC, gXfH, gXf, J.gTup, gaCons, gaNil, Fx.xk 1 0 (by decide) (by decide), Fx.xk 1 1 (by decide) (by decide), ed]
        · cases h
      · cases h
    · cases h
      refine ⟨(show (0 : Nat) ∈ ([0, 1] : List Nat) by decide), .inl ⟨rfl, fun a' => ?_⟩⟩
      simp [gs_law_wrong, sRet, sIf, sSeq, sNext, gIf, gB, gIsE, gVar, gC, gXfH, gXf, J.gTup, gaCons, gaNil, Fx.xk 0 0 (by decide) (by decide), Fx.xk 0 1 (by decide) (by decide)]
    · cases h
abbrev s_law : Stmt := top 37
abbrev lam0 : LamD := lamOf ((asgL ((defBody s_law).getD 13 (.Pass ⟨0, 0, 0, 0⟩))).getD 1 (.Constant .none 0 ⟨0, 0, 0, 0⟩))
def g_lam0 : GE := gCall 1 (F_read_design) (gaCons (gCall 2 (F_law_pick) (gaCons (gVar 1) (gaCons (gLst (gaCons (gC .non) (gaCons (gTup (gaCons (gC (.str (PySem.Str.ofString "rr"))) (gaNil))) (gaCons (gC (.int 0)) (gaNil))))) (gaNil)))) (gaNil))
abbrev lam1 : LamD := lamOf ((asgL ((defBody s_law).getD 13 (.Pass ⟨0, 0, 0, 0⟩))).getD 0 (.Constant .none 0 ⟨0, 0, 0, 0⟩))
def g_lam1 : GE := gCall 1 (F_read_program) (gaCons (gCall 2 (F_law_pick) (gaCons (gVar 1) (gaCons (gLst (gaCons (gC .non) (gaCons (gC (.int 5)) (gaCons (gVar 3) (gaCons (gC (.bl true)) (gaNil)))))) (gaNil)))) (gaNil))
def lamT (X : Cx) : Nat → Option LamD
  | 0 => some (lam0.at_ X [.int 0])
  | 1 => some (lam1.at_ X [])
  | _ => none
def gl_law : Nat → GE
  | 0 => g_lam0
  | 1 => g_lam1
  | _ => fun _ _ => .no
def b_law : GS := sSeq (sAsg (gLstM (gaCons (gVar 0) (gaCons (gC (.int 0)) (gaCons (gC (.int 14251)) (gaCons (gC (.int 0)) (gaNil)))))) (dName 1)) (sSeq (sAsg (gCall 2 (F_law_program) (gaCons (gVar 1) (gaCons (gC (.int 6)) (gaNil)))) (dName 2)) (sSeq (sAsg (gM1 fSplit (gCall 1 (F_write_program) (gaCons (gVar 2) (gaNil))) (gC (.str (PySem.Str.ofString "\n")))) (dName 3)) (sSeq (sAsg (gCall 2 (F_law_taken) (gaCons (gVar 1) (gaCons (gF (f1 fLen) (gaCons (gVar 3) (gaNil))) (gaNil)))) (dName 4)) (sSeq (sAsg (gLst (gaCons (gC (.str (PySem.Str.ofString ""))) (gaCons (gC (.str (PySem.Str.ofString "read 0"))) (gaCons (gC (.str (PySem.Str.ofString "read 2 0"))) (gaCons (gC (.str (PySem.Str.ofString "read 0 3"))) (gaCons (gC (.str (PySem.Str.ofString "read 00 1"))) (gaCons (gC (.str (PySem.Str.ofString "write 0 10"))) (gaCons (gC (.str (PySem.Str.ofString "write 0 01"))) (gaCons (gC (.str (PySem.Str.ofString "Fence"))) (gaCons (gC (.str (PySem.Str.ofString "fence 0"))) (gaCons (gC (.str (PySem.Str.ofString "fence "))) (gaCons (gC (.str (PySem.Str.ofString " fence"))) (gaCons (gC (.str (PySem.Str.ofString "fence;fence"))) (gaNil)))))))))))))) (dName 5)) (sSeq (sAsg (gOp2 fAdd (gVar 5) (gLst (gaCons (gC (.str (PySem.Str.ofString "fence; "))) (gaCons (gC (.str (PySem.Str.ofString "; fence"))) (gaCons (gC (.str (PySem.Str.ofString "fence;  fence"))) (gaCons (gC (.str (PySem.Str.ofString "- "))) (gaCons (gC (.str (PySem.Str.ofString "--"))) (gaCons (gC (.str (PySem.Str.ofString "guard 0"))) (gaCons (gC (.str (PySem.Str.ofString "copy 0 2"))) (gaCons (gC (.str (PySem.Str.ofString "fence; fence; fence; fence; fence; fence"))) (gaCons (gC (.str (PySem.Str.ofString "hop 0 0"))) (gaCons (gC (.str (PySem.Str.ofString "read 0 -1"))) (gaNil))))))))))))) (dName 5)) (sSeq (sAsg (gOp2 fAdd (gOp2 fAdd (gSl (gVar 3) (goNone) (goSome (gVar 4))) (gLst (gaCons (gOp2 fIdx (gVar 5) (gCall 2 (F_law_taken) (gaCons (gVar 1) (gaCons (gF (f1 fLen) (gaCons (gVar 5) (gaNil))) (gaNil))))) (gaNil)))) (gSl (gVar 3) (goSome (gOp2 fAdd (gVar 4) (gC (.int 1)))) (goNone))) (dName 6)) (sSeq (sIf (gB (gOp2 fNe (gWrong (.str (PySem.Str.ofString "")) hd_law_wrong (gCall 1 (F_read_program) (gaCons (gM1 fJoin (gC (.str (PySem.Str.ofString "\n"))) (gVar 6)) (gaNil)))) (gOp2 fAdd (gVar 4) (gC (.int 1))))) (sRet (gC (.bl false))) (sNext)) (sSeq (sIf (gOr (gB (gOp2 fNe (gWrong (.str (PySem.Str.ofString "")) hd_law_wrong (gCall 1 (F_read_program) (gaCons (gM1 fJoin (gC (.str (PySem.Str.ofString "\n"))) (gOp2 fMul (gLst (gaCons (gC (.str (PySem.Str.ofString "-"))) (gaNil))) (gC (.int 4)))) (gaNil)))) (gC (.int 4)))) (gB (gOp2 fNe (gCall 1 (F_read_program) (gaCons (gM1 fJoin (gC (.str (PySem.Str.ofString "\n"))) (gOp2 fMul (gLst (gaCons (gC (.str (PySem.Str.ofString "-"))) (gaNil))) (gC (.int 3)))) (gaNil))) (gTup (gaCons (gTup (gaNil)) (gaCons (gTup (gaNil)) (gaCons (gTup (gaNil)) (gaNil)))))))) (sRet (gC (.bl false))) (sNext)) (sSeq (sAsg (gM1 fJoin (gC (.str (PySem.Str.ofString "; "))) (gOp2 fMul (gLst (gaCons (gC (.str (PySem.Str.ofString "fence"))) (gaNil))) (gC (.int 5)))) (dName 7)) (sSeq (sIf (gOr (gB (gOp2 fNe (gWrong (.str (PySem.Str.ofString "")) hd_law_wrong (gCall 1 (F_read_program) (gaCons (gM1 fJoin (gC (.str (PySem.Str.ofString "\n"))) (gLst (gaCons (gVar 7) (gaCons (gVar 7) (gaCons (gC (.str (PySem.Str.ofString "fence"))) (gaNil)))))) (gaNil)))) (gC (.int 3)))) (gB (gOp2 fNe (gF (f1 fLen) (gaCons (gCall 1 (F_read_program) (gaCons (gM1 fJoin (gC (.str (PySem.Str.ofString "\n"))) (gLst (gaCons (gVar 7) (gaCons (gVar 7) (gaCons (gC (.str (PySem.Str.ofString "-"))) (gaNil)))))) (gaNil))) (gaNil))) (gC (.int 3))))) (sRet (gC (.bl false))) (sNext)) (sSeq (sAsg (gCall 2 (F_law_pick) (gaCons (gVar 1) (gaCons (gLst (gaCons (gC (.str (PySem.Str.ofString ""))) (gaCons (gC (.str (PySem.Str.ofString "rr rr"))) (gaCons (gC (.str (PySem.Str.ofString "ww rr"))) (gaCons (gC (.str (PySem.Str.ofString "RR"))) (gaCons (gC (.str (PySem.Str.ofString "rr "))) (gaCons (gC (.str (PySem.Str.ofString " rr"))) (gaCons (gC (.str (PySem.Str.ofString "rr  ww"))) (gaCons (gC (.str (PySem.Str.ofString "rr\nww"))) (gaCons (gC (.str (PySem.Str.ofString "- rr"))) (gaCons (gC (.str (PySem.Str.ofString "all"))) (gaNil)))))))))))) (gaNil)))) (dName 8)) (sSeq (sIf (gB (gOp2 fNe (gWrong (.str (PySem.Str.ofString "")) hd_law_wrong (gCall 1 (F_read_design) (gaCons (gVar 8) (gaNil)))) (gC (.int 1)))) (sRet (gC (.bl false))) (sNext)) (sSeq (sAsg (gLst (gaCons (gLam 1) (gaCons (gLam 0) (gaNil)))) (dName 9)) (sRet (gOp2 fEq (gWrongL (.str (PySem.Str.ofString "")) hd_law_wrong gl_law (gOp2 fIdx (gVar 9) (gCall 2 (F_law_taken) (gaCons (gVar 1) (gaCons (gC (.int 2)) (gaNil)))))) (gC (.str (PySem.Str.ofString "text"))))))))))))))))))
def F_law : List D → S → R D := runF 10 b_law
theorem sc_law : FnScope ["_law_script", "_law_row", "_law_program_here", "_law_lines", "_law_at", "_law_odd", "_law_bad", "_law_five", "_law_wrong_here", "_law_works"] ["_law_script"] (defScope s_law) := ⟨rfl, rfl, rfl, by decide +kernel, rfl, by decide +kernel, by decide +kernel⟩
theorem j_law (Fx : Fx P w K mg ca) (hx0 : ca.x = []) {f c Pt : Addr} {fd : FuncData} (F : FunD K "law" "law" (defArgs s_law) (defBody s_law) (defScope s_law) [] [] f fd) (hf : He.fAd K ("law", none) = f) (hc : He.codeOf K ("law", none) = c) (TB : LamX.TabB base mg c Pt) (hT : ca.T = [(Pt, (("law" : Str) ++ ".<locals>.") ++ "<lambda>")]) : FnOk P w K mg base (L2.CX P w) 8 f fd ["_law_script"] (spL K ca 1 F_law) := by
  obtain ⟨gW, fdW, hmW, FW⟩ := Fx.d_law_wrong
  have bW := FW.bindsN (ps := ["_law_work"]) (fun _ _ _ _ _ _ us hl => match us, hl with | [_], _ => rfl)
  have hkW := FW.kp
  obtain ⟨ocW, odW, dVW, kVW, docW, pmW, anW, cdvW, ctW, oslW, rfl, lkW, hcgW, _, _⟩ := FW.ex
  refine fnJLL (k := 7) (lams := lamT) F sc_law hf hc fun cdv A outer s H E hcdv hr => ?_
  have Fx := G.Fx.lamx Fx (lamT (cxOf (L2.CX P w) P w K mg base ["_law_script", "_law_row", "_law_program_here", "_law_lines", "_law_at", "_law_odd", "_law_bad", "_law_five", "_law_wrong_here", "_law_works"] "law" (defScope s_law) f cdv A outer s H E))
  have tk : Takes (cxOf (L2.CX P w) P w K mg base ["_law_script", "_law_row", "_law_program_here", "_law_lines", "_law_at", "_law_odd", "_law_bad", "_law_five", "_law_wrong_here", "_law_works"] "law" (defScope s_law) f cdv A outer s H E) (fun cls d _ H => E cls d H) := takes_of rfl rfl rfl rfl
  have hx0 : ({ ca with lam := lamT (cxOf (L2.CX P w) P w K mg base ["_law_script", "_law_row", "_law_program_here", "_law_lines", "_law_at", "_law_odd", "_law_bad", "_law_five", "_law_wrong_here", "_law_works"] "law" (defScope s_law) f cdv A outer s H E) } : Ct).x = [] := hx0
  have hu : ∀ p ∈ ca.T, p.1 = Pt → p.2 = lamQ (cxOf (L2.CX P w) P w K mg base ["_law_script", "_law_row", "_law_program_here", "_law_lines", "_law_at", "_law_odd", "_law_bad", "_law_five", "_law_wrong_here", "_law_works"] "law" (defScope s_law) f cdv A outer s H E) := fun p hp _ => by rw [hT] at hp; rw [List.mem_singleton.mp hp]; rfl
  have hall : ∀ j d, lamT (cxOf (L2.CX P w) P w K mg base ["_law_script", "_law_row", "_law_program_here", "_law_lines", "_law_at", "_law_odd", "_law_bad", "_law_five", "_law_wrong_here", "_law_works"] "law" (defScope s_law) f cdv A outer s H E) j = some d → LamOk (cxOf (L2.CX P w) P w K mg base ["_law_script", "_law_row", "_law_program_here", "_law_lines", "_law_at", "_law_odd", "_law_bad", "_law_five", "_law_wrong_here", "_law_works"] "law" (defScope s_law) f cdv A outer s H E) d ∧ ∀ (A2 : Around) (outer2 : List PySem.Env) (s2 : Shared) (H2 : Hp) (E2 : XK) (f2 c2 : Addr), Room 5 (A2.deeper (LamX.lamEnv (cxOf (L2.CX P w) P w K mg base ["_law_script", "_law_row", "_law_program_here", "_law_lines", "_law_at", "_law_odd", "_law_bad", "_law_five", "_law_wrong_here", "_law_works"] "law" (defScope s_law) f cdv A outer s H E) d.scope s2.heap.objs.size f2 c2)) → JE (LamX.lamCx (cxOf (L2.CX P w) P w K mg base ["_law_script", "_law_row", "_law_program_here", "_law_lines", "_law_at", "_law_odd", "_law_bad", "_law_five", "_law_wrong_here", "_law_works"] "law" (defScope s_law) f cdv A outer s H E) A2 outer2 s2 H2 E2 d.scope f2 c2) { ca with lam := lamT (cxOf (L2.CX P w) P w K mg base ["_law_script", "_law_row", "_law_program_here", "_law_lines", "_law_at", "_law_odd", "_law_bad", "_law_five", "_law_wrong_here", "_law_works"] "law" (defScope s_law) f cdv A outer s H E) } (fun cls d _ H => E2 cls d H) d.body (gl_law j) := by
    intro j d hd
    match j, hd with
    | 0, hd =>
      have e := Option.some.inj (show some (lam0.at_ _ [.int 0]) = some d from hd)
      subst e
      exact ⟨⟨rfl, rfl, lamS1_by (sc := defScope s_law) (scope := lam0.scope) (N := ["_law_script", "_law_row", "_law_program_here", "_law_lines", "_law_at", "_law_odd", "_law_bad", "_law_five", "_law_wrong_here", "_law_works"]) (by decide +kernel), dflB1 (y := "_law_a") rfl (fun _ _ _ _ _ _ => ⟨_, rfl, rfl⟩) (show lam0.scope.names.lookup ("_law_a" : Str) = some .local by decide +kernel)⟩, fun A2 outer2 s2 H2 E2 f2 c2 hr => by exact je_call (j_read_design Fx) (hr.mono (by decide)) (takes_of rfl rfl rfl rfl) (ja_cons (je_call (j_law_pick Fx) (hr.mono (by decide)) (takes_of rfl rfl rfl rfl) (ja_cons (je_var 1) (ja_cons (je_lst (ja_cons (je_non) (ja_cons (je_tup (ja_cons (je_str) (ja_nil))) (ja_cons (je_int) (ja_nil))))) (ja_nil)))) (ja_nil))⟩
    | 1, hd =>
      have e := Option.some.inj (show some (lam1.at_ _ []) = some d from hd)
      subst e
      exact ⟨⟨rfl, rfl, lamS1_by (sc := defScope s_law) (scope := lam1.scope) (N := ["_law_script", "_law_row", "_law_program_here", "_law_lines", "_law_at", "_law_odd", "_law_bad", "_law_five", "_law_wrong_here", "_law_works"]) (by decide +kernel), dflB0 rfl rfl⟩, fun A2 outer2 s2 H2 E2 f2 c2 hr => by exact je_call (j_read_program Fx) (hr.mono (by decide)) (takes_of rfl rfl rfl rfl) (ja_cons (je_call (j_law_pick Fx) (hr.mono (by decide)) (takes_of rfl rfl rfl rfl) (ja_cons (je_var 1) (ja_cons (je_lst (ja_cons (je_non) (ja_cons (je_int) (ja_cons (je_var 3) (ja_cons (je_bl) (ja_nil)))))) (ja_nil)))) (ja_nil))⟩
    | _ + 2, hd => exact nomatch hd
  have hnone : ∀ j, lamT (cxOf (L2.CX P w) P w K mg base ["_law_script", "_law_row", "_law_program_here", "_law_lines", "_law_at", "_law_odd", "_law_bad", "_law_five", "_law_wrong_here", "_law_works"] "law" (defScope s_law) f cdv A outer s H E) j = none → gl_law j = fun _ _ => .no := by
    intro j hj
    match j, hj with
    | 0, hj => exact nomatch hj
    | 1, hj => exact nomatch hj
    | _ + 2, hj => rfl
  exact jss_cons (js_set 1 sc_law.nd (je_lstM (ja_cons (je_var 0) (ja_cons (je_int) (ja_cons (je_int) (ja_cons (je_int) (ja_nil))))))) (jss_cons (js_set 2 sc_law.nd (je_call (j_law_program Fx) (hr.mono (by decide)) tk (ja_cons (je_var 1) (ja_cons (je_int) (ja_nil))))) (jss_cons (js_set 3 sc_law.nd (je_split (je_call (j_write_program Fx) (hr.mono (by decide)) tk (ja_cons (je_var 2) (ja_nil))) (je_str))) (jss_cons (js_set 4 sc_law.nd (je_call (j_law_taken Fx) (hr.mono (by decide)) tk (ja_cons (je_var 1) (ja_cons (je_B cj_len Fx.bi_len bt_len (ja_cons (je_var 3) (ja_nil))) (ja_nil))))) (jss_cons (js_set 5 sc_law.nd (je_lst (ja_cons (je_str) (ja_cons (je_str) (ja_cons (je_str) (ja_cons (je_str) (ja_cons (je_str) (ja_cons (je_str) (ja_cons (je_str) (ja_cons (je_str) (ja_cons (je_str) (ja_cons (je_str) (ja_cons (je_str) (ja_cons (je_str) (ja_nil))))))))))))))) (jss_cons (js_set 5 sc_law.nd (je_op oj_add (je_var 5) (je_lst (ja_cons (je_str) (ja_cons (je_str) (ja_cons (je_str) (ja_cons (je_str) (ja_cons (je_str) (ja_cons (je_str) (ja_cons (je_str) (ja_cons (je_str) (ja_cons (je_str) (ja_cons (je_str) (ja_nil)))))))))))))) (jss_cons (js_set 6 sc_law.nd (je_op oj_add (je_op oj_add (je_slice (je_var 3) (jo_none) (jo_some (je_var 4))) (je_lst (ja_cons (je_ix (je_var 5) (je_call (j_law_taken Fx) (hr.mono (by decide)) tk (ja_cons (je_var 1) (ja_cons (je_B cj_len Fx.bi_len bt_len (ja_cons (je_var 5) (ja_nil))) (ja_nil))))) (ja_nil)))) (je_slice (je_var 3) (jo_some (je_op oj_add (je_var 4) (je_int))) (jo_none)))) (jss_cons (js_if (jt_cmp (oj_ne hr.units) (je_wrong (k := 5) (zv := .str (PySem.Str.ofString "")) (fun _ _ => by first | exact .str _ | exact .bl _) rfl hmW hkW lkW hcgW bW sc_law_wrong rfl (Or.inl rfl) (g_law_wrong Fx hx0) TB hcdv (by rw [hT]; exact List.mem_cons_self) hu (hr.mono (by decide)) (LamX.lamS_by (sc := defScope s_law) (by decide +kernel)) rfl (fun _ _ _ _ _ => rfl) (fun A2 outer2 s2 H2 E2 f2 c2 hr => by exact je_call (j_read_program Fx) (hr.mono (by decide)) (takes_of rfl rfl rfl rfl) (ja_cons (je_join (je_str) (je_var 6)) (ja_nil)))) (je_op oj_add (je_var 4) (je_int))) (jss_one (js_ret (je_bl))) (jss_nil)) (jss_cons (js_if (jw_t (jw_or (jt_cmp (oj_ne hr.units) (je_wrong (k := 5) (zv := .str (PySem.Str.ofString "")) (fun _ _ => by first | exact .str _ | exact .bl _) rfl hmW hkW lkW hcgW bW sc_law_wrong rfl (Or.inl rfl) (g_law_wrong Fx hx0) TB hcdv (by rw [hT]; exact List.mem_cons_self) hu (hr.mono (by decide)) (LamX.lamS_by (sc := defScope s_law) (by decide +kernel)) rfl (fun _ _ _ _ _ => rfl) (fun A2 outer2 s2 H2 E2 f2 c2 hr => by exact je_call (j_read_program Fx) (hr.mono (by decide)) (takes_of rfl rfl rfl rfl) (ja_cons (je_join (je_str) (je_op oj_mul (je_lst (ja_cons (je_str) (ja_nil))) (je_int))) (ja_nil)))) (je_int)) (jw_or1 (jt_cmp (oj_ne hr.units) (je_call (j_read_program Fx) (hr.mono (by decide)) tk (ja_cons (je_join (je_str) (je_op oj_mul (je_lst (ja_cons (je_str) (ja_nil))) (je_int))) (ja_nil))) (je_tup (ja_cons (je_tup (ja_nil)) (ja_cons (je_tup (ja_nil)) (ja_cons (je_tup (ja_nil)) (ja_nil))))))))) (jss_one (js_ret (je_bl))) (jss_nil)) (jss_cons (js_set 7 sc_law.nd (je_join (je_str) (je_op oj_mul (je_lst (ja_cons (je_str) (ja_nil))) (je_int)))) (jss_cons (js_if (jw_t (jw_or (jt_cmp (oj_ne hr.units) (je_wrong (k := 5) (zv := .str (PySem.Str.ofString "")) (fun _ _ => by first | exact .str _ | exact .bl _) rfl hmW hkW lkW hcgW bW sc_law_wrong rfl (Or.inl rfl) (g_law_wrong Fx hx0) TB hcdv (by rw [hT]; exact List.mem_cons_self) hu (hr.mono (by decide)) (LamX.lamS_by (sc := defScope s_law) (by decide +kernel)) rfl (fun _ _ _ _ _ => rfl) (fun A2 outer2 s2 H2 E2 f2 c2 hr => by exact je_call (j_read_program Fx) (hr.mono (by decide)) (takes_of rfl rfl rfl rfl) (ja_cons (je_join (je_str) (je_lst (ja_cons (je_var 7) (ja_cons (je_var 7) (ja_cons (je_str) (ja_nil)))))) (ja_nil)))) (je_int)) (jw_or1 (jt_cmp (oj_ne hr.units) (je_B cj_len Fx.bi_len bt_len (ja_cons (je_call (j_read_program Fx) (hr.mono (by decide)) tk (ja_cons (je_join (je_str) (je_lst (ja_cons (je_var 7) (ja_cons (je_var 7) (ja_cons (je_str) (ja_nil)))))) (ja_nil))) (ja_nil))) (je_int))))) (jss_one (js_ret (je_bl))) (jss_nil)) (jss_cons (js_set 8 sc_law.nd (je_call (j_law_pick Fx) (hr.mono (by decide)) tk (ja_cons (je_var 1) (ja_cons (je_lst (ja_cons (je_str) (ja_cons (je_str) (ja_cons (je_str) (ja_cons (je_str) (ja_cons (je_str) (ja_cons (je_str) (ja_cons (je_str) (ja_cons (je_str) (ja_cons (je_str) (ja_cons (je_str) (ja_nil)))))))))))) (ja_nil))))) (jss_cons (js_if (jt_cmp (oj_ne hr.units) (je_wrong (k := 5) (zv := .str (PySem.Str.ofString "")) (fun _ _ => by first | exact .str _ | exact .bl _) rfl hmW hkW lkW hcgW bW sc_law_wrong rfl (Or.inl rfl) (g_law_wrong Fx hx0) TB hcdv (by rw [hT]; exact List.mem_cons_self) hu (hr.mono (by decide)) (LamX.lamS_by (sc := defScope s_law) (by decide +kernel)) rfl (fun _ _ _ _ _ => rfl) (fun A2 outer2 s2 H2 E2 f2 c2 hr => by exact je_call (j_read_design Fx) (hr.mono (by decide)) (takes_of rfl rfl rfl rfl) (ja_cons (je_var 8) (ja_nil)))) (je_int)) (jss_one (js_ret (je_bl))) (jss_nil)) (jss_cons (js_set 9 sc_law.nd (je_lst (ja_cons (je_lam 1 (pe_lam0 TB hcdv (by rw [hT]; exact List.mem_cons_self) hu (fun ok => (hall 1 _ rfl).1.L.hasC' ok) rfl) rfl) (ja_cons (je_lam 0 (pe_lam1 TB hcdv (by rw [hT]; exact List.mem_cons_self) hu (fun ok => (hall 0 _ rfl).1.L.hasC' ok) rfl rfl) rfl) (ja_nil))))) (jss_one (js_ret (je_cmp (oj_eq hr.units) (je_wrongL (k := 5) (zv := .str (PySem.Str.ofString "")) (fun _ _ => by first | exact .str _ | exact .bl _) rfl hmW hkW lkW hcgW bW sc_law_wrong rfl (Or.inl rfl) (g_law_wrong Fx hx0) (hr.mono (by decide)) hall hnone (je_ix (je_var 9) (je_call (j_law_taken Fx) (hr.mono (by decide)) tk (ja_cons (je_var 1) (ja_cons (je_int) (ja_nil)))))) (je_str)))))))))))))))))
end
end G


set_option Elab.async false
set_option linter.all false
set_option maxRecDepth 100000
set_option maxHeartbeats 0
namespace G
open PySem PySem.Spec PyProof.Rows L2 J
def d0 : He.DefD := ⟨("is_integer", none), "is_integer", "is_integer", defArgs (top 1), defBody (top 1), defScope (top 1), [], []⟩
def d1 : He.DefD := ⟨("is_in", none), "is_in", "is_in", defArgs (top 2), defBody (top 2), defScope (top 2), [], []⟩
def d2 : He.DefD := ⟨("is_list", none), "is_list", "is_list", defArgs (top 3), defBody (top 3), defScope (top 3), [], []⟩
def d3 : He.DefD := ⟨("is_instruction", none), "is_instruction", "is_instruction", defArgs (top 16), defBody (top 16), defScope (top 16), [], []⟩
def d4 : He.DefD := ⟨("is_core", none), "is_core", "is_core", defArgs (top 17), defBody (top 17), defScope (top 17), [], []⟩
def d5 : He.DefD := ⟨("need_program", none), "need_program", "need_program", defArgs (top 18), defBody (top 18), defScope (top 18), [], []⟩
def d6 : He.DefD := ⟨("is_design", none), "is_design", "is_design", defArgs (top 21), defBody (top 21), defScope (top 21), [], []⟩
def d7 : He.DefD := ⟨("need_text", none), "need_text", "need_text", defArgs (top 24), defBody (top 24), defScope (top 24), [], []⟩
def d8 : He.DefD := ⟨("number_in", none), "number_in", "number_in", defArgs (top 25), defBody (top 25), defScope (top 25), [], []⟩
def d9 : He.DefD := ⟨("instruction_in", none), "instruction_in", "instruction_in", defArgs (top 26), defBody (top 26), defScope (top 26), [], []⟩
def d10 : He.DefD := ⟨("core_in", none), "core_in", "core_in", defArgs (top 27), defBody (top 27), defScope (top 27), [], []⟩
def d11 : He.DefD := ⟨("write_program", none), "write_program", "write_program", defArgs (top 28), defBody (top 28), defScope (top 28), [], []⟩
def d12 : He.DefD := ⟨("read_program", none), "read_program", "read_program", defArgs (top 29), defBody (top 29), defScope (top 29), [], []⟩
def d13 : He.DefD := ⟨("read_design", none), "read_design", "read_design", defArgs (top 30), defBody (top 30), defScope (top 30), [], []⟩
def d14 : He.DefD := ⟨("_law_taken", none), "_law_taken", "_law_taken", defArgs (top 32), defBody (top 32), defScope (top 32), [], []⟩
def d15 : He.DefD := ⟨("_law_pick", none), "_law_pick", "_law_pick", defArgs (top 33), defBody (top 33), defScope (top 33), [], []⟩
def d16 : He.DefD := ⟨("_law_instruction", none), "_law_instruction", "_law_instruction", defArgs (top 34), defBody (top 34), defScope (top 34), [], []⟩
def d17 : He.DefD := ⟨("_law_program", none), "_law_program", "_law_program", defArgs (top 35), defBody (top 35), defScope (top 35), [], []⟩
def d18 : He.DefD := ⟨("_law_wrong", none), "_law_wrong", "_law_wrong", defArgs (top 36), defBody (top 36), defScope (top 36), [], []⟩
def d19 : He.DefD := ⟨("law", none), "law", "law", defArgs (top 37), defBody (top 37), defScope (top 37), [], []⟩
def hfn : List He.DefD := ([d0, d1, d2, d3, d4, d5, d6, d7, d8, d9, d10, d11, d12, d13, d14, d15, d16, d17, d18, d19] : List He.DefD)
def hfa : List He.Fa := ([.free "all", .free "bool", .free "int", .free "isinstance", .free "len", .free "min", .free "range", .free "str", .free "sum", .free "tuple", .glo "is_integer", .glo "is_in", .glo "is_list", .glo "is_instruction", .glo "is_core", .glo "need_program", .glo "is_design", .glo "need_text", .glo "number_in", .glo "instruction_in", .glo "core_in", .glo "write_program", .glo "read_program", .glo "read_design", .glo "_law_taken", .glo "_law_pick", .glo "_law_instruction", .glo "_law_program", .glo "_law_wrong", .glo "law"] : List He.Fa) ++ ([.glo "NotText", .exc "NotText", .glo "InvalidText", .glo "InvalidText", .glo "PairError", .exm "NotText" "PairError" true, .exm "InvalidText" "PairError" true] : List He.Fa)
def hex (K : PySem.W.Frag) : Bool := (errB (PySem.Challenge.rw_pairskept_k11_whole_texts_refused).prog K (He.ga K "InvalidText") "line" && decide (PySem.W.findIn K (.ref (He.ga K "InvalidText")) "line" = some none)) && ((constB K "REGISTERS" c_REGISTERS) && ((constB K "CELLS" c_CELLS) && ((constB K "WORDS" c_WORDS) && ((constB K "MOST_CORES" c_MOST_CORES) && ((constB K "MOST_CORE" c_MOST_CORE) && ((constB K "MOST_PROGRAM" c_MOST_PROGRAM) && ((constB K "NAMES" c_NAMES) && ((constB K "FIGURES" c_FIGURES) && ((excCB K (He.ga K "NotText")) && ((kitB2 K "NotText" "NotText" true) && ((kitB2 K "NotText" "InvalidText" false) && ((excCB K (He.ga K "InvalidText")) && ((kitB2 K "InvalidText" "NotText" false) && ((kitB2 K "InvalidText" "InvalidText" true) && (true)))))))))))))))
abbrev HdR : PySem.W.OpenRow := PySem.W.OpenLaw.row PySem.Challenge.rw_pairskept_k11_whole_texts_refused
abbrev hk : PySem.W.Hook := hookS 6 hfa hfn [("law", none)] hex
def ob (s : PySem.W.SharedT) : He.AlX := obsS 6 hfa hfn [("law", none)] hex (HandSHeadRun.getT s)
theorem ob_eq (s : PySem.W.SharedT) : ob s = hk.obs s.abs := obsS_eq (HandSHeadRun.getT_eq s)
def loose : List PySem.Str := (["is_integer", "is_in", "is_list", "PairError", "BadProgram", "NotText", "InvalidText", "REGISTERS", "CELLS", "WORDS", "MOST_CORES", "MOST_CORE", "MOST_PROGRAM", "is_instruction", "is_core", "need_program", "NAMES", "is_design", "FIGURES", "need_text", "number_in", "instruction_in", "core_in", "write_program", "read_program", "read_design", "_law_taken", "_law_pick", "_law_instruction", "_law_program"] : List PySem.Str) ++ (["_law_wrong"] : List PySem.Str)
theorem run (w : World) : HandSHeadRun.RunEq HdR (PySem.W.view HdR.prog [37]) hk ob 8000 loose w := by
  intro os
  kernel_rfl
end G


set_option Elab.async false
set_option linter.all false
set_option maxRecDepth 100000
set_option maxHeartbeats 4000000
namespace G
open PySem PySem.Spec L2 J
/-! ### the row -/
def rowL (ns : List Int) (i : Nat) (a b : Int) : IO := .lst [.frz (ns.map D.int), .int i, .int a, .int b]
def RowS (ns : List Int) (t : S) (s : S) : Prop := ∃ (i : Nat) (a b : Int), 0 ≤ a ∧ a < 2147483647 ∧ s = rowL ns i a b :: t
theorem idx_row (ns : List Int) (i : Nat) (a b : Int) (t : S) : fIdx (rowL ns i a b :: t) (.obj 0) (.int 0) = some (.frz (ns.map D.int)) ∧ fIdx (rowL ns i a b :: t) (.obj 0) (.int 1) = some (.int i) ∧ fIdx (rowL ns i a b :: t) (.obj 0) (.int 2) = some (.int a) ∧ fIdx (rowL ns i a b :: t) (.obj 0) (.int 3) = some (.int b) := ⟨rfl, rfl, rfl, rfl⟩
theorem put_row (ns : List Int) (i : Nat) (a b x : Int) (t : S) : putL (rowL ns i a b :: t) (.obj 0) (.int 2) (.int x) = some (rowL ns i x b :: t) ∧ putL (rowL ns i a b :: t) (.obj 0) (.int 3) (.int x) = some (rowL ns i a x :: t) := ⟨rfl, rfl⟩
theorem put_row1 (ns : List Int) (i : Nat) (a b : Int) (t : S) : putL (rowL ns i a b :: t) (.obj 0) (.int 1) (.int ((i : Int) + 1)) = some (rowL ns (i + 1) a b :: t) := rfl
theorem mulc (s : S) (a : Int) : fMul s (.int a) (.int 48271) = some (.int (a * 48271)) := by
  have : small64 48271 = true := by decide
  simp [fMul, this]
theorem modI (s : S) (a m : Int) (h : 0 < m) : fMod s (.int a) (.int m) = some (.int (a % m)) := by simp [fMod, h]
theorem divI (s : S) (a m : Int) (h : 0 < m) (h2 : m < 1073741824) : fDiv s (.int a) (.int m) = some (.int (a / m)) := by simp [fDiv, h, h2]
theorem powC (s : S) : fPow s (.int 10) (.int 18) = some (.int 1000000000000000000) := rfl
theorem taken_ok {ns : List Int} {t s : S} (m : Int) (h0 : 0 < m) (h1 : m < 1073741824) (h : RowS ns t s) : ∃ (r : Int) (s' : S), F_law_taken [.obj 0, .int m] s = .ok (.int r) s' ∧ 0 ≤ r ∧ r < m ∧ RowS ns t s' := by
  obtain ⟨i, a, b, ha, ha2, rfl⟩ := h
  obtain ⟨r0, r1, r2, r3⟩ := idx_row ns i a b t
  by_cases hb : 0 < b
  · refine ⟨b % m, rowL ns i a (b / m) :: t, ?_, Int.emod_nonneg _ (by omega), Int.emod_lt_of_pos _ h0, i, a, b / m, ha, ha2, rfl⟩
    simp [F_law_taken, b_law_taken, r3, hb, modI _ b m h0, divI _ b m h0 h1, (put_row ns i a b (b / m) t).2]
  · obtain ⟨q0, q1, q2, q3⟩ := idx_row ns (i + 1) a b t
    by_cases hl : (ns.length : Int) < (i : Int) + 1
    · have e1 := (put_row ns (i + 1) a b ((a * 48271 + 11) % 2147483647) t).1
      obtain ⟨p0, p1, p2, p3⟩ := idx_row ns (i + 1) ((a * 48271 + 11) % 2147483647) b t
      refine ⟨_, _, ?_, Int.emod_nonneg ((a * 48271 + 11) % 2147483647 / 7) (b := m) (by omega), Int.emod_lt_of_pos _ h0, i + 1, (a * 48271 + 11) % 2147483647, b, Int.emod_nonneg _ (by decide), Int.emod_lt_of_pos _ (by decide), rfl⟩
      rw [show (((i + 1 : Nat)) : Int) = (i : Int) + 1 from rfl] at q1
      simp [F_law_taken, b_law_taken, r3, r1, hb, put_row1, q0, q1, q2, hl, mulc, modI _ _ _ (show (0 : Int) < 2147483647 by decide), e1, p2, divI _ _ 7 (by decide) (by decide), modI _ _ m h0]
    · have hi : i < ns.length := by omega
      have e2 : atI (ns.map D.int) ((i : Int)) = some (.int ns[i]) := by rw [atI_nat _ _ (by simpa using hi)]; simp
      have e1 := (put_row ns (i + 1) a b ((a * 48271 + ns[i] + 11) % 2147483647) t).1
      obtain ⟨p0, p1, p2, p3⟩ := idx_row ns (i + 1) ((a * 48271 + ns[i] + 11) % 2147483647) b t
      rw [show (((i + 1 : Nat)) : Int) = (i : Int) + 1 from rfl] at q1
      by_cases hz : 1000000000000000000 ≤ ns[i]
      · refine ⟨ns[i] % m, _, ?_, Int.emod_nonneg _ (by omega), Int.emod_lt_of_pos _ h0, i + 1, (a * 48271 + ns[i] + 11) % 2147483647, ns[i] / m, Int.emod_nonneg _ (by decide), Int.emod_lt_of_pos _ (by decide), rfl⟩
        simp [F_law_taken, b_law_taken, r3, r1, hb, put_row1, q0, q1, q2, hl, e2, mulc, modI _ _ _ (show (0 : Int) < 2147483647 by decide), e1, powC, hz, divI _ _ m h0 h1, (put_row ns (i + 1) _ b (ns[i] / m) t).2, modI _ _ m h0]
      · refine ⟨ns[i] % m, _, ?_, Int.emod_nonneg _ (by omega), Int.emod_lt_of_pos _ h0, i + 1, (a * 48271 + ns[i] + 11) % 2147483647, b, Int.emod_nonneg _ (by decide), Int.emod_lt_of_pos _ (by decide), rfl⟩
        simp [F_law_taken, b_law_taken, r3, r1, hb, put_row1, q0, q1, q2, hl, e2, mulc, modI _ _ _ (show (0 : Int) < 2147483647 by decide), e1, powC, hz, modI _ _ m h0]
theorem pick_ok {ns : List Int} {t s : S} (ds : List D) (h0 : 0 < ds.length) (h1 : ds.length < 1000) (h : RowS ns t s) : ∃ (k : Nat) (hk : k < ds.length) (s' : S), F_law_pick [.obj 0, .lst ds] s = .ok ds[k] s' ∧ RowS ns t s' := by
  obtain ⟨r, s', e, h2, h3, h4⟩ := taken_ok (ds.length : Int) (by omega) (by omega) h
  obtain ⟨k, rfl⟩ := Int.eq_ofNat_of_zero_le h2
  refine ⟨k, by omega, s', ?_, h4⟩
  simp [F_law_pick, b_law_pick, e, atI_nat _ _ (show k < ds.length by omega)]
end G


set_option Elab.async false
set_option linter.all false
namespace G
open PySem PySem.Spec L2 J
@[simp] theorem ok_0 : PyData.strOk (PySem.Str.ofString "read") = true := by decide +kernel
@[simp] theorem len_0 : (PySem.Str.ofString "read").length = 4 := by decide +kernel
@[simp] theorem ne_0_1 : (PySem.Str.ofString "read" = PySem.Str.ofString "write") = False := eq_false (by decide +kernel)
@[simp] theorem nb_0_1 : (PySem.Str.ofString "read" == PySem.Str.ofString "write") = false := by decide +kernel
@[simp] theorem ne_0_2 : (PySem.Str.ofString "read" = PySem.Str.ofString "copy") = False := eq_false (by decide +kernel)
@[simp] theorem nb_0_2 : (PySem.Str.ofString "read" == PySem.Str.ofString "copy") = false := by decide +kernel
@[simp] theorem ne_0_3 : (PySem.Str.ofString "read" = PySem.Str.ofString "fence") = False := eq_false (by decide +kernel)
@[simp] theorem nb_0_3 : (PySem.Str.ofString "read" == PySem.Str.ofString "fence") = false := by decide +kernel
@[simp] theorem ne_0_4 : (PySem.Str.ofString "read" = PySem.Str.ofString "guard") = False := eq_false (by decide +kernel)
@[simp] theorem nb_0_4 : (PySem.Str.ofString "read" == PySem.Str.ofString "guard") = false := by decide +kernel
@[simp] theorem ne_0_5 : (PySem.Str.ofString "read" = PySem.Str.ofString "r") = False := eq_false (by decide +kernel)
@[simp] theorem nb_0_5 : (PySem.Str.ofString "read" == PySem.Str.ofString "r") = false := by decide +kernel
@[simp] theorem ne_0_6 : (PySem.Str.ofString "read" = PySem.Str.ofString "w") = False := eq_false (by decide +kernel)
@[simp] theorem nb_0_6 : (PySem.Str.ofString "read" == PySem.Str.ofString "w") = false := by decide +kernel
@[simp] theorem ne_0_7 : (PySem.Str.ofString "read" = PySem.Str.ofString "g") = False := eq_false (by decide +kernel)
@[simp] theorem nb_0_7 : (PySem.Str.ofString "read" == PySem.Str.ofString "g") = false := by decide +kernel
@[simp] theorem ne_0_8 : (PySem.Str.ofString "read" = PySem.Str.ofString "f") = False := eq_false (by decide +kernel)
@[simp] theorem nb_0_8 : (PySem.Str.ofString "read" == PySem.Str.ofString "f") = false := by decide +kernel
@[simp] theorem ne_0_9 : (PySem.Str.ofString "read" = PySem.Str.ofString "rr") = False := eq_false (by decide +kernel)
@[simp] theorem nb_0_9 : (PySem.Str.ofString "read" == PySem.Str.ofString "rr") = false := by decide +kernel
@[simp] theorem ne_0_10 : (PySem.Str.ofString "read" = PySem.Str.ofString "rw") = False := eq_false (by decide +kernel)
@[simp] theorem nb_0_10 : (PySem.Str.ofString "read" == PySem.Str.ofString "rw") = false := by decide +kernel
@[simp] theorem ne_0_11 : (PySem.Str.ofString "read" = PySem.Str.ofString "rg") = False := eq_false (by decide +kernel)
@[simp] theorem nb_0_11 : (PySem.Str.ofString "read" == PySem.Str.ofString "rg") = false := by decide +kernel
@[simp] theorem ne_0_12 : (PySem.Str.ofString "read" = PySem.Str.ofString "rf") = False := eq_false (by decide +kernel)
@[simp] theorem nb_0_12 : (PySem.Str.ofString "read" == PySem.Str.ofString "rf") = false := by decide +kernel
@[simp] theorem ne_0_13 : (PySem.Str.ofString "read" = PySem.Str.ofString "wr") = False := eq_false (by decide +kernel)
@[simp] theorem nb_0_13 : (PySem.Str.ofString "read" == PySem.Str.ofString "wr") = false := by decide +kernel
@[simp] theorem ne_0_14 : (PySem.Str.ofString "read" = PySem.Str.ofString "ww") = False := eq_false (by decide +kernel)
@[simp] theorem nb_0_14 : (PySem.Str.ofString "read" == PySem.Str.ofString "ww") = false := by decide +kernel
@[simp] theorem ne_0_15 : (PySem.Str.ofString "read" = PySem.Str.ofString "wg") = False := eq_false (by decide +kernel)
@[simp] theorem nb_0_15 : (PySem.Str.ofString "read" == PySem.Str.ofString "wg") = false := by decide +kernel
@[simp] theorem ne_0_16 : (PySem.Str.ofString "read" = PySem.Str.ofString "wf") = False := eq_false (by decide +kernel)
@[simp] theorem nb_0_16 : (PySem.Str.ofString "read" == PySem.Str.ofString "wf") = false := by decide +kernel
@[simp] theorem ne_0_17 : (PySem.Str.ofString "read" = PySem.Str.ofString "gr") = False := eq_false (by decide +kernel)
@[simp] theorem nb_0_17 : (PySem.Str.ofString "read" == PySem.Str.ofString "gr") = false := by decide +kernel
@[simp] theorem ne_0_18 : (PySem.Str.ofString "read" = PySem.Str.ofString "gw") = False := eq_false (by decide +kernel)
@[simp] theorem nb_0_18 : (PySem.Str.ofString "read" == PySem.Str.ofString "gw") = false := by decide +kernel
@[simp] theorem ne_0_19 : (PySem.Str.ofString "read" = PySem.Str.ofString "gg") = False := eq_false (by decide +kernel)
@[simp] theorem nb_0_19 : (PySem.Str.ofString "read" == PySem.Str.ofString "gg") = false := by decide +kernel
@[simp] theorem ne_0_20 : (PySem.Str.ofString "read" = PySem.Str.ofString "gf") = False := eq_false (by decide +kernel)
@[simp] theorem nb_0_20 : (PySem.Str.ofString "read" == PySem.Str.ofString "gf") = false := by decide +kernel
@[simp] theorem ne_0_21 : (PySem.Str.ofString "read" = PySem.Str.ofString "fr") = False := eq_false (by decide +kernel)
@[simp] theorem nb_0_21 : (PySem.Str.ofString "read" == PySem.Str.ofString "fr") = false := by decide +kernel
@[simp] theorem ne_0_22 : (PySem.Str.ofString "read" = PySem.Str.ofString "fw") = False := eq_false (by decide +kernel)
@[simp] theorem nb_0_22 : (PySem.Str.ofString "read" == PySem.Str.ofString "fw") = false := by decide +kernel
@[simp] theorem ne_0_23 : (PySem.Str.ofString "read" = PySem.Str.ofString "fg") = False := eq_false (by decide +kernel)
@[simp] theorem nb_0_23 : (PySem.Str.ofString "read" == PySem.Str.ofString "fg") = false := by decide +kernel
@[simp] theorem ne_0_24 : (PySem.Str.ofString "read" = PySem.Str.ofString "ff") = False := eq_false (by decide +kernel)
@[simp] theorem nb_0_24 : (PySem.Str.ofString "read" == PySem.Str.ofString "ff") = false := by decide +kernel
@[simp] theorem ne_0_25 : (PySem.Str.ofString "read" = PySem.Str.ofString "own") = False := eq_false (by decide +kernel)
@[simp] theorem nb_0_25 : (PySem.Str.ofString "read" == PySem.Str.ofString "own") = false := by decide +kernel
@[simp] theorem ne_0_26 : (PySem.Str.ofString "read" = PySem.Str.ofString "ss") = False := eq_false (by decide +kernel)
@[simp] theorem nb_0_26 : (PySem.Str.ofString "read" == PySem.Str.ofString "ss") = false := by decide +kernel
@[simp] theorem ne_0_27 : (PySem.Str.ofString "read" = PySem.Str.ofString "core") = False := eq_false (by decide +kernel)
@[simp] theorem nb_0_27 : (PySem.Str.ofString "read" == PySem.Str.ofString "core") = false := by decide +kernel
@[simp] theorem ne_0_28 : (PySem.Str.ofString "read" = PySem.Str.ofString "place") = False := eq_false (by decide +kernel)
@[simp] theorem nb_0_28 : (PySem.Str.ofString "read" == PySem.Str.ofString "place") = false := by decide +kernel
@[simp] theorem ne_0_29 : (PySem.Str.ofString "read" = PySem.Str.ofString "design") = False := eq_false (by decide +kernel)
@[simp] theorem nb_0_29 : (PySem.Str.ofString "read" == PySem.Str.ofString "design") = false := by decide +kernel
@[simp] theorem ne_0_30 : (PySem.Str.ofString "read" = PySem.Str.ofString "") = False := eq_false (by decide +kernel)
@[simp] theorem nb_0_30 : (PySem.Str.ofString "read" == PySem.Str.ofString "") = false := by decide +kernel
@[simp] theorem ne_0_31 : (PySem.Str.ofString "read" = PySem.Str.ofString "xx") = False := eq_false (by decide +kernel)
@[simp] theorem nb_0_31 : (PySem.Str.ofString "read" == PySem.Str.ofString "xx") = false := by decide +kernel
@[simp] theorem ok_1 : PyData.strOk (PySem.Str.ofString "write") = true := by decide +kernel
@[simp] theorem len_1 : (PySem.Str.ofString "write").length = 5 := by decide +kernel
@[simp] theorem ne_1_0 : (PySem.Str.ofString "write" = PySem.Str.ofString "read") = False := eq_false (by decide +kernel)
@[simp] theorem nb_1_0 : (PySem.Str.ofString "write" == PySem.Str.ofString "read") = false := by decide +kernel
@[simp] theorem ne_1_2 : (PySem.Str.ofString "write" = PySem.Str.ofString "copy") = False := eq_false (by decide +kernel)
@[simp] theorem nb_1_2 : (PySem.Str.ofString "write" == PySem.Str.ofString "copy") = false := by decide +kernel
@[simp] theorem ne_1_3 : (PySem.Str.ofString "write" = PySem.Str.ofString "fence") = False := eq_false (by decide +kernel)
@[simp] theorem nb_1_3 : (PySem.Str.ofString "write" == PySem.Str.ofString "fence") = false := by decide +kernel
@[simp] theorem ne_1_4 : (PySem.Str.ofString "write" = PySem.Str.ofString "guard") = False := eq_false (by decide +kernel)
@[simp] theorem nb_1_4 : (PySem.Str.ofString "write" == PySem.Str.ofString "guard") = false := by decide +kernel
@[simp] theorem ne_1_5 : (PySem.Str.ofString "write" = PySem.Str.ofString "r") = False := eq_false (by decide +kernel)
@[simp] theorem nb_1_5 : (PySem.Str.ofString "write" == PySem.Str.ofString "r") = false := by decide +kernel
@[simp] theorem ne_1_6 : (PySem.Str.ofString "write" = PySem.Str.ofString "w") = False := eq_false (by decide +kernel)
@[simp] theorem nb_1_6 : (PySem.Str.ofString "write" == PySem.Str.ofString "w") = false := by decide +kernel
@[simp] theorem ne_1_7 : (PySem.Str.ofString "write" = PySem.Str.ofString "g") = False := eq_false (by decide +kernel)
@[simp] theorem nb_1_7 : (PySem.Str.ofString "write" == PySem.Str.ofString "g") = false := by decide +kernel
@[simp] theorem ne_1_8 : (PySem.Str.ofString "write" = PySem.Str.ofString "f") = False := eq_false (by decide +kernel)
@[simp] theorem nb_1_8 : (PySem.Str.ofString "write" == PySem.Str.ofString "f") = false := by decide +kernel
@[simp] theorem ne_1_9 : (PySem.Str.ofString "write" = PySem.Str.ofString "rr") = False := eq_false (by decide +kernel)
@[simp] theorem nb_1_9 : (PySem.Str.ofString "write" == PySem.Str.ofString "rr") = false := by decide +kernel
@[simp] theorem ne_1_10 : (PySem.Str.ofString "write" = PySem.Str.ofString "rw") = False := eq_false (by decide +kernel)
@[simp] theorem nb_1_10 : (PySem.Str.ofString "write" == PySem.Str.ofString "rw") = false := by decide +kernel
@[simp] theorem ne_1_11 : (PySem.Str.ofString "write" = PySem.Str.ofString "rg") = False := eq_false (by decide +kernel)
@[simp] theorem nb_1_11 : (PySem.Str.ofString "write" == PySem.Str.ofString "rg") = false := by decide +kernel
@[simp] theorem ne_1_12 : (PySem.Str.ofString "write" = PySem.Str.ofString "rf") = False := eq_false (by decide +kernel)
@[simp] theorem nb_1_12 : (PySem.Str.ofString "write" == PySem.Str.ofString "rf") = false := by decide +kernel
@[simp] theorem ne_1_13 : (PySem.Str.ofString "write" = PySem.Str.ofString "wr") = False := eq_false (by decide +kernel)
@[simp] theorem nb_1_13 : (PySem.Str.ofString "write" == PySem.Str.ofString "wr") = false := by decide +kernel
@[simp] theorem ne_1_14 : (PySem.Str.ofString "write" = PySem.Str.ofString "ww") = False := eq_false (by decide +kernel)
@[simp] theorem nb_1_14 : (PySem.Str.ofString "write" == PySem.Str.ofString "ww") = false := by decide +kernel
@[simp] theorem ne_1_15 : (PySem.Str.ofString "write" = PySem.Str.ofString "wg") = False := eq_false (by decide +kernel)
@[simp] theorem nb_1_15 : (PySem.Str.ofString "write" == PySem.Str.ofString "wg") = false := by decide +kernel
@[simp] theorem ne_1_16 : (PySem.Str.ofString "write" = PySem.Str.ofString "wf") = False := eq_false (by decide +kernel)
@[simp] theorem nb_1_16 : (PySem.Str.ofString "write" == PySem.Str.ofString "wf") = false := by decide +kernel
@[simp] theorem ne_1_17 : (PySem.Str.ofString "write" = PySem.Str.ofString "gr") = False := eq_false (by decide +kernel)
@[simp] theorem nb_1_17 : (PySem.Str.ofString "write" == PySem.Str.ofString "gr") = false := by decide +kernel
@[simp] theorem ne_1_18 : (PySem.Str.ofString "write" = PySem.Str.ofString "gw") = False := eq_false (by decide +kernel)
@[simp] theorem nb_1_18 : (PySem.Str.ofString "write" == PySem.Str.ofString "gw") = false := by decide +kernel
@[simp] theorem ne_1_19 : (PySem.Str.ofString "write" = PySem.Str.ofString "gg") = False := eq_false (by decide +kernel)
@[simp] theorem nb_1_19 : (PySem.Str.ofString "write" == PySem.Str.ofString "gg") = false := by decide +kernel
@[simp] theorem ne_1_20 : (PySem.Str.ofString "write" = PySem.Str.ofString "gf") = False := eq_false (by decide +kernel)
@[simp] theorem nb_1_20 : (PySem.Str.ofString "write" == PySem.Str.ofString "gf") = false := by decide +kernel
@[simp] theorem ne_1_21 : (PySem.Str.ofString "write" = PySem.Str.ofString "fr") = False := eq_false (by decide +kernel)
@[simp] theorem nb_1_21 : (PySem.Str.ofString "write" == PySem.Str.ofString "fr") = false := by decide +kernel
@[simp] theorem ne_1_22 : (PySem.Str.ofString "write" = PySem.Str.ofString "fw") = False := eq_false (by decide +kernel)
@[simp] theorem nb_1_22 : (PySem.Str.ofString "write" == PySem.Str.ofString "fw") = false := by decide +kernel
@[simp] theorem ne_1_23 : (PySem.Str.ofString "write" = PySem.Str.ofString "fg") = False := eq_false (by decide +kernel)
@[simp] theorem nb_1_23 : (PySem.Str.ofString "write" == PySem.Str.ofString "fg") = false := by decide +kernel
@[simp] theorem ne_1_24 : (PySem.Str.ofString "write" = PySem.Str.ofString "ff") = False := eq_false (by decide +kernel)
@[simp] theorem nb_1_24 : (PySem.Str.ofString "write" == PySem.Str.ofString "ff") = false := by decide +kernel
@[simp] theorem ne_1_25 : (PySem.Str.ofString "write" = PySem.Str.ofString "own") = False := eq_false (by decide +kernel)
@[simp] theorem nb_1_25 : (PySem.Str.ofString "write" == PySem.Str.ofString "own") = false := by decide +kernel
@[simp] theorem ne_1_26 : (PySem.Str.ofString "write" = PySem.Str.ofString "ss") = False := eq_false (by decide +kernel)
@[simp] theorem nb_1_26 : (PySem.Str.ofString "write" == PySem.Str.ofString "ss") = false := by decide +kernel
@[simp] theorem ne_1_27 : (PySem.Str.ofString "write" = PySem.Str.ofString "core") = False := eq_false (by decide +kernel)
@[simp] theorem nb_1_27 : (PySem.Str.ofString "write" == PySem.Str.ofString "core") = false := by decide +kernel
@[simp] theorem ne_1_28 : (PySem.Str.ofString "write" = PySem.Str.ofString "place") = False := eq_false (by decide +kernel)
@[simp] theorem nb_1_28 : (PySem.Str.ofString "write" == PySem.Str.ofString "place") = false := by decide +kernel
@[simp] theorem ne_1_29 : (PySem.Str.ofString "write" = PySem.Str.ofString "design") = False := eq_false (by decide +kernel)
@[simp] theorem nb_1_29 : (PySem.Str.ofString "write" == PySem.Str.ofString "design") = false := by decide +kernel
@[simp] theorem ne_1_30 : (PySem.Str.ofString "write" = PySem.Str.ofString "") = False := eq_false (by decide +kernel)
@[simp] theorem nb_1_30 : (PySem.Str.ofString "write" == PySem.Str.ofString "") = false := by decide +kernel
@[simp] theorem ne_1_31 : (PySem.Str.ofString "write" = PySem.Str.ofString "xx") = False := eq_false (by decide +kernel)
@[simp] theorem nb_1_31 : (PySem.Str.ofString "write" == PySem.Str.ofString "xx") = false := by decide +kernel
@[simp] theorem ok_2 : PyData.strOk (PySem.Str.ofString "copy") = true := by decide +kernel
@[simp] theorem len_2 : (PySem.Str.ofString "copy").length = 4 := by decide +kernel
@[simp] theorem ne_2_0 : (PySem.Str.ofString "copy" = PySem.Str.ofString "read") = False := eq_false (by decide +kernel)
@[simp] theorem nb_2_0 : (PySem.Str.ofString "copy" == PySem.Str.ofString "read") = false := by decide +kernel
@[simp] theorem ne_2_1 : (PySem.Str.ofString "copy" = PySem.Str.ofString "write") = False := eq_false (by decide +kernel)
@[simp] theorem nb_2_1 : (PySem.Str.ofString "copy" == PySem.Str.ofString "write") = false := by decide +kernel
@[simp] theorem ne_2_3 : (PySem.Str.ofString "copy" = PySem.Str.ofString "fence") = False := eq_false (by decide +kernel)
@[simp] theorem nb_2_3 : (PySem.Str.ofString "copy" == PySem.Str.ofString "fence") = false := by decide +kernel
@[simp] theorem ne_2_4 : (PySem.Str.ofString "copy" = PySem.Str.ofString "guard") = False := eq_false (by decide +kernel)
@[simp] theorem nb_2_4 : (PySem.Str.ofString "copy" == PySem.Str.ofString "guard") = false := by decide +kernel
@[simp] theorem ne_2_5 : (PySem.Str.ofString "copy" = PySem.Str.ofString "r") = False := eq_false (by decide +kernel)
@[simp] theorem nb_2_5 : (PySem.Str.ofString "copy" == PySem.Str.ofString "r") = false := by decide +kernel
@[simp] theorem ne_2_6 : (PySem.Str.ofString "copy" = PySem.Str.ofString "w") = False := eq_false (by decide +kernel)
@[simp] theorem nb_2_6 : (PySem.Str.ofString "copy" == PySem.Str.ofString "w") = false := by decide +kernel
@[simp] theorem ne_2_7 : (PySem.Str.ofString "copy" = PySem.Str.ofString "g") = False := eq_false (by decide +kernel)
@[simp] theorem nb_2_7 : (PySem.Str.ofString "copy" == PySem.Str.ofString "g") = false := by decide +kernel
@[simp] theorem ne_2_8 : (PySem.Str.ofString "copy" = PySem.Str.ofString "f") = False := eq_false (by decide +kernel)
@[simp] theorem nb_2_8 : (PySem.Str.ofString "copy" == PySem.Str.ofString "f") = false := by decide +kernel
@[simp] theorem ne_2_9 : (PySem.Str.ofString "copy" = PySem.Str.ofString "rr") = False := eq_false (by decide +kernel)
@[simp] theorem nb_2_9 : (PySem.Str.ofString "copy" == PySem.Str.ofString "rr") = false := by decide +kernel
@[simp] theorem ne_2_10 : (PySem.Str.ofString "copy" = PySem.Str.ofString "rw") = False := eq_false (by decide +kernel)
@[simp] theorem nb_2_10 : (PySem.Str.ofString "copy" == PySem.Str.ofString "rw") = false := by decide +kernel
@[simp] theorem ne_2_11 : (PySem.Str.ofString "copy" = PySem.Str.ofString "rg") = False := eq_false (by decide +kernel)
@[simp] theorem nb_2_11 : (PySem.Str.ofString "copy" == PySem.Str.ofString "rg") = false := by decide +kernel
@[simp] theorem ne_2_12 : (PySem.Str.ofString "copy" = PySem.Str.ofString "rf") = False := eq_false (by decide +kernel)
@[simp] theorem nb_2_12 : (PySem.Str.ofString "copy" == PySem.Str.ofString "rf") = false := by decide +kernel
@[simp] theorem ne_2_13 : (PySem.Str.ofString "copy" = PySem.Str.ofString "wr") = False := eq_false (by decide +kernel)
@[simp] theorem nb_2_13 : (PySem.Str.ofString "copy" == PySem.Str.ofString "wr") = false := by decide +kernel
@[simp] theorem ne_2_14 : (PySem.Str.ofString "copy" = PySem.Str.ofString "ww") = False := eq_false (by decide +kernel)
@[simp] theorem nb_2_14 : (PySem.Str.ofString "copy" == PySem.Str.ofString "ww") = false := by decide +kernel
@[simp] theorem ne_2_15 : (PySem.Str.ofString "copy" = PySem.Str.ofString "wg") = False := eq_false (by decide +kernel)
@[simp] theorem nb_2_15 : (PySem.Str.ofString "copy" == PySem.Str.ofString "wg") = false := by decide +kernel
@[simp] theorem ne_2_16 : (PySem.Str.ofString "copy" = PySem.Str.ofString "wf") = False := eq_false (by decide +kernel)
@[simp] theorem nb_2_16 : (PySem.Str.ofString "copy" == PySem.Str.ofString "wf") = false := by decide +kernel
@[simp] theorem ne_2_17 : (PySem.Str.ofString "copy" = PySem.Str.ofString "gr") = False := eq_false (by decide +kernel)
@[simp] theorem nb_2_17 : (PySem.Str.ofString "copy" == PySem.Str.ofString "gr") = false := by decide +kernel
@[simp] theorem ne_2_18 : (PySem.Str.ofString "copy" = PySem.Str.ofString "gw") = False := eq_false (by decide +kernel)
@[simp] theorem nb_2_18 : (PySem.Str.ofString "copy" == PySem.Str.ofString "gw") = false := by decide +kernel
@[simp] theorem ne_2_19 : (PySem.Str.ofString "copy" = PySem.Str.ofString "gg") = False := eq_false (by decide +kernel)
@[simp] theorem nb_2_19 : (PySem.Str.ofString "copy" == PySem.Str.ofString "gg") = false := by decide +kernel
@[simp] theorem ne_2_20 : (PySem.Str.ofString "copy" = PySem.Str.ofString "gf") = False := eq_false (by decide +kernel)
@[simp] theorem nb_2_20 : (PySem.Str.ofString "copy" == PySem.Str.ofString "gf") = false := by decide +kernel
@[simp] theorem ne_2_21 : (PySem.Str.ofString "copy" = PySem.Str.ofString "fr") = False := eq_false (by decide +kernel)
@[simp] theorem nb_2_21 : (PySem.Str.ofString "copy" == PySem.Str.ofString "fr") = false := by decide +kernel
@[simp] theorem ne_2_22 : (PySem.Str.ofString "copy" = PySem.Str.ofString "fw") = False := eq_false (by decide +kernel)
@[simp] theorem nb_2_22 : (PySem.Str.ofString "copy" == PySem.Str.ofString "fw") = false := by decide +kernel
@[simp] theorem ne_2_23 : (PySem.Str.ofString "copy" = PySem.Str.ofString "fg") = False := eq_false (by decide +kernel)
@[simp] theorem nb_2_23 : (PySem.Str.ofString "copy" == PySem.Str.ofString "fg") = false := by decide +kernel
@[simp] theorem ne_2_24 : (PySem.Str.ofString "copy" = PySem.Str.ofString "ff") = False := eq_false (by decide +kernel)
@[simp] theorem nb_2_24 : (PySem.Str.ofString "copy" == PySem.Str.ofString "ff") = false := by decide +kernel
@[simp] theorem ne_2_25 : (PySem.Str.ofString "copy" = PySem.Str.ofString "own") = False := eq_false (by decide +kernel)
@[simp] theorem nb_2_25 : (PySem.Str.ofString "copy" == PySem.Str.ofString "own") = false := by decide +kernel
@[simp] theorem ne_2_26 : (PySem.Str.ofString "copy" = PySem.Str.ofString "ss") = False := eq_false (by decide +kernel)
@[simp] theorem nb_2_26 : (PySem.Str.ofString "copy" == PySem.Str.ofString "ss") = false := by decide +kernel
@[simp] theorem ne_2_27 : (PySem.Str.ofString "copy" = PySem.Str.ofString "core") = False := eq_false (by decide +kernel)
@[simp] theorem nb_2_27 : (PySem.Str.ofString "copy" == PySem.Str.ofString "core") = false := by decide +kernel
@[simp] theorem ne_2_28 : (PySem.Str.ofString "copy" = PySem.Str.ofString "place") = False := eq_false (by decide +kernel)
@[simp] theorem nb_2_28 : (PySem.Str.ofString "copy" == PySem.Str.ofString "place") = false := by decide +kernel
@[simp] theorem ne_2_29 : (PySem.Str.ofString "copy" = PySem.Str.ofString "design") = False := eq_false (by decide +kernel)
@[simp] theorem nb_2_29 : (PySem.Str.ofString "copy" == PySem.Str.ofString "design") = false := by decide +kernel
@[simp] theorem ne_2_30 : (PySem.Str.ofString "copy" = PySem.Str.ofString "") = False := eq_false (by decide +kernel)
@[simp] theorem nb_2_30 : (PySem.Str.ofString "copy" == PySem.Str.ofString "") = false := by decide +kernel
@[simp] theorem ne_2_31 : (PySem.Str.ofString "copy" = PySem.Str.ofString "xx") = False := eq_false (by decide +kernel)
@[simp] theorem nb_2_31 : (PySem.Str.ofString "copy" == PySem.Str.ofString "xx") = false := by decide +kernel
@[simp] theorem ok_3 : PyData.strOk (PySem.Str.ofString "fence") = true := by decide +kernel
@[simp] theorem len_3 : (PySem.Str.ofString "fence").length = 5 := by decide +kernel
@[simp] theorem ne_3_0 : (PySem.Str.ofString "fence" = PySem.Str.ofString "read") = False := eq_false (by decide +kernel)
@[simp] theorem nb_3_0 : (PySem.Str.ofString "fence" == PySem.Str.ofString "read") = false := by decide +kernel
@[simp] theorem ne_3_1 : (PySem.Str.ofString "fence" = PySem.Str.ofString "write") = False := eq_false (by decide +kernel)
@[simp] theorem nb_3_1 : (PySem.Str.ofString "fence" == PySem.Str.ofString "write") = false := by decide +kernel
@[simp] theorem ne_3_2 : (PySem.Str.ofString "fence" = PySem.Str.ofString "copy") = False := eq_false (by decide +kernel)
@[simp] theorem nb_3_2 : (PySem.Str.ofString "fence" == PySem.Str.ofString "copy") = false := by decide +kernel
@[simp] theorem ne_3_4 : (PySem.Str.ofString "fence" = PySem.Str.ofString "guard") = False := eq_false (by decide +kernel)
@[simp] theorem nb_3_4 : (PySem.Str.ofString "fence" == PySem.Str.ofString "guard") = false := by decide +kernel
@[simp] theorem ne_3_5 : (PySem.Str.ofString "fence" = PySem.Str.ofString "r") = False := eq_false (by decide +kernel)
@[simp] theorem nb_3_5 : (PySem.Str.ofString "fence" == PySem.Str.ofString "r") = false := by decide +kernel
@[simp] theorem ne_3_6 : (PySem.Str.ofString "fence" = PySem.Str.ofString "w") = False := eq_false (by decide +kernel)
@[simp] theorem nb_3_6 : (PySem.Str.ofString "fence" == PySem.Str.ofString "w") = false := by decide +kernel
@[simp] theorem ne_3_7 : (PySem.Str.ofString "fence" = PySem.Str.ofString "g") = False := eq_false (by decide +kernel)
@[simp] theorem nb_3_7 : (PySem.Str.ofString "fence" == PySem.Str.ofString "g") = false := by decide +kernel
@[simp] theorem ne_3_8 : (PySem.Str.ofString "fence" = PySem.Str.ofString "f") = False := eq_false (by decide +kernel)
@[simp] theorem nb_3_8 : (PySem.Str.ofString "fence" == PySem.Str.ofString "f") = false := by decide +kernel
@[simp] theorem ne_3_9 : (PySem.Str.ofString "fence" = PySem.Str.ofString "rr") = False := eq_false (by decide +kernel)
@[simp] theorem nb_3_9 : (PySem.Str.ofString "fence" == PySem.Str.ofString "rr") = false := by decide +kernel
@[simp] theorem ne_3_10 : (PySem.Str.ofString "fence" = PySem.Str.ofString "rw") = False := eq_false (by decide +kernel)
@[simp] theorem nb_3_10 : (PySem.Str.ofString "fence" == PySem.Str.ofString "rw") = false := by decide +kernel
@[simp] theorem ne_3_11 : (PySem.Str.ofString "fence" = PySem.Str.ofString "rg") = False := eq_false (by decide +kernel)
@[simp] theorem nb_3_11 : (PySem.Str.ofString "fence" == PySem.Str.ofString "rg") = false := by decide +kernel
@[simp] theorem ne_3_12 : (PySem.Str.ofString "fence" = PySem.Str.ofString "rf") = False := eq_false (by decide +kernel)
@[simp] theorem nb_3_12 : (PySem.Str.ofString "fence" == PySem.Str.ofString "rf") = false := by decide +kernel
@[simp] theorem ne_3_13 : (PySem.Str.ofString "fence" = PySem.Str.ofString "wr") = False := eq_false (by decide +kernel)
@[simp] theorem nb_3_13 : (PySem.Str.ofString "fence" == PySem.Str.ofString "wr") = false := by decide +kernel
@[simp] theorem ne_3_14 : (PySem.Str.ofString "fence" = PySem.Str.ofString "ww") = False := eq_false (by decide +kernel)
@[simp] theorem nb_3_14 : (PySem.Str.ofString "fence" == PySem.Str.ofString "ww") = false := by decide +kernel
@[simp] theorem ne_3_15 : (PySem.Str.ofString "fence" = PySem.Str.ofString "wg") = False := eq_false (by decide +kernel)
@[simp] theorem nb_3_15 : (PySem.Str.ofString "fence" == PySem.Str.ofString "wg") = false := by decide +kernel
@[simp] theorem ne_3_16 : (PySem.Str.ofString "fence" = PySem.Str.ofString "wf") = False := eq_false (by decide +kernel)
@[simp] theorem nb_3_16 : (PySem.Str.ofString "fence" == PySem.Str.ofString "wf") = false := by decide +kernel
@[simp] theorem ne_3_17 : (PySem.Str.ofString "fence" = PySem.Str.ofString "gr") = False := eq_false (by decide +kernel)
@[simp] theorem nb_3_17 : (PySem.Str.ofString "fence" == PySem.Str.ofString "gr") = false := by decide +kernel
@[simp] theorem ne_3_18 : (PySem.Str.ofString "fence" = PySem.Str.ofString "gw") = False := eq_false (by decide +kernel)
@[simp] theorem nb_3_18 : (PySem.Str.ofString "fence" == PySem.Str.ofString "gw") = false := by decide +kernel
@[simp] theorem ne_3_19 : (PySem.Str.ofString "fence" = PySem.Str.ofString "gg") = False := eq_false (by decide +kernel)
@[simp] theorem nb_3_19 : (PySem.Str.ofString "fence" == PySem.Str.ofString "gg") = false := by decide +kernel
@[simp] theorem ne_3_20 : (PySem.Str.ofString "fence" = PySem.Str.ofString "gf") = False := eq_false (by decide +kernel)
@[simp] theorem nb_3_20 : (PySem.Str.ofString "fence" == PySem.Str.ofString "gf") = false := by decide +kernel
@[simp] theorem ne_3_21 : (PySem.Str.ofString "fence" = PySem.Str.ofString "fr") = False := eq_false (by decide +kernel)
@[simp] theorem nb_3_21 : (PySem.Str.ofString "fence" == PySem.Str.ofString "fr") = false := by decide +kernel
@[simp] theorem ne_3_22 : (PySem.Str.ofString "fence" = PySem.Str.ofString "fw") = False := eq_false (by decide +kernel)
@[simp] theorem nb_3_22 : (PySem.Str.ofString "fence" == PySem.Str.ofString "fw") = false := by decide +kernel
@[simp] theorem ne_3_23 : (PySem.Str.ofString "fence" = PySem.Str.ofString "fg") = False := eq_false (by decide +kernel)
@[simp] theorem nb_3_23 : (PySem.Str.ofString "fence" == PySem.Str.ofString "fg") = false := by decide +kernel
@[simp] theorem ne_3_24 : (PySem.Str.ofString "fence" = PySem.Str.ofString "ff") = False := eq_false (by decide +kernel)
@[simp] theorem nb_3_24 : (PySem.Str.ofString "fence" == PySem.Str.ofString "ff") = false := by decide +kernel
@[simp] theorem ne_3_25 : (PySem.Str.ofString "fence" = PySem.Str.ofString "own") = False := eq_false (by decide +kernel)
@[simp] theorem nb_3_25 : (PySem.Str.ofString "fence" == PySem.Str.ofString "own") = false := by decide +kernel
@[simp] theorem ne_3_26 : (PySem.Str.ofString "fence" = PySem.Str.ofString "ss") = False := eq_false (by decide +kernel)
@[simp] theorem nb_3_26 : (PySem.Str.ofString "fence" == PySem.Str.ofString "ss") = false := by decide +kernel
@[simp] theorem ne_3_27 : (PySem.Str.ofString "fence" = PySem.Str.ofString "core") = False := eq_false (by decide +kernel)
@[simp] theorem nb_3_27 : (PySem.Str.ofString "fence" == PySem.Str.ofString "core") = false := by decide +kernel
@[simp] theorem ne_3_28 : (PySem.Str.ofString "fence" = PySem.Str.ofString "place") = False := eq_false (by decide +kernel)
@[simp] theorem nb_3_28 : (PySem.Str.ofString "fence" == PySem.Str.ofString "place") = false := by decide +kernel
@[simp] theorem ne_3_29 : (PySem.Str.ofString "fence" = PySem.Str.ofString "design") = False := eq_false (by decide +kernel)
@[simp] theorem nb_3_29 : (PySem.Str.ofString "fence" == PySem.Str.ofString "design") = false := by decide +kernel
@[simp] theorem ne_3_30 : (PySem.Str.ofString "fence" = PySem.Str.ofString "") = False := eq_false (by decide +kernel)
@[simp] theorem nb_3_30 : (PySem.Str.ofString "fence" == PySem.Str.ofString "") = false := by decide +kernel
@[simp] theorem ne_3_31 : (PySem.Str.ofString "fence" = PySem.Str.ofString "xx") = False := eq_false (by decide +kernel)
@[simp] theorem nb_3_31 : (PySem.Str.ofString "fence" == PySem.Str.ofString "xx") = false := by decide +kernel
@[simp] theorem ok_4 : PyData.strOk (PySem.Str.ofString "guard") = true := by decide +kernel
@[simp] theorem len_4 : (PySem.Str.ofString "guard").length = 5 := by decide +kernel
@[simp] theorem ne_4_0 : (PySem.Str.ofString "guard" = PySem.Str.ofString "read") = False := eq_false (by decide +kernel)
@[simp] theorem nb_4_0 : (PySem.Str.ofString "guard" == PySem.Str.ofString "read") = false := by decide +kernel
@[simp] theorem ne_4_1 : (PySem.Str.ofString "guard" = PySem.Str.ofString "write") = False := eq_false (by decide +kernel)
@[simp] theorem nb_4_1 : (PySem.Str.ofString "guard" == PySem.Str.ofString "write") = false := by decide +kernel
@[simp] theorem ne_4_2 : (PySem.Str.ofString "guard" = PySem.Str.ofString "copy") = False := eq_false (by decide +kernel)
@[simp] theorem nb_4_2 : (PySem.Str.ofString "guard" == PySem.Str.ofString "copy") = false := by decide +kernel
@[simp] theorem ne_4_3 : (PySem.Str.ofString "guard" = PySem.Str.ofString "fence") = False := eq_false (by decide +kernel)
@[simp] theorem nb_4_3 : (PySem.Str.ofString "guard" == PySem.Str.ofString "fence") = false := by decide +kernel
@[simp] theorem ne_4_5 : (PySem.Str.ofString "guard" = PySem.Str.ofString "r") = False := eq_false (by decide +kernel)
@[simp] theorem nb_4_5 : (PySem.Str.ofString "guard" == PySem.Str.ofString "r") = false := by decide +kernel
@[simp] theorem ne_4_6 : (PySem.Str.ofString "guard" = PySem.Str.ofString "w") = False := eq_false (by decide +kernel)
@[simp] theorem nb_4_6 : (PySem.Str.ofString "guard" == PySem.Str.ofString "w") = false := by decide +kernel
@[simp] theorem ne_4_7 : (PySem.Str.ofString "guard" = PySem.Str.ofString "g") = False := eq_false (by decide +kernel)
@[simp] theorem nb_4_7 : (PySem.Str.ofString "guard" == PySem.Str.ofString "g") = false := by decide +kernel
@[simp] theorem ne_4_8 : (PySem.Str.ofString "guard" = PySem.Str.ofString "f") = False := eq_false (by decide +kernel)
@[simp] theorem nb_4_8 : (PySem.Str.ofString "guard" == PySem.Str.ofString "f") = false := by decide +kernel
@[simp] theorem ne_4_9 : (PySem.Str.ofString "guard" = PySem.Str.ofString "rr") = False := eq_false (by decide +kernel)
@[simp] theorem nb_4_9 : (PySem.Str.ofString "guard" == PySem.Str.ofString "rr") = false := by decide +kernel
@[simp] theorem ne_4_10 : (PySem.Str.ofString "guard" = PySem.Str.ofString "rw") = False := eq_false (by decide +kernel)
@[simp] theorem nb_4_10 : (PySem.Str.ofString "guard" == PySem.Str.ofString "rw") = false := by decide +kernel
@[simp] theorem ne_4_11 : (PySem.Str.ofString "guard" = PySem.Str.ofString "rg") = False := eq_false (by decide +kernel)
@[simp] theorem nb_4_11 : (PySem.Str.ofString "guard" == PySem.Str.ofString "rg") = false := by decide +kernel
@[simp] theorem ne_4_12 : (PySem.Str.ofString "guard" = PySem.Str.ofString "rf") = False := eq_false (by decide +kernel)
@[simp] theorem nb_4_12 : (PySem.Str.ofString "guard" == PySem.Str.ofString "rf") = false := by decide +kernel
@[simp] theorem ne_4_13 : (PySem.Str.ofString "guard" = PySem.Str.ofString "wr") = False := eq_false (by decide +kernel)
@[simp] theorem nb_4_13 : (PySem.Str.ofString "guard" == PySem.Str.ofString "wr") = false := by decide +kernel
@[simp] theorem ne_4_14 : (PySem.Str.ofString "guard" = PySem.Str.ofString "ww") = False := eq_false (by decide +kernel)
@[simp] theorem nb_4_14 : (PySem.Str.ofString "guard" == PySem.Str.ofString "ww") = false := by decide +kernel
@[simp] theorem ne_4_15 : (PySem.Str.ofString "guard" = PySem.Str.ofString "wg") = False := eq_false (by decide +kernel)
@[simp] theorem nb_4_15 : (PySem.Str.ofString "guard" == PySem.Str.ofString "wg") = false := by decide +kernel
@[simp] theorem ne_4_16 : (PySem.Str.ofString "guard" = PySem.Str.ofString "wf") = False := eq_false (by decide +kernel)
@[simp] theorem nb_4_16 : (PySem.Str.ofString "guard" == PySem.Str.ofString "wf") = false := by decide +kernel
@[simp] theorem ne_4_17 : (PySem.Str.ofString "guard" = PySem.Str.ofString "gr") = False := eq_false (by decide +kernel)
@[simp] theorem nb_4_17 : (PySem.Str.ofString "guard" == PySem.Str.ofString "gr") = false := by decide +kernel
@[simp] theorem ne_4_18 : (PySem.Str.ofString "guard" = PySem.Str.ofString "gw") = False := eq_false (by decide +kernel)
@[simp] theorem nb_4_18 : (PySem.Str.ofString "guard" == PySem.Str.ofString "gw") = false := by decide +kernel
@[simp] theorem ne_4_19 : (PySem.Str.ofString "guard" = PySem.Str.ofString "gg") = False := eq_false (by decide +kernel)
@[simp] theorem nb_4_19 : (PySem.Str.ofString "guard" == PySem.Str.ofString "gg") = false := by decide +kernel
@[simp] theorem ne_4_20 : (PySem.Str.ofString "guard" = PySem.Str.ofString "gf") = False := eq_false (by decide +kernel)
@[simp] theorem nb_4_20 : (PySem.Str.ofString "guard" == PySem.Str.ofString "gf") = false := by decide +kernel
@[simp] theorem ne_4_21 : (PySem.Str.ofString "guard" = PySem.Str.ofString "fr") = False := eq_false (by decide +kernel)
@[simp] theorem nb_4_21 : (PySem.Str.ofString "guard" == PySem.Str.ofString "fr") = false := by decide +kernel
@[simp] theorem ne_4_22 : (PySem.Str.ofString "guard" = PySem.Str.ofString "fw") = False := eq_false (by decide +kernel)
@[simp] theorem nb_4_22 : (PySem.Str.ofString "guard" == PySem.Str.ofString "fw") = false := by decide +kernel
@[simp] theorem ne_4_23 : (PySem.Str.ofString "guard" = PySem.Str.ofString "fg") = False := eq_false (by decide +kernel)
@[simp] theorem nb_4_23 : (PySem.Str.ofString "guard" == PySem.Str.ofString "fg") = false := by decide +kernel
@[simp] theorem ne_4_24 : (PySem.Str.ofString "guard" = PySem.Str.ofString "ff") = False := eq_false (by decide +kernel)
@[simp] theorem nb_4_24 : (PySem.Str.ofString "guard" == PySem.Str.ofString "ff") = false := by decide +kernel
@[simp] theorem ne_4_25 : (PySem.Str.ofString "guard" = PySem.Str.ofString "own") = False := eq_false (by decide +kernel)
@[simp] theorem nb_4_25 : (PySem.Str.ofString "guard" == PySem.Str.ofString "own") = false := by decide +kernel
@[simp] theorem ne_4_26 : (PySem.Str.ofString "guard" = PySem.Str.ofString "ss") = False := eq_false (by decide +kernel)
@[simp] theorem nb_4_26 : (PySem.Str.ofString "guard" == PySem.Str.ofString "ss") = false := by decide +kernel
@[simp] theorem ne_4_27 : (PySem.Str.ofString "guard" = PySem.Str.ofString "core") = False := eq_false (by decide +kernel)
@[simp] theorem nb_4_27 : (PySem.Str.ofString "guard" == PySem.Str.ofString "core") = false := by decide +kernel
@[simp] theorem ne_4_28 : (PySem.Str.ofString "guard" = PySem.Str.ofString "place") = False := eq_false (by decide +kernel)
@[simp] theorem nb_4_28 : (PySem.Str.ofString "guard" == PySem.Str.ofString "place") = false := by decide +kernel
@[simp] theorem ne_4_29 : (PySem.Str.ofString "guard" = PySem.Str.ofString "design") = False := eq_false (by decide +kernel)
@[simp] theorem nb_4_29 : (PySem.Str.ofString "guard" == PySem.Str.ofString "design") = false := by decide +kernel
@[simp] theorem ne_4_30 : (PySem.Str.ofString "guard" = PySem.Str.ofString "") = False := eq_false (by decide +kernel)
@[simp] theorem nb_4_30 : (PySem.Str.ofString "guard" == PySem.Str.ofString "") = false := by decide +kernel
@[simp] theorem ne_4_31 : (PySem.Str.ofString "guard" = PySem.Str.ofString "xx") = False := eq_false (by decide +kernel)
@[simp] theorem nb_4_31 : (PySem.Str.ofString "guard" == PySem.Str.ofString "xx") = false := by decide +kernel
@[simp] theorem ok_5 : PyData.strOk (PySem.Str.ofString "r") = true := by decide +kernel
@[simp] theorem len_5 : (PySem.Str.ofString "r").length = 1 := by decide +kernel
@[simp] theorem ne_5_0 : (PySem.Str.ofString "r" = PySem.Str.ofString "read") = False := eq_false (by decide +kernel)
@[simp] theorem nb_5_0 : (PySem.Str.ofString "r" == PySem.Str.ofString "read") = false := by decide +kernel
@[simp] theorem ne_5_1 : (PySem.Str.ofString "r" = PySem.Str.ofString "write") = False := eq_false (by decide +kernel)
@[simp] theorem nb_5_1 : (PySem.Str.ofString "r" == PySem.Str.ofString "write") = false := by decide +kernel
@[simp] theorem ne_5_2 : (PySem.Str.ofString "r" = PySem.Str.ofString "copy") = False := eq_false (by decide +kernel)
@[simp] theorem nb_5_2 : (PySem.Str.ofString "r" == PySem.Str.ofString "copy") = false := by decide +kernel
@[simp] theorem ne_5_3 : (PySem.Str.ofString "r" = PySem.Str.ofString "fence") = False := eq_false (by decide +kernel)
@[simp] theorem nb_5_3 : (PySem.Str.ofString "r" == PySem.Str.ofString "fence") = false := by decide +kernel
@[simp] theorem ne_5_4 : (PySem.Str.ofString "r" = PySem.Str.ofString "guard") = False := eq_false (by decide +kernel)
@[simp] theorem nb_5_4 : (PySem.Str.ofString "r" == PySem.Str.ofString "guard") = false := by decide +kernel
@[simp] theorem ne_5_6 : (PySem.Str.ofString "r" = PySem.Str.ofString "w") = False := eq_false (by decide +kernel)
@[simp] theorem nb_5_6 : (PySem.Str.ofString "r" == PySem.Str.ofString "w") = false := by decide +kernel
@[simp] theorem ne_5_7 : (PySem.Str.ofString "r" = PySem.Str.ofString "g") = False := eq_false (by decide +kernel)
@[simp] theorem nb_5_7 : (PySem.Str.ofString "r" == PySem.Str.ofString "g") = false := by decide +kernel
@[simp] theorem ne_5_8 : (PySem.Str.ofString "r" = PySem.Str.ofString "f") = False := eq_false (by decide +kernel)
@[simp] theorem nb_5_8 : (PySem.Str.ofString "r" == PySem.Str.ofString "f") = false := by decide +kernel
@[simp] theorem ne_5_9 : (PySem.Str.ofString "r" = PySem.Str.ofString "rr") = False := eq_false (by decide +kernel)
@[simp] theorem nb_5_9 : (PySem.Str.ofString "r" == PySem.Str.ofString "rr") = false := by decide +kernel
@[simp] theorem ne_5_10 : (PySem.Str.ofString "r" = PySem.Str.ofString "rw") = False := eq_false (by decide +kernel)
@[simp] theorem nb_5_10 : (PySem.Str.ofString "r" == PySem.Str.ofString "rw") = false := by decide +kernel
@[simp] theorem ne_5_11 : (PySem.Str.ofString "r" = PySem.Str.ofString "rg") = False := eq_false (by decide +kernel)
@[simp] theorem nb_5_11 : (PySem.Str.ofString "r" == PySem.Str.ofString "rg") = false := by decide +kernel
@[simp] theorem ne_5_12 : (PySem.Str.ofString "r" = PySem.Str.ofString "rf") = False := eq_false (by decide +kernel)
@[simp] theorem nb_5_12 : (PySem.Str.ofString "r" == PySem.Str.ofString "rf") = false := by decide +kernel
@[simp] theorem ne_5_13 : (PySem.Str.ofString "r" = PySem.Str.ofString "wr") = False := eq_false (by decide +kernel)
@[simp] theorem nb_5_13 : (PySem.Str.ofString "r" == PySem.Str.ofString "wr") = false := by decide +kernel
@[simp] theorem ne_5_14 : (PySem.Str.ofString "r" = PySem.Str.ofString "ww") = False := eq_false (by decide +kernel)
@[simp] theorem nb_5_14 : (PySem.Str.ofString "r" == PySem.Str.ofString "ww") = false := by decide +kernel
@[simp] theorem ne_5_15 : (PySem.Str.ofString "r" = PySem.Str.ofString "wg") = False := eq_false (by decide +kernel)
@[simp] theorem nb_5_15 : (PySem.Str.ofString "r" == PySem.Str.ofString "wg") = false := by decide +kernel
@[simp] theorem ne_5_16 : (PySem.Str.ofString "r" = PySem.Str.ofString "wf") = False := eq_false (by decide +kernel)
@[simp] theorem nb_5_16 : (PySem.Str.ofString "r" == PySem.Str.ofString "wf") = false := by decide +kernel
@[simp] theorem ne_5_17 : (PySem.Str.ofString "r" = PySem.Str.ofString "gr") = False := eq_false (by decide +kernel)
@[simp] theorem nb_5_17 : (PySem.Str.ofString "r" == PySem.Str.ofString "gr") = false := by decide +kernel
@[simp] theorem ne_5_18 : (PySem.Str.ofString "r" = PySem.Str.ofString "gw") = False := eq_false (by decide +kernel)
@[simp] theorem nb_5_18 : (PySem.Str.ofString "r" == PySem.Str.ofString "gw") = false := by decide +kernel
@[simp] theorem ne_5_19 : (PySem.Str.ofString "r" = PySem.Str.ofString "gg") = False := eq_false (by decide +kernel)
@[simp] theorem nb_5_19 : (PySem.Str.ofString "r" == PySem.Str.ofString "gg") = false := by decide +kernel
@[simp] theorem ne_5_20 : (PySem.Str.ofString "r" = PySem.Str.ofString "gf") = False := eq_false (by decide +kernel)
@[simp] theorem nb_5_20 : (PySem.Str.ofString "r" == PySem.Str.ofString "gf") = false := by decide +kernel
@[simp] theorem ne_5_21 : (PySem.Str.ofString "r" = PySem.Str.ofString "fr") = False := eq_false (by decide +kernel)
@[simp] theorem nb_5_21 : (PySem.Str.ofString "r" == PySem.Str.ofString "fr") = false := by decide +kernel
@[simp] theorem ne_5_22 : (PySem.Str.ofString "r" = PySem.Str.ofString "fw") = False := eq_false (by decide +kernel)
@[simp] theorem nb_5_22 : (PySem.Str.ofString "r" == PySem.Str.ofString "fw") = false := by decide +kernel
@[simp] theorem ne_5_23 : (PySem.Str.ofString "r" = PySem.Str.ofString "fg") = False := eq_false (by decide +kernel)
@[simp] theorem nb_5_23 : (PySem.Str.ofString "r" == PySem.Str.ofString "fg") = false := by decide +kernel
@[simp] theorem ne_5_24 : (PySem.Str.ofString "r" = PySem.Str.ofString "ff") = False := eq_false (by decide +kernel)
@[simp] theorem nb_5_24 : (PySem.Str.ofString "r" == PySem.Str.ofString "ff") = false := by decide +kernel
@[simp] theorem ne_5_25 : (PySem.Str.ofString "r" = PySem.Str.ofString "own") = False := eq_false (by decide +kernel)
@[simp] theorem nb_5_25 : (PySem.Str.ofString "r" == PySem.Str.ofString "own") = false := by decide +kernel
@[simp] theorem ne_5_26 : (PySem.Str.ofString "r" = PySem.Str.ofString "ss") = False := eq_false (by decide +kernel)
@[simp] theorem nb_5_26 : (PySem.Str.ofString "r" == PySem.Str.ofString "ss") = false := by decide +kernel
@[simp] theorem ne_5_27 : (PySem.Str.ofString "r" = PySem.Str.ofString "core") = False := eq_false (by decide +kernel)
@[simp] theorem nb_5_27 : (PySem.Str.ofString "r" == PySem.Str.ofString "core") = false := by decide +kernel
@[simp] theorem ne_5_28 : (PySem.Str.ofString "r" = PySem.Str.ofString "place") = False := eq_false (by decide +kernel)
@[simp] theorem nb_5_28 : (PySem.Str.ofString "r" == PySem.Str.ofString "place") = false := by decide +kernel
@[simp] theorem ne_5_29 : (PySem.Str.ofString "r" = PySem.Str.ofString "design") = False := eq_false (by decide +kernel)
@[simp] theorem nb_5_29 : (PySem.Str.ofString "r" == PySem.Str.ofString "design") = false := by decide +kernel
@[simp] theorem ne_5_30 : (PySem.Str.ofString "r" = PySem.Str.ofString "") = False := eq_false (by decide +kernel)
@[simp] theorem nb_5_30 : (PySem.Str.ofString "r" == PySem.Str.ofString "") = false := by decide +kernel
@[simp] theorem ne_5_31 : (PySem.Str.ofString "r" = PySem.Str.ofString "xx") = False := eq_false (by decide +kernel)
@[simp] theorem nb_5_31 : (PySem.Str.ofString "r" == PySem.Str.ofString "xx") = false := by decide +kernel
@[simp] theorem ok_6 : PyData.strOk (PySem.Str.ofString "w") = true := by decide +kernel
@[simp] theorem len_6 : (PySem.Str.ofString "w").length = 1 := by decide +kernel
@[simp] theorem ne_6_0 : (PySem.Str.ofString "w" = PySem.Str.ofString "read") = False := eq_false (by decide +kernel)
@[simp] theorem nb_6_0 : (PySem.Str.ofString "w" == PySem.Str.ofString "read") = false := by decide +kernel
@[simp] theorem ne_6_1 : (PySem.Str.ofString "w" = PySem.Str.ofString "write") = False := eq_false (by decide +kernel)
@[simp] theorem nb_6_1 : (PySem.Str.ofString "w" == PySem.Str.ofString "write") = false := by decide +kernel
@[simp] theorem ne_6_2 : (PySem.Str.ofString "w" = PySem.Str.ofString "copy") = False := eq_false (by decide +kernel)
@[simp] theorem nb_6_2 : (PySem.Str.ofString "w" == PySem.Str.ofString "copy") = false := by decide +kernel
@[simp] theorem ne_6_3 : (PySem.Str.ofString "w" = PySem.Str.ofString "fence") = False := eq_false (by decide +kernel)
@[simp] theorem nb_6_3 : (PySem.Str.ofString "w" == PySem.Str.ofString "fence") = false := by decide +kernel
@[simp] theorem ne_6_4 : (PySem.Str.ofString "w" = PySem.Str.ofString "guard") = False := eq_false (by decide +kernel)
@[simp] theorem nb_6_4 : (PySem.Str.ofString "w" == PySem.Str.ofString "guard") = false := by decide +kernel
@[simp] theorem ne_6_5 : (PySem.Str.ofString "w" = PySem.Str.ofString "r") = False := eq_false (by decide +kernel)
@[simp] theorem nb_6_5 : (PySem.Str.ofString "w" == PySem.Str.ofString "r") = false := by decide +kernel
@[simp] theorem ne_6_7 : (PySem.Str.ofString "w" = PySem.Str.ofString "g") = False := eq_false (by decide +kernel)
@[simp] theorem nb_6_7 : (PySem.Str.ofString "w" == PySem.Str.ofString "g") = false := by decide +kernel
@[simp] theorem ne_6_8 : (PySem.Str.ofString "w" = PySem.Str.ofString "f") = False := eq_false (by decide +kernel)
@[simp] theorem nb_6_8 : (PySem.Str.ofString "w" == PySem.Str.ofString "f") = false := by decide +kernel
@[simp] theorem ne_6_9 : (PySem.Str.ofString "w" = PySem.Str.ofString "rr") = False := eq_false (by decide +kernel)
@[simp] theorem nb_6_9 : (PySem.Str.ofString "w" == PySem.Str.ofString "rr") = false := by decide +kernel
@[simp] theorem ne_6_10 : (PySem.Str.ofString "w" = PySem.Str.ofString "rw") = False := eq_false (by decide +kernel)
@[simp] theorem nb_6_10 : (PySem.Str.ofString "w" == PySem.Str.ofString "rw") = false := by decide +kernel
@[simp] theorem ne_6_11 : (PySem.Str.ofString "w" = PySem.Str.ofString "rg") = False := eq_false (by decide +kernel)
@[simp] theorem nb_6_11 : (PySem.Str.ofString "w" == PySem.Str.ofString "rg") = false := by decide +kernel
@[simp] theorem ne_6_12 : (PySem.Str.ofString "w" = PySem.Str.ofString "rf") = False := eq_false (by decide +kernel)
@[simp] theorem nb_6_12 : (PySem.Str.ofString "w" == PySem.Str.ofString "rf") = false := by decide +kernel
@[simp] theorem ne_6_13 : (PySem.Str.ofString "w" = PySem.Str.ofString "wr") = False := eq_false (by decide +kernel)
@[simp] theorem nb_6_13 : (PySem.Str.ofString "w" == PySem.Str.ofString "wr") = false := by decide +kernel
@[simp] theorem ne_6_14 : (PySem.Str.ofString "w" = PySem.Str.ofString "ww") = False := eq_false (by decide +kernel)
@[simp] theorem nb_6_14 : (PySem.Str.ofString "w" == PySem.Str.ofString "ww") = false := by decide +kernel
@[simp] theorem ne_6_15 : (PySem.Str.ofString "w" = PySem.Str.ofString "wg") = False := eq_false (by decide +kernel)
@[simp] theorem nb_6_15 : (PySem.Str.ofString "w" == PySem.Str.ofString "wg") = false := by decide +kernel
@[simp] theorem ne_6_16 : (PySem.Str.ofString "w" = PySem.Str.ofString "wf") = False := eq_false (by decide +kernel)
@[simp] theorem nb_6_16 : (PySem.Str.ofString "w" == PySem.Str.ofString "wf") = false := by decide +kernel
@[simp] theorem ne_6_17 : (PySem.Str.ofString "w" = PySem.Str.ofString "gr") = False := eq_false (by decide +kernel)
@[simp] theorem nb_6_17 : (PySem.Str.ofString "w" == PySem.Str.ofString "gr") = false := by decide +kernel
@[simp] theorem ne_6_18 : (PySem.Str.ofString "w" = PySem.Str.ofString "gw") = False := eq_false (by decide +kernel)
@[simp] theorem nb_6_18 : (PySem.Str.ofString "w" == PySem.Str.ofString "gw") = false := by decide +kernel
@[simp] theorem ne_6_19 : (PySem.Str.ofString "w" = PySem.Str.ofString "gg") = False := eq_false (by decide +kernel)
@[simp] theorem nb_6_19 : (PySem.Str.ofString "w" == PySem.Str.ofString "gg") = false := by decide +kernel
@[simp] theorem ne_6_20 : (PySem.Str.ofString "w" = PySem.Str.ofString "gf") = False := eq_false (by decide +kernel)
@[simp] theorem nb_6_20 : (PySem.Str.ofString "w" == PySem.Str.ofString "gf") = false := by decide +kernel
@[simp] theorem ne_6_21 : (PySem.Str.ofString "w" = PySem.Str.ofString "fr") = False := eq_false (by decide +kernel)
@[simp] theorem nb_6_21 : (PySem.Str.ofString "w" == PySem.Str.ofString "fr") = false := by decide +kernel
@[simp] theorem ne_6_22 : (PySem.Str.ofString "w" = PySem.Str.ofString "fw") = False := eq_false (by decide +kernel)
@[simp] theorem nb_6_22 : (PySem.Str.ofString "w" == PySem.Str.ofString "fw") = false := by decide +kernel
@[simp] theorem ne_6_23 : (PySem.Str.ofString "w" = PySem.Str.ofString "fg") = False := eq_false (by decide +kernel)
@[simp] theorem nb_6_23 : (PySem.Str.ofString "w" == PySem.Str.ofString "fg") = false := by decide +kernel
@[simp] theorem ne_6_24 : (PySem.Str.ofString "w" = PySem.Str.ofString "ff") = False := eq_false (by decide +kernel)
@[simp] theorem nb_6_24 : (PySem.Str.ofString "w" == PySem.Str.ofString "ff") = false := by decide +kernel
@[simp] theorem ne_6_25 : (PySem.Str.ofString "w" = PySem.Str.ofString "own") = False := eq_false (by decide +kernel)
@[simp] theorem nb_6_25 : (PySem.Str.ofString "w" == PySem.Str.ofString "own") = false := by decide +kernel
@[simp] theorem ne_6_26 : (PySem.Str.ofString "w" = PySem.Str.ofString "ss") = False := eq_false (by decide +kernel)
@[simp] theorem nb_6_26 : (PySem.Str.ofString "w" == PySem.Str.ofString "ss") = false := by decide +kernel
@[simp] theorem ne_6_27 : (PySem.Str.ofString "w" = PySem.Str.ofString "core") = False := eq_false (by decide +kernel)
@[simp] theorem nb_6_27 : (PySem.Str.ofString "w" == PySem.Str.ofString "core") = false := by decide +kernel
@[simp] theorem ne_6_28 : (PySem.Str.ofString "w" = PySem.Str.ofString "place") = False := eq_false (by decide +kernel)
@[simp] theorem nb_6_28 : (PySem.Str.ofString "w" == PySem.Str.ofString "place") = false := by decide +kernel
@[simp] theorem ne_6_29 : (PySem.Str.ofString "w" = PySem.Str.ofString "design") = False := eq_false (by decide +kernel)
@[simp] theorem nb_6_29 : (PySem.Str.ofString "w" == PySem.Str.ofString "design") = false := by decide +kernel
@[simp] theorem ne_6_30 : (PySem.Str.ofString "w" = PySem.Str.ofString "") = False := eq_false (by decide +kernel)
@[simp] theorem nb_6_30 : (PySem.Str.ofString "w" == PySem.Str.ofString "") = false := by decide +kernel
@[simp] theorem ne_6_31 : (PySem.Str.ofString "w" = PySem.Str.ofString "xx") = False := eq_false (by decide +kernel)
@[simp] theorem nb_6_31 : (PySem.Str.ofString "w" == PySem.Str.ofString "xx") = false := by decide +kernel
@[simp] theorem ok_7 : PyData.strOk (PySem.Str.ofString "g") = true := by decide +kernel
@[simp] theorem len_7 : (PySem.Str.ofString "g").length = 1 := by decide +kernel
@[simp] theorem ne_7_0 : (PySem.Str.ofString "g" = PySem.Str.ofString "read") = False := eq_false (by decide +kernel)
@[simp] theorem nb_7_0 : (PySem.Str.ofString "g" == PySem.Str.ofString "read") = false := by decide +kernel
@[simp] theorem ne_7_1 : (PySem.Str.ofString "g" = PySem.Str.ofString "write") = False := eq_false (by decide +kernel)
@[simp] theorem nb_7_1 : (PySem.Str.ofString "g" == PySem.Str.ofString "write") = false := by decide +kernel
@[simp] theorem ne_7_2 : (PySem.Str.ofString "g" = PySem.Str.ofString "copy") = False := eq_false (by decide +kernel)
@[simp] theorem nb_7_2 : (PySem.Str.ofString "g" == PySem.Str.ofString "copy") = false := by decide +kernel
@[simp] theorem ne_7_3 : (PySem.Str.ofString "g" = PySem.Str.ofString "fence") = False := eq_false (by decide +kernel)
@[simp] theorem nb_7_3 : (PySem.Str.ofString "g" == PySem.Str.ofString "fence") = false := by decide +kernel
@[simp] theorem ne_7_4 : (PySem.Str.ofString "g" = PySem.Str.ofString "guard") = False := eq_false (by decide +kernel)
@[simp] theorem nb_7_4 : (PySem.Str.ofString "g" == PySem.Str.ofString "guard") = false := by decide +kernel
@[simp] theorem ne_7_5 : (PySem.Str.ofString "g" = PySem.Str.ofString "r") = False := eq_false (by decide +kernel)
@[simp] theorem nb_7_5 : (PySem.Str.ofString "g" == PySem.Str.ofString "r") = false := by decide +kernel
@[simp] theorem ne_7_6 : (PySem.Str.ofString "g" = PySem.Str.ofString "w") = False := eq_false (by decide +kernel)
@[simp] theorem nb_7_6 : (PySem.Str.ofString "g" == PySem.Str.ofString "w") = false := by decide +kernel
@[simp] theorem ne_7_8 : (PySem.Str.ofString "g" = PySem.Str.ofString "f") = False := eq_false (by decide +kernel)
@[simp] theorem nb_7_8 : (PySem.Str.ofString "g" == PySem.Str.ofString "f") = false := by decide +kernel
@[simp] theorem ne_7_9 : (PySem.Str.ofString "g" = PySem.Str.ofString "rr") = False := eq_false (by decide +kernel)
@[simp] theorem nb_7_9 : (PySem.Str.ofString "g" == PySem.Str.ofString "rr") = false := by decide +kernel
@[simp] theorem ne_7_10 : (PySem.Str.ofString "g" = PySem.Str.ofString "rw") = False := eq_false (by decide +kernel)
@[simp] theorem nb_7_10 : (PySem.Str.ofString "g" == PySem.Str.ofString "rw") = false := by decide +kernel
@[simp] theorem ne_7_11 : (PySem.Str.ofString "g" = PySem.Str.ofString "rg") = False := eq_false (by decide +kernel)
@[simp] theorem nb_7_11 : (PySem.Str.ofString "g" == PySem.Str.ofString "rg") = false := by decide +kernel
@[simp] theorem ne_7_12 : (PySem.Str.ofString "g" = PySem.Str.ofString "rf") = False := eq_false (by decide +kernel)
@[simp] theorem nb_7_12 : (PySem.Str.ofString "g" == PySem.Str.ofString "rf") = false := by decide +kernel
@[simp] theorem ne_7_13 : (PySem.Str.ofString "g" = PySem.Str.ofString "wr") = False := eq_false (by decide +kernel)
@[simp] theorem nb_7_13 : (PySem.Str.ofString "g" == PySem.Str.ofString "wr") = false := by decide +kernel
@[simp] theorem ne_7_14 : (PySem.Str.ofString "g" = PySem.Str.ofString "ww") = False := eq_false (by decide +kernel)
@[simp] theorem nb_7_14 : (PySem.Str.ofString "g" == PySem.Str.ofString "ww") = false := by decide +kernel
@[simp] theorem ne_7_15 : (PySem.Str.ofString "g" = PySem.Str.ofString "wg") = False := eq_false (by decide +kernel)
@[simp] theorem nb_7_15 : (PySem.Str.ofString "g" == PySem.Str.ofString "wg") = false := by decide +kernel
@[simp] theorem ne_7_16 : (PySem.Str.ofString "g" = PySem.Str.ofString "wf") = False := eq_false (by decide +kernel)
@[simp] theorem nb_7_16 : (PySem.Str.ofString "g" == PySem.Str.ofString "wf") = false := by decide +kernel
@[simp] theorem ne_7_17 : (PySem.Str.ofString "g" = PySem.Str.ofString "gr") = False := eq_false (by decide +kernel)
@[simp] theorem nb_7_17 : (PySem.Str.ofString "g" == PySem.Str.ofString "gr") = false := by decide +kernel
@[simp] theorem ne_7_18 : (PySem.Str.ofString "g" = PySem.Str.ofString "gw") = False := eq_false (by decide +kernel)
@[simp] theorem nb_7_18 : (PySem.Str.ofString "g" == PySem.Str.ofString "gw") = false := by decide +kernel
@[simp] theorem ne_7_19 : (PySem.Str.ofString "g" = PySem.Str.ofString "gg") = False := eq_false (by decide +kernel)
@[simp] theorem nb_7_19 : (PySem.Str.ofString "g" == PySem.Str.ofString "gg") = false := by decide +kernel
@[simp] theorem ne_7_20 : (PySem.Str.ofString "g" = PySem.Str.ofString "gf") = False := eq_false (by decide +kernel)
@[simp] theorem nb_7_20 : (PySem.Str.ofString "g" == PySem.Str.ofString "gf") = false := by decide +kernel
@[simp] theorem ne_7_21 : (PySem.Str.ofString "g" = PySem.Str.ofString "fr") = False := eq_false (by decide +kernel)
@[simp] theorem nb_7_21 : (PySem.Str.ofString "g" == PySem.Str.ofString "fr") = false := by decide +kernel
@[simp] theorem ne_7_22 : (PySem.Str.ofString "g" = PySem.Str.ofString "fw") = False := eq_false (by decide +kernel)
@[simp] theorem nb_7_22 : (PySem.Str.ofString "g" == PySem.Str.ofString "fw") = false := by decide +kernel
@[simp] theorem ne_7_23 : (PySem.Str.ofString "g" = PySem.Str.ofString "fg") = False := eq_false (by decide +kernel)
@[simp] theorem nb_7_23 : (PySem.Str.ofString "g" == PySem.Str.ofString "fg") = false := by decide +kernel
@[simp] theorem ne_7_24 : (PySem.Str.ofString "g" = PySem.Str.ofString "ff") = False := eq_false (by decide +kernel)
@[simp] theorem nb_7_24 : (PySem.Str.ofString "g" == PySem.Str.ofString "ff") = false := by decide +kernel
@[simp] theorem ne_7_25 : (PySem.Str.ofString "g" = PySem.Str.ofString "own") = False := eq_false (by decide +kernel)
@[simp] theorem nb_7_25 : (PySem.Str.ofString "g" == PySem.Str.ofString "own") = false := by decide +kernel
@[simp] theorem ne_7_26 : (PySem.Str.ofString "g" = PySem.Str.ofString "ss") = False := eq_false (by decide +kernel)
@[simp] theorem nb_7_26 : (PySem.Str.ofString "g" == PySem.Str.ofString "ss") = false := by decide +kernel
@[simp] theorem ne_7_27 : (PySem.Str.ofString "g" = PySem.Str.ofString "core") = False := eq_false (by decide +kernel)
@[simp] theorem nb_7_27 : (PySem.Str.ofString "g" == PySem.Str.ofString "core") = false := by decide +kernel
@[simp] theorem ne_7_28 : (PySem.Str.ofString "g" = PySem.Str.ofString "place") = False := eq_false (by decide +kernel)
@[simp] theorem nb_7_28 : (PySem.Str.ofString "g" == PySem.Str.ofString "place") = false := by decide +kernel
@[simp] theorem ne_7_29 : (PySem.Str.ofString "g" = PySem.Str.ofString "design") = False := eq_false (by decide +kernel)
@[simp] theorem nb_7_29 : (PySem.Str.ofString "g" == PySem.Str.ofString "design") = false := by decide +kernel
@[simp] theorem ne_7_30 : (PySem.Str.ofString "g" = PySem.Str.ofString "") = False := eq_false (by decide +kernel)
@[simp] theorem nb_7_30 : (PySem.Str.ofString "g" == PySem.Str.ofString "") = false := by decide +kernel
@[simp] theorem ne_7_31 : (PySem.Str.ofString "g" = PySem.Str.ofString "xx") = False := eq_false (by decide +kernel)
@[simp] theorem nb_7_31 : (PySem.Str.ofString "g" == PySem.Str.ofString "xx") = false := by decide +kernel
@[simp] theorem ok_8 : PyData.strOk (PySem.Str.ofString "f") = true := by decide +kernel
@[simp] theorem len_8 : (PySem.Str.ofString "f").length = 1 := by decide +kernel
@[simp] theorem ne_8_0 : (PySem.Str.ofString "f" = PySem.Str.ofString "read") = False := eq_false (by decide +kernel)
@[simp] theorem nb_8_0 : (PySem.Str.ofString "f" == PySem.Str.ofString "read") = false := by decide +kernel
@[simp] theorem ne_8_1 : (PySem.Str.ofString "f" = PySem.Str.ofString "write") = False := eq_false (by decide +kernel)
@[simp] theorem nb_8_1 : (PySem.Str.ofString "f" == PySem.Str.ofString "write") = false := by decide +kernel
@[simp] theorem ne_8_2 : (PySem.Str.ofString "f" = PySem.Str.ofString "copy") = False := eq_false (by decide +kernel)
@[simp] theorem nb_8_2 : (PySem.Str.ofString "f" == PySem.Str.ofString "copy") = false := by decide +kernel
@[simp] theorem ne_8_3 : (PySem.Str.ofString "f" = PySem.Str.ofString "fence") = False := eq_false (by decide +kernel)
@[simp] theorem nb_8_3 : (PySem.Str.ofString "f" == PySem.Str.ofString "fence") = false := by decide +kernel
@[simp] theorem ne_8_4 : (PySem.Str.ofString "f" = PySem.Str.ofString "guard") = False := eq_false (by decide +kernel)
@[simp] theorem nb_8_4 : (PySem.Str.ofString "f" == PySem.Str.ofString "guard") = false := by decide +kernel
@[simp] theorem ne_8_5 : (PySem.Str.ofString "f" = PySem.Str.ofString "r") = False := eq_false (by decide +kernel)
@[simp] theorem nb_8_5 : (PySem.Str.ofString "f" == PySem.Str.ofString "r") = false := by decide +kernel
@[simp] theorem ne_8_6 : (PySem.Str.ofString "f" = PySem.Str.ofString "w") = False := eq_false (by decide +kernel)
@[simp] theorem nb_8_6 : (PySem.Str.ofString "f" == PySem.Str.ofString "w") = false := by decide +kernel
@[simp] theorem ne_8_7 : (PySem.Str.ofString "f" = PySem.Str.ofString "g") = False := eq_false (by decide +kernel)
@[simp] theorem nb_8_7 : (PySem.Str.ofString "f" == PySem.Str.ofString "g") = false := by decide +kernel
@[simp] theorem ne_8_9 : (PySem.Str.ofString "f" = PySem.Str.ofString "rr") = False := eq_false (by decide +kernel)
@[simp] theorem nb_8_9 : (PySem.Str.ofString "f" == PySem.Str.ofString "rr") = false := by decide +kernel
@[simp] theorem ne_8_10 : (PySem.Str.ofString "f" = PySem.Str.ofString "rw") = False := eq_false (by decide +kernel)
@[simp] theorem nb_8_10 : (PySem.Str.ofString "f" == PySem.Str.ofString "rw") = false := by decide +kernel
@[simp] theorem ne_8_11 : (PySem.Str.ofString "f" = PySem.Str.ofString "rg") = False := eq_false (by decide +kernel)
@[simp] theorem nb_8_11 : (PySem.Str.ofString "f" == PySem.Str.ofString "rg") = false := by decide +kernel
@[simp] theorem ne_8_12 : (PySem.Str.ofString "f" = PySem.Str.ofString "rf") = False := eq_false (by decide +kernel)
@[simp] theorem nb_8_12 : (PySem.Str.ofString "f" == PySem.Str.ofString "rf") = false := by decide +kernel
@[simp] theorem ne_8_13 : (PySem.Str.ofString "f" = PySem.Str.ofString "wr") = False := eq_false (by decide +kernel)
@[simp] theorem nb_8_13 : (PySem.Str.ofString "f" == PySem.Str.ofString "wr") = false := by decide +kernel
@[simp] theorem ne_8_14 : (PySem.Str.ofString "f" = PySem.Str.ofString "ww") = False := eq_false (by decide +kernel)
@[simp] theorem nb_8_14 : (PySem.Str.ofString "f" == PySem.Str.ofString "ww") = false := by decide +kernel
@[simp] theorem ne_8_15 : (PySem.Str.ofString "f" = PySem.Str.ofString "wg") = False := eq_false (by decide +kernel)
@[simp] theorem nb_8_15 : (PySem.Str.ofString "f" == PySem.Str.ofString "wg") = false := by decide +kernel
@[simp] theorem ne_8_16 : (PySem.Str.ofString "f" = PySem.Str.ofString "wf") = False := eq_false (by decide +kernel)
@[simp] theorem nb_8_16 : (PySem.Str.ofString "f" == PySem.Str.ofString "wf") = false := by decide +kernel
@[simp] theorem ne_8_17 : (PySem.Str.ofString "f" = PySem.Str.ofString "gr") = False := eq_false (by decide +kernel)
@[simp] theorem nb_8_17 : (PySem.Str.ofString "f" == PySem.Str.ofString "gr") = false := by decide +kernel
@[simp] theorem ne_8_18 : (PySem.Str.ofString "f" = PySem.Str.ofString "gw") = False := eq_false (by decide +kernel)
@[simp] theorem nb_8_18 : (PySem.Str.ofString "f" == PySem.Str.ofString "gw") = false := by decide +kernel
@[simp] theorem ne_8_19 : (PySem.Str.ofString "f" = PySem.Str.ofString "gg") = False := eq_false (by decide +kernel)
@[simp] theorem nb_8_19 : (PySem.Str.ofString "f" == PySem.Str.ofString "gg") = false := by decide +kernel
@[simp] theorem ne_8_20 : (PySem.Str.ofString "f" = PySem.Str.ofString "gf") = False := eq_false (by decide +kernel)
@[simp] theorem nb_8_20 : (PySem.Str.ofString "f" == PySem.Str.ofString "gf") = false := by decide +kernel
@[simp] theorem ne_8_21 : (PySem.Str.ofString "f" = PySem.Str.ofString "fr") = False := eq_false (by decide +kernel)
@[simp] theorem nb_8_21 : (PySem.Str.ofString "f" == PySem.Str.ofString "fr") = false := by decide +kernel
@[simp] theorem ne_8_22 : (PySem.Str.ofString "f" = PySem.Str.ofString "fw") = False := eq_false (by decide +kernel)
@[simp] theorem nb_8_22 : (PySem.Str.ofString "f" == PySem.Str.ofString "fw") = false := by decide +kernel
@[simp] theorem ne_8_23 : (PySem.Str.ofString "f" = PySem.Str.ofString "fg") = False := eq_false (by decide +kernel)
@[simp] theorem nb_8_23 : (PySem.Str.ofString "f" == PySem.Str.ofString "fg") = false := by decide +kernel
@[simp] theorem ne_8_24 : (PySem.Str.ofString "f" = PySem.Str.ofString "ff") = False := eq_false (by decide +kernel)
@[simp] theorem nb_8_24 : (PySem.Str.ofString "f" == PySem.Str.ofString "ff") = false := by decide +kernel
@[simp] theorem ne_8_25 : (PySem.Str.ofString "f" = PySem.Str.ofString "own") = False := eq_false (by decide +kernel)
@[simp] theorem nb_8_25 : (PySem.Str.ofString "f" == PySem.Str.ofString "own") = false := by decide +kernel
@[simp] theorem ne_8_26 : (PySem.Str.ofString "f" = PySem.Str.ofString "ss") = False := eq_false (by decide +kernel)
@[simp] theorem nb_8_26 : (PySem.Str.ofString "f" == PySem.Str.ofString "ss") = false := by decide +kernel
@[simp] theorem ne_8_27 : (PySem.Str.ofString "f" = PySem.Str.ofString "core") = False := eq_false (by decide +kernel)
@[simp] theorem nb_8_27 : (PySem.Str.ofString "f" == PySem.Str.ofString "core") = false := by decide +kernel
@[simp] theorem ne_8_28 : (PySem.Str.ofString "f" = PySem.Str.ofString "place") = False := eq_false (by decide +kernel)
@[simp] theorem nb_8_28 : (PySem.Str.ofString "f" == PySem.Str.ofString "place") = false := by decide +kernel
@[simp] theorem ne_8_29 : (PySem.Str.ofString "f" = PySem.Str.ofString "design") = False := eq_false (by decide +kernel)
@[simp] theorem nb_8_29 : (PySem.Str.ofString "f" == PySem.Str.ofString "design") = false := by decide +kernel
@[simp] theorem ne_8_30 : (PySem.Str.ofString "f" = PySem.Str.ofString "") = False := eq_false (by decide +kernel)
@[simp] theorem nb_8_30 : (PySem.Str.ofString "f" == PySem.Str.ofString "") = false := by decide +kernel
@[simp] theorem ne_8_31 : (PySem.Str.ofString "f" = PySem.Str.ofString "xx") = False := eq_false (by decide +kernel)
@[simp] theorem nb_8_31 : (PySem.Str.ofString "f" == PySem.Str.ofString "xx") = false := by decide +kernel
@[simp] theorem ok_9 : PyData.strOk (PySem.Str.ofString "rr") = true := by decide +kernel
@[simp] theorem len_9 : (PySem.Str.ofString "rr").length = 2 := by decide +kernel
@[simp] theorem ne_9_0 : (PySem.Str.ofString "rr" = PySem.Str.ofString "read") = False := eq_false (by decide +kernel)
@[simp] theorem nb_9_0 : (PySem.Str.ofString "rr" == PySem.Str.ofString "read") = false := by decide +kernel
@[simp] theorem ne_9_1 : (PySem.Str.ofString "rr" = PySem.Str.ofString "write") = False := eq_false (by decide +kernel)
@[simp] theorem nb_9_1 : (PySem.Str.ofString "rr" == PySem.Str.ofString "write") = false := by decide +kernel
@[simp] theorem ne_9_2 : (PySem.Str.ofString "rr" = PySem.Str.ofString "copy") = False := eq_false (by decide +kernel)
@[simp] theorem nb_9_2 : (PySem.Str.ofString "rr" == PySem.Str.ofString "copy") = false := by decide +kernel
@[simp] theorem ne_9_3 : (PySem.Str.ofString "rr" = PySem.Str.ofString "fence") = False := eq_false (by decide +kernel)
@[simp] theorem nb_9_3 : (PySem.Str.ofString "rr" == PySem.Str.ofString "fence") = false := by decide +kernel
@[simp] theorem ne_9_4 : (PySem.Str.ofString "rr" = PySem.Str.ofString "guard") = False := eq_false (by decide +kernel)
@[simp] theorem nb_9_4 : (PySem.Str.ofString "rr" == PySem.Str.ofString "guard") = false := by decide +kernel
@[simp] theorem ne_9_5 : (PySem.Str.ofString "rr" = PySem.Str.ofString "r") = False := eq_false (by decide +kernel)
@[simp] theorem nb_9_5 : (PySem.Str.ofString "rr" == PySem.Str.ofString "r") = false := by decide +kernel
@[simp] theorem ne_9_6 : (PySem.Str.ofString "rr" = PySem.Str.ofString "w") = False := eq_false (by decide +kernel)
@[simp] theorem nb_9_6 : (PySem.Str.ofString "rr" == PySem.Str.ofString "w") = false := by decide +kernel
@[simp] theorem ne_9_7 : (PySem.Str.ofString "rr" = PySem.Str.ofString "g") = False := eq_false (by decide +kernel)
@[simp] theorem nb_9_7 : (PySem.Str.ofString "rr" == PySem.Str.ofString "g") = false := by decide +kernel
@[simp] theorem ne_9_8 : (PySem.Str.ofString "rr" = PySem.Str.ofString "f") = False := eq_false (by decide +kernel)
@[simp] theorem nb_9_8 : (PySem.Str.ofString "rr" == PySem.Str.ofString "f") = false := by decide +kernel
@[simp] theorem ne_9_10 : (PySem.Str.ofString "rr" = PySem.Str.ofString "rw") = False := eq_false (by decide +kernel)
@[simp] theorem nb_9_10 : (PySem.Str.ofString "rr" == PySem.Str.ofString "rw") = false := by decide +kernel
@[simp] theorem ne_9_11 : (PySem.Str.ofString "rr" = PySem.Str.ofString "rg") = False := eq_false (by decide +kernel)
@[simp] theorem nb_9_11 : (PySem.Str.ofString "rr" == PySem.Str.ofString "rg") = false := by decide +kernel
@[simp] theorem ne_9_12 : (PySem.Str.ofString "rr" = PySem.Str.ofString "rf") = False := eq_false (by decide +kernel)
@[simp] theorem nb_9_12 : (PySem.Str.ofString "rr" == PySem.Str.ofString "rf") = false := by decide +kernel
@[simp] theorem ne_9_13 : (PySem.Str.ofString "rr" = PySem.Str.ofString "wr") = False := eq_false (by decide +kernel)
@[simp] theorem nb_9_13 : (PySem.Str.ofString "rr" == PySem.Str.ofString "wr") = false := by decide +kernel
@[simp] theorem ne_9_14 : (PySem.Str.ofString "rr" = PySem.Str.ofString "ww") = False := eq_false (by decide +kernel)
@[simp] theorem nb_9_14 : (PySem.Str.ofString "rr" == PySem.Str.ofString "ww") = false := by decide +kernel
@[simp] theorem ne_9_15 : (PySem.Str.ofString "rr" = PySem.Str.ofString "wg") = False := eq_false (by decide +kernel)
@[simp] theorem nb_9_15 : (PySem.Str.ofString "rr" == PySem.Str.ofString "wg") = false := by decide +kernel
@[simp] theorem ne_9_16 : (PySem.Str.ofString "rr" = PySem.Str.ofString "wf") = False := eq_false (by decide +kernel)
@[simp] theorem nb_9_16 : (PySem.Str.ofString "rr" == PySem.Str.ofString "wf") = false := by decide +kernel
@[simp] theorem ne_9_17 : (PySem.Str.ofString "rr" = PySem.Str.ofString "gr") = False := eq_false (by decide +kernel)
@[simp] theorem nb_9_17 : (PySem.Str.ofString "rr" == PySem.Str.ofString "gr") = false := by decide +kernel
@[simp] theorem ne_9_18 : (PySem.Str.ofString "rr" = PySem.Str.ofString "gw") = False := eq_false (by decide +kernel)
@[simp] theorem nb_9_18 : (PySem.Str.ofString "rr" == PySem.Str.ofString "gw") = false := by decide +kernel
@[simp] theorem ne_9_19 : (PySem.Str.ofString "rr" = PySem.Str.ofString "gg") = False := eq_false (by decide +kernel)
@[simp] theorem nb_9_19 : (PySem.Str.ofString "rr" == PySem.Str.ofString "gg") = false := by decide +kernel
@[simp] theorem ne_9_20 : (PySem.Str.ofString "rr" = PySem.Str.ofString "gf") = False := eq_false (by decide +kernel)
@[simp] theorem nb_9_20 : (PySem.Str.ofString "rr" == PySem.Str.ofString "gf") = false := by decide +kernel
@[simp] theorem ne_9_21 : (PySem.Str.ofString "rr" = PySem.Str.ofString "fr") = False := eq_false (by decide +kernel)
@[simp] theorem nb_9_21 : (PySem.Str.ofString "rr" == PySem.Str.ofString "fr") = false := by decide +kernel
@[simp] theorem ne_9_22 : (PySem.Str.ofString "rr" = PySem.Str.ofString "fw") = False := eq_false (by decide +kernel)
@[simp] theorem nb_9_22 : (PySem.Str.ofString "rr" == PySem.Str.ofString "fw") = false := by decide +kernel
@[simp] theorem ne_9_23 : (PySem.Str.ofString "rr" = PySem.Str.ofString "fg") = False := eq_false (by decide +kernel)
@[simp] theorem nb_9_23 : (PySem.Str.ofString "rr" == PySem.Str.ofString "fg") = false := by decide +kernel
@[simp] theorem ne_9_24 : (PySem.Str.ofString "rr" = PySem.Str.ofString "ff") = False := eq_false (by decide +kernel)
@[simp] theorem nb_9_24 : (PySem.Str.ofString "rr" == PySem.Str.ofString "ff") = false := by decide +kernel
@[simp] theorem ne_9_25 : (PySem.Str.ofString "rr" = PySem.Str.ofString "own") = False := eq_false (by decide +kernel)
@[simp] theorem nb_9_25 : (PySem.Str.ofString "rr" == PySem.Str.ofString "own") = false := by decide +kernel
@[simp] theorem ne_9_26 : (PySem.Str.ofString "rr" = PySem.Str.ofString "ss") = False := eq_false (by decide +kernel)
@[simp] theorem nb_9_26 : (PySem.Str.ofString "rr" == PySem.Str.ofString "ss") = false := by decide +kernel
@[simp] theorem ne_9_27 : (PySem.Str.ofString "rr" = PySem.Str.ofString "core") = False := eq_false (by decide +kernel)
@[simp] theorem nb_9_27 : (PySem.Str.ofString "rr" == PySem.Str.ofString "core") = false := by decide +kernel
@[simp] theorem ne_9_28 : (PySem.Str.ofString "rr" = PySem.Str.ofString "place") = False := eq_false (by decide +kernel)
@[simp] theorem nb_9_28 : (PySem.Str.ofString "rr" == PySem.Str.ofString "place") = false := by decide +kernel
@[simp] theorem ne_9_29 : (PySem.Str.ofString "rr" = PySem.Str.ofString "design") = False := eq_false (by decide +kernel)
@[simp] theorem nb_9_29 : (PySem.Str.ofString "rr" == PySem.Str.ofString "design") = false := by decide +kernel
@[simp] theorem ne_9_30 : (PySem.Str.ofString "rr" = PySem.Str.ofString "") = False := eq_false (by decide +kernel)
@[simp] theorem nb_9_30 : (PySem.Str.ofString "rr" == PySem.Str.ofString "") = false := by decide +kernel
@[simp] theorem ne_9_31 : (PySem.Str.ofString "rr" = PySem.Str.ofString "xx") = False := eq_false (by decide +kernel)
@[simp] theorem nb_9_31 : (PySem.Str.ofString "rr" == PySem.Str.ofString "xx") = false := by decide +kernel
@[simp] theorem ok_10 : PyData.strOk (PySem.Str.ofString "rw") = true := by decide +kernel
@[simp] theorem len_10 : (PySem.Str.ofString "rw").length = 2 := by decide +kernel
@[simp] theorem ne_10_0 : (PySem.Str.ofString "rw" = PySem.Str.ofString "read") = False := eq_false (by decide +kernel)
@[simp] theorem nb_10_0 : (PySem.Str.ofString "rw" == PySem.Str.ofString "read") = false := by decide +kernel
@[simp] theorem ne_10_1 : (PySem.Str.ofString "rw" = PySem.Str.ofString "write") = False := eq_false (by decide +kernel)
@[simp] theorem nb_10_1 : (PySem.Str.ofString "rw" == PySem.Str.ofString "write") = false := by decide +kernel
@[simp] theorem ne_10_2 : (PySem.Str.ofString "rw" = PySem.Str.ofString "copy") = False := eq_false (by decide +kernel)
@[simp] theorem nb_10_2 : (PySem.Str.ofString "rw" == PySem.Str.ofString "copy") = false := by decide +kernel
@[simp] theorem ne_10_3 : (PySem.Str.ofString "rw" = PySem.Str.ofString "fence") = False := eq_false (by decide +kernel)
@[simp] theorem nb_10_3 : (PySem.Str.ofString "rw" == PySem.Str.ofString "fence") = false := by decide +kernel
@[simp] theorem ne_10_4 : (PySem.Str.ofString "rw" = PySem.Str.ofString "guard") = False := eq_false (by decide +kernel)
@[simp] theorem nb_10_4 : (PySem.Str.ofString "rw" == PySem.Str.ofString "guard") = false := by decide +kernel
@[simp] theorem ne_10_5 : (PySem.Str.ofString "rw" = PySem.Str.ofString "r") = False := eq_false (by decide +kernel)
@[simp] theorem nb_10_5 : (PySem.Str.ofString "rw" == PySem.Str.ofString "r") = false := by decide +kernel
@[simp] theorem ne_10_6 : (PySem.Str.ofString "rw" = PySem.Str.ofString "w") = False := eq_false (by decide +kernel)
@[simp] theorem nb_10_6 : (PySem.Str.ofString "rw" == PySem.Str.ofString "w") = false := by decide +kernel
@[simp] theorem ne_10_7 : (PySem.Str.ofString "rw" = PySem.Str.ofString "g") = False := eq_false (by decide +kernel)
@[simp] theorem nb_10_7 : (PySem.Str.ofString "rw" == PySem.Str.ofString "g") = false := by decide +kernel
@[simp] theorem ne_10_8 : (PySem.Str.ofString "rw" = PySem.Str.ofString "f") = False := eq_false (by decide +kernel)
@[simp] theorem nb_10_8 : (PySem.Str.ofString "rw" == PySem.Str.ofString "f") = false := by decide +kernel
@[simp] theorem ne_10_9 : (PySem.Str.ofString "rw" = PySem.Str.ofString "rr") = False := eq_false (by decide +kernel)
@[simp] theorem nb_10_9 : (PySem.Str.ofString "rw" == PySem.Str.ofString "rr") = false := by decide +kernel
@[simp] theorem ne_10_11 : (PySem.Str.ofString "rw" = PySem.Str.ofString "rg") = False := eq_false (by decide +kernel)
@[simp] theorem nb_10_11 : (PySem.Str.ofString "rw" == PySem.Str.ofString "rg") = false := by decide +kernel
@[simp] theorem ne_10_12 : (PySem.Str.ofString "rw" = PySem.Str.ofString "rf") = False := eq_false (by decide +kernel)
@[simp] theorem nb_10_12 : (PySem.Str.ofString "rw" == PySem.Str.ofString "rf") = false := by decide +kernel
@[simp] theorem ne_10_13 : (PySem.Str.ofString "rw" = PySem.Str.ofString "wr") = False := eq_false (by decide +kernel)
@[simp] theorem nb_10_13 : (PySem.Str.ofString "rw" == PySem.Str.ofString "wr") = false := by decide +kernel
@[simp] theorem ne_10_14 : (PySem.Str.ofString "rw" = PySem.Str.ofString "ww") = False := eq_false (by decide +kernel)
@[simp] theorem nb_10_14 : (PySem.Str.ofString "rw" == PySem.Str.ofString "ww") = false := by decide +kernel
@[simp] theorem ne_10_15 : (PySem.Str.ofString "rw" = PySem.Str.ofString "wg") = False := eq_false (by decide +kernel)
@[simp] theorem nb_10_15 : (PySem.Str.ofString "rw" == PySem.Str.ofString "wg") = false := by decide +kernel
@[simp] theorem ne_10_16 : (PySem.Str.ofString "rw" = PySem.Str.ofString "wf") = False := eq_false (by decide +kernel)
@[simp] theorem nb_10_16 : (PySem.Str.ofString "rw" == PySem.Str.ofString "wf") = false := by decide +kernel
@[simp] theorem ne_10_17 : (PySem.Str.ofString "rw" = PySem.Str.ofString "gr") = False := eq_false (by decide +kernel)
@[simp] theorem nb_10_17 : (PySem.Str.ofString "rw" == PySem.Str.ofString "gr") = false := by decide +kernel
@[simp] theorem ne_10_18 : (PySem.Str.ofString "rw" = PySem.Str.ofString "gw") = False := eq_false (by decide +kernel)
@[simp] theorem nb_10_18 : (PySem.Str.ofString "rw" == PySem.Str.ofString "gw") = false := by decide +kernel
@[simp] theorem ne_10_19 : (PySem.Str.ofString "rw" = PySem.Str.ofString "gg") = False := eq_false (by decide +kernel)
@[simp] theorem nb_10_19 : (PySem.Str.ofString "rw" == PySem.Str.ofString "gg") = false := by decide +kernel
@[simp] theorem ne_10_20 : (PySem.Str.ofString "rw" = PySem.Str.ofString "gf") = False := eq_false (by decide +kernel)
@[simp] theorem nb_10_20 : (PySem.Str.ofString "rw" == PySem.Str.ofString "gf") = false := by decide +kernel
@[simp] theorem ne_10_21 : (PySem.Str.ofString "rw" = PySem.Str.ofString "fr") = False := eq_false (by decide +kernel)
@[simp] theorem nb_10_21 : (PySem.Str.ofString "rw" == PySem.Str.ofString "fr") = false := by decide +kernel
@[simp] theorem ne_10_22 : (PySem.Str.ofString "rw" = PySem.Str.ofString "fw") = False := eq_false (by decide +kernel)
@[simp] theorem nb_10_22 : (PySem.Str.ofString "rw" == PySem.Str.ofString "fw") = false := by decide +kernel
@[simp] theorem ne_10_23 : (PySem.Str.ofString "rw" = PySem.Str.ofString "fg") = False := eq_false (by decide +kernel)
@[simp] theorem nb_10_23 : (PySem.Str.ofString "rw" == PySem.Str.ofString "fg") = false := by decide +kernel
@[simp] theorem ne_10_24 : (PySem.Str.ofString "rw" = PySem.Str.ofString "ff") = False := eq_false (by decide +kernel)
@[simp] theorem nb_10_24 : (PySem.Str.ofString "rw" == PySem.Str.ofString "ff") = false := by decide +kernel
@[simp] theorem ne_10_25 : (PySem.Str.ofString "rw" = PySem.Str.ofString "own") = False := eq_false (by decide +kernel)
@[simp] theorem nb_10_25 : (PySem.Str.ofString "rw" == PySem.Str.ofString "own") = false := by decide +kernel
@[simp] theorem ne_10_26 : (PySem.Str.ofString "rw" = PySem.Str.ofString "ss") = False := eq_false (by decide +kernel)
@[simp] theorem nb_10_26 : (PySem.Str.ofString "rw" == PySem.Str.ofString "ss") = false := by decide +kernel
@[simp] theorem ne_10_27 : (PySem.Str.ofString "rw" = PySem.Str.ofString "core") = False := eq_false (by decide +kernel)
@[simp] theorem nb_10_27 : (PySem.Str.ofString "rw" == PySem.Str.ofString "core") = false := by decide +kernel
@[simp] theorem ne_10_28 : (PySem.Str.ofString "rw" = PySem.Str.ofString "place") = False := eq_false (by decide +kernel)
@[simp] theorem nb_10_28 : (PySem.Str.ofString "rw" == PySem.Str.ofString "place") = false := by decide +kernel
@[simp] theorem ne_10_29 : (PySem.Str.ofString "rw" = PySem.Str.ofString "design") = False := eq_false (by decide +kernel)
@[simp] theorem nb_10_29 : (PySem.Str.ofString "rw" == PySem.Str.ofString "design") = false := by decide +kernel
@[simp] theorem ne_10_30 : (PySem.Str.ofString "rw" = PySem.Str.ofString "") = False := eq_false (by decide +kernel)
@[simp] theorem nb_10_30 : (PySem.Str.ofString "rw" == PySem.Str.ofString "") = false := by decide +kernel
@[simp] theorem ne_10_31 : (PySem.Str.ofString "rw" = PySem.Str.ofString "xx") = False := eq_false (by decide +kernel)
@[simp] theorem nb_10_31 : (PySem.Str.ofString "rw" == PySem.Str.ofString "xx") = false := by decide +kernel
@[simp] theorem ok_11 : PyData.strOk (PySem.Str.ofString "rg") = true := by decide +kernel
@[simp] theorem len_11 : (PySem.Str.ofString "rg").length = 2 := by decide +kernel
@[simp] theorem ne_11_0 : (PySem.Str.ofString "rg" = PySem.Str.ofString "read") = False := eq_false (by decide +kernel)
@[simp] theorem nb_11_0 : (PySem.Str.ofString "rg" == PySem.Str.ofString "read") = false := by decide +kernel
@[simp] theorem ne_11_1 : (PySem.Str.ofString "rg" = PySem.Str.ofString "write") = False := eq_false (by decide +kernel)
@[simp] theorem nb_11_1 : (PySem.Str.ofString "rg" == PySem.Str.ofString "write") = false := by decide +kernel
@[simp] theorem ne_11_2 : (PySem.Str.ofString "rg" = PySem.Str.ofString "copy") = False := eq_false (by decide +kernel)
@[simp] theorem nb_11_2 : (PySem.Str.ofString "rg" == PySem.Str.ofString "copy") = false := by decide +kernel
@[simp] theorem ne_11_3 : (PySem.Str.ofString "rg" = PySem.Str.ofString "fence") = False := eq_false (by decide +kernel)
@[simp] theorem nb_11_3 : (PySem.Str.ofString "rg" == PySem.Str.ofString "fence") = false := by decide +kernel
@[simp] theorem ne_11_4 : (PySem.Str.ofString "rg" = PySem.Str.ofString "guard") = False := eq_false (by decide +kernel)
@[simp] theorem nb_11_4 : (PySem.Str.ofString "rg" == PySem.Str.ofString "guard") = false := by decide +kernel
@[simp] theorem ne_11_5 : (PySem.Str.ofString "rg" = PySem.Str.ofString "r") = False := eq_false (by decide +kernel)
@[simp] theorem nb_11_5 : (PySem.Str.ofString "rg" == PySem.Str.ofString "r") = false := by decide +kernel
@[simp] theorem ne_11_6 : (PySem.Str.ofString "rg" = PySem.Str.ofString "w") = False := eq_false (by decide +kernel)
@[simp] theorem nb_11_6 : (PySem.Str.ofString "rg" == PySem.Str.ofString "w") = false := by decide +kernel
@[simp] theorem ne_11_7 : (PySem.Str.ofString "rg" = PySem.Str.ofString "g") = False := eq_false (by decide +kernel)
@[simp] theorem nb_11_7 : (PySem.Str.ofString "rg" == PySem.Str.ofString "g") = false := by decide +kernel
@[simp] theorem ne_11_8 : (PySem.Str.ofString "rg" = PySem.Str.ofString "f") = False := eq_false (by decide +kernel)
@[simp] theorem nb_11_8 : (PySem.Str.ofString "rg" == PySem.Str.ofString "f") = false := by decide +kernel
@[simp] theorem ne_11_9 : (PySem.Str.ofString "rg" = PySem.Str.ofString "rr") = False := eq_false (by decide +kernel)
@[simp] theorem nb_11_9 : (PySem.Str.ofString "rg" == PySem.Str.ofString "rr") = false := by decide +kernel
@[simp] theorem ne_11_10 : (PySem.Str.ofString "rg" = PySem.Str.ofString "rw") = False := eq_false (by decide +kernel)
@[simp] theorem nb_11_10 : (PySem.Str.ofString "rg" == PySem.Str.ofString "rw") = false := by decide +kernel
@[simp] theorem ne_11_12 : (PySem.Str.ofString "rg" = PySem.Str.ofString "rf") = False := eq_false (by decide +kernel)
@[simp] theorem nb_11_12 : (PySem.Str.ofString "rg" == PySem.Str.ofString "rf") = false := by decide +kernel
@[simp] theorem ne_11_13 : (PySem.Str.ofString "rg" = PySem.Str.ofString "wr") = False := eq_false (by decide +kernel)
@[simp] theorem nb_11_13 : (PySem.Str.ofString "rg" == PySem.Str.ofString "wr") = false := by decide +kernel
@[simp] theorem ne_11_14 : (PySem.Str.ofString "rg" = PySem.Str.ofString "ww") = False := eq_false (by decide +kernel)
@[simp] theorem nb_11_14 : (PySem.Str.ofString "rg" == PySem.Str.ofString "ww") = false := by decide +kernel
@[simp] theorem ne_11_15 : (PySem.Str.ofString "rg" = PySem.Str.ofString "wg") = False := eq_false (by decide +kernel)
@[simp] theorem nb_11_15 : (PySem.Str.ofString "rg" == PySem.Str.ofString "wg") = false := by decide +kernel
@[simp] theorem ne_11_16 : (PySem.Str.ofString "rg" = PySem.Str.ofString "wf") = False := eq_false (by decide +kernel)
@[simp] theorem nb_11_16 : (PySem.Str.ofString "rg" == PySem.Str.ofString "wf") = false := by decide +kernel
@[simp] theorem ne_11_17 : (PySem.Str.ofString "rg" = PySem.Str.ofString "gr") = False := eq_false (by decide +kernel)
@[simp] theorem nb_11_17 : (PySem.Str.ofString "rg" == PySem.Str.ofString "gr") = false := by decide +kernel
@[simp] theorem ne_11_18 : (PySem.Str.ofString "rg" = PySem.Str.ofString "gw") = False := eq_false (by decide +kernel)
@[simp] theorem nb_11_18 : (PySem.Str.ofString "rg" == PySem.Str.ofString "gw") = false := by decide +kernel
@[simp] theorem ne_11_19 : (PySem.Str.ofString "rg" = PySem.Str.ofString "gg") = False := eq_false (by decide +kernel)
@[simp] theorem nb_11_19 : (PySem.Str.ofString "rg" == PySem.Str.ofString "gg") = false := by decide +kernel
@[simp] theorem ne_11_20 : (PySem.Str.ofString "rg" = PySem.Str.ofString "gf") = False := eq_false (by decide +kernel)
@[simp] theorem nb_11_20 : (PySem.Str.ofString "rg" == PySem.Str.ofString "gf") = false := by decide +kernel
@[simp] theorem ne_11_21 : (PySem.Str.ofString "rg" = PySem.Str.ofString "fr") = False := eq_false (by decide +kernel)
@[simp] theorem nb_11_21 : (PySem.Str.ofString "rg" == PySem.Str.ofString "fr") = false := by decide +kernel
@[simp] theorem ne_11_22 : (PySem.Str.ofString "rg" = PySem.Str.ofString "fw") = False := eq_false (by decide +kernel)
@[simp] theorem nb_11_22 : (PySem.Str.ofString "rg" == PySem.Str.ofString "fw") = false := by decide +kernel
@[simp] theorem ne_11_23 : (PySem.Str.ofString "rg" = PySem.Str.ofString "fg") = False := eq_false (by decide +kernel)
@[simp] theorem nb_11_23 : (PySem.Str.ofString "rg" == PySem.Str.ofString "fg") = false := by decide +kernel
@[simp] theorem ne_11_24 : (PySem.Str.ofString "rg" = PySem.Str.ofString "ff") = False := eq_false (by decide +kernel)
@[simp] theorem nb_11_24 : (PySem.Str.ofString "rg" == PySem.Str.ofString "ff") = false := by decide +kernel
@[simp] theorem ne_11_25 : (PySem.Str.ofString "rg" = PySem.Str.ofString "own") = False := eq_false (by decide +kernel)
@[simp] theorem nb_11_25 : (PySem.Str.ofString "rg" == PySem.Str.ofString "own") = false := by decide +kernel
@[simp] theorem ne_11_26 : (PySem.Str.ofString "rg" = PySem.Str.ofString "ss") = False := eq_false (by decide +kernel)
@[simp] theorem nb_11_26 : (PySem.Str.ofString "rg" == PySem.Str.ofString "ss") = false := by decide +kernel
@[simp] theorem ne_11_27 : (PySem.Str.ofString "rg" = PySem.Str.ofString "core") = False := eq_false (by decide +kernel)
@[simp] theorem nb_11_27 : (PySem.Str.ofString "rg" == PySem.Str.ofString "core") = false := by decide +kernel
@[simp] theorem ne_11_28 : (PySem.Str.ofString "rg" = PySem.Str.ofString "place") = False := eq_false (by decide +kernel)
@[simp] theorem nb_11_28 : (PySem.Str.ofString "rg" == PySem.Str.ofString "place") = false := by decide +kernel
@[simp] theorem ne_11_29 : (PySem.Str.ofString "rg" = PySem.Str.ofString "design") = False := eq_false (by decide +kernel)
@[simp] theorem nb_11_29 : (PySem.Str.ofString "rg" == PySem.Str.ofString "design") = false := by decide +kernel
@[simp] theorem ne_11_30 : (PySem.Str.ofString "rg" = PySem.Str.ofString "") = False := eq_false (by decide +kernel)
@[simp] theorem nb_11_30 : (PySem.Str.ofString "rg" == PySem.Str.ofString "") = false := by decide +kernel
@[simp] theorem ne_11_31 : (PySem.Str.ofString "rg" = PySem.Str.ofString "xx") = False := eq_false (by decide +kernel)
@[simp] theorem nb_11_31 : (PySem.Str.ofString "rg" == PySem.Str.ofString "xx") = false := by decide +kernel
@[simp] theorem ok_12 : PyData.strOk (PySem.Str.ofString "rf") = true := by decide +kernel
@[simp] theorem len_12 : (PySem.Str.ofString "rf").length = 2 := by decide +kernel
@[simp] theorem ne_12_0 : (PySem.Str.ofString "rf" = PySem.Str.ofString "read") = False := eq_false (by decide +kernel)
@[simp] theorem nb_12_0 : (PySem.Str.ofString "rf" == PySem.Str.ofString "read") = false := by decide +kernel
@[simp] theorem ne_12_1 : (PySem.Str.ofString "rf" = PySem.Str.ofString "write") = False := eq_false (by decide +kernel)
@[simp] theorem nb_12_1 : (PySem.Str.ofString "rf" == PySem.Str.ofString "write") = false := by decide +kernel
@[simp] theorem ne_12_2 : (PySem.Str.ofString "rf" = PySem.Str.ofString "copy") = False := eq_false (by decide +kernel)
@[simp] theorem nb_12_2 : (PySem.Str.ofString "rf" == PySem.Str.ofString "copy") = false := by decide +kernel
@[simp] theorem ne_12_3 : (PySem.Str.ofString "rf" = PySem.Str.ofString "fence") = False := eq_false (by decide +kernel)
@[simp] theorem nb_12_3 : (PySem.Str.ofString "rf" == PySem.Str.ofString "fence") = false := by decide +kernel
@[simp] theorem ne_12_4 : (PySem.Str.ofString "rf" = PySem.Str.ofString "guard") = False := eq_false (by decide +kernel)
@[simp] theorem nb_12_4 : (PySem.Str.ofString "rf" == PySem.Str.ofString "guard") = false := by decide +kernel
@[simp] theorem ne_12_5 : (PySem.Str.ofString "rf" = PySem.Str.ofString "r") = False := eq_false (by decide +kernel)
@[simp] theorem nb_12_5 : (PySem.Str.ofString "rf" == PySem.Str.ofString "r") = false := by decide +kernel
@[simp] theorem ne_12_6 : (PySem.Str.ofString "rf" = PySem.Str.ofString "w") = False := eq_false (by decide +kernel)
@[simp] theorem nb_12_6 : (PySem.Str.ofString "rf" == PySem.Str.ofString "w") = false := by decide +kernel
@[simp] theorem ne_12_7 : (PySem.Str.ofString "rf" = PySem.Str.ofString "g") = False := eq_false (by decide +kernel)
@[simp] theorem nb_12_7 : (PySem.Str.ofString "rf" == PySem.Str.ofString "g") = false := by decide +kernel
@[simp] theorem ne_12_8 : (PySem.Str.ofString "rf" = PySem.Str.ofString "f") = False := eq_false (by decide +kernel)
@[simp] theorem nb_12_8 : (PySem.Str.ofString "rf" == PySem.Str.ofString "f") = false := by decide +kernel
@[simp] theorem ne_12_9 : (PySem.Str.ofString "rf" = PySem.Str.ofString "rr") = False := eq_false (by decide +kernel)
@[simp] theorem nb_12_9 : (PySem.Str.ofString "rf" == PySem.Str.ofString "rr") = false := by decide +kernel
@[simp] theorem ne_12_10 : (PySem.Str.ofString "rf" = PySem.Str.ofString "rw") = False := eq_false (by decide +kernel)
@[simp] theorem nb_12_10 : (PySem.Str.ofString "rf" == PySem.Str.ofString "rw") = false := by decide +kernel
@[simp] theorem ne_12_11 : (PySem.Str.ofString "rf" = PySem.Str.ofString "rg") = False := eq_false (by decide +kernel)
@[simp] theorem nb_12_11 : (PySem.Str.ofString "rf" == PySem.Str.ofString "rg") = false := by decide +kernel
@[simp] theorem ne_12_13 : (PySem.Str.ofString "rf" = PySem.Str.ofString "wr") = False := eq_false (by decide +kernel)
@[simp] theorem nb_12_13 : (PySem.Str.ofString "rf" == PySem.Str.ofString "wr") = false := by decide +kernel
@[simp] theorem ne_12_14 : (PySem.Str.ofString "rf" = PySem.Str.ofString "ww") = False := eq_false (by decide +kernel)
@[simp] theorem nb_12_14 : (PySem.Str.ofString "rf" == PySem.Str.ofString "ww") = false := by decide +kernel
@[simp] theorem ne_12_15 : (PySem.Str.ofString "rf" = PySem.Str.ofString "wg") = False := eq_false (by decide +kernel)
@[simp] theorem nb_12_15 : (PySem.Str.ofString "rf" == PySem.Str.ofString "wg") = false := by decide +kernel
@[simp] theorem ne_12_16 : (PySem.Str.ofString "rf" = PySem.Str.ofString "wf") = False := eq_false (by decide +kernel)
@[simp] theorem nb_12_16 : (PySem.Str.ofString "rf" == PySem.Str.ofString "wf") = false := by decide +kernel
@[simp] theorem ne_12_17 : (PySem.Str.ofString "rf" = PySem.Str.ofString "gr") = False := eq_false (by decide +kernel)
@[simp] theorem nb_12_17 : (PySem.Str.ofString "rf" == PySem.Str.ofString "gr") = false := by decide +kernel
@[simp] theorem ne_12_18 : (PySem.Str.ofString "rf" = PySem.Str.ofString "gw") = False := eq_false (by decide +kernel)
@[simp] theorem nb_12_18 : (PySem.Str.ofString "rf" == PySem.Str.ofString "gw") = false := by decide +kernel
@[simp] theorem ne_12_19 : (PySem.Str.ofString "rf" = PySem.Str.ofString "gg") = False := eq_false (by decide +kernel)
@[simp] theorem nb_12_19 : (PySem.Str.ofString "rf" == PySem.Str.ofString "gg") = false := by decide +kernel
@[simp] theorem ne_12_20 : (PySem.Str.ofString "rf" = PySem.Str.ofString "gf") = False := eq_false (by decide +kernel)
@[simp] theorem nb_12_20 : (PySem.Str.ofString "rf" == PySem.Str.ofString "gf") = false := by decide +kernel
@[simp] theorem ne_12_21 : (PySem.Str.ofString "rf" = PySem.Str.ofString "fr") = False := eq_false (by decide +kernel)
@[simp] theorem nb_12_21 : (PySem.Str.ofString "rf" == PySem.Str.ofString "fr") = false := by decide +kernel
@[simp] theorem ne_12_22 : (PySem.Str.ofString "rf" = PySem.Str.ofString "fw") = False := eq_false (by decide +kernel)
@[simp] theorem nb_12_22 : (PySem.Str.ofString "rf" == PySem.Str.ofString "fw") = false := by decide +kernel
@[simp] theorem ne_12_23 : (PySem.Str.ofString "rf" = PySem.Str.ofString "fg") = False := eq_false (by decide +kernel)
@[simp] theorem nb_12_23 : (PySem.Str.ofString "rf" == PySem.Str.ofString "fg") = false := by decide +kernel
@[simp] theorem ne_12_24 : (PySem.Str.ofString "rf" = PySem.Str.ofString "ff") = False := eq_false (by decide +kernel)
@[simp] theorem nb_12_24 : (PySem.Str.ofString "rf" == PySem.Str.ofString "ff") = false := by decide +kernel
@[simp] theorem ne_12_25 : (PySem.Str.ofString "rf" = PySem.Str.ofString "own") = False := eq_false (by decide +kernel)
@[simp] theorem nb_12_25 : (PySem.Str.ofString "rf" == PySem.Str.ofString "own") = false := by decide +kernel
@[simp] theorem ne_12_26 : (PySem.Str.ofString "rf" = PySem.Str.ofString "ss") = False := eq_false (by decide +kernel)
@[simp] theorem nb_12_26 : (PySem.Str.ofString "rf" == PySem.Str.ofString "ss") = false := by decide +kernel
@[simp] theorem ne_12_27 : (PySem.Str.ofString "rf" = PySem.Str.ofString "core") = False := eq_false (by decide +kernel)
@[simp] theorem nb_12_27 : (PySem.Str.ofString "rf" == PySem.Str.ofString "core") = false := by decide +kernel
@[simp] theorem ne_12_28 : (PySem.Str.ofString "rf" = PySem.Str.ofString "place") = False := eq_false (by decide +kernel)
@[simp] theorem nb_12_28 : (PySem.Str.ofString "rf" == PySem.Str.ofString "place") = false := by decide +kernel
@[simp] theorem ne_12_29 : (PySem.Str.ofString "rf" = PySem.Str.ofString "design") = False := eq_false (by decide +kernel)
@[simp] theorem nb_12_29 : (PySem.Str.ofString "rf" == PySem.Str.ofString "design") = false := by decide +kernel
@[simp] theorem ne_12_30 : (PySem.Str.ofString "rf" = PySem.Str.ofString "") = False := eq_false (by decide +kernel)
@[simp] theorem nb_12_30 : (PySem.Str.ofString "rf" == PySem.Str.ofString "") = false := by decide +kernel
@[simp] theorem ne_12_31 : (PySem.Str.ofString "rf" = PySem.Str.ofString "xx") = False := eq_false (by decide +kernel)
@[simp] theorem nb_12_31 : (PySem.Str.ofString "rf" == PySem.Str.ofString "xx") = false := by decide +kernel
@[simp] theorem ok_13 : PyData.strOk (PySem.Str.ofString "wr") = true := by decide +kernel
@[simp] theorem len_13 : (PySem.Str.ofString "wr").length = 2 := by decide +kernel
@[simp] theorem ne_13_0 : (PySem.Str.ofString "wr" = PySem.Str.ofString "read") = False := eq_false (by decide +kernel)
@[simp] theorem nb_13_0 : (PySem.Str.ofString "wr" == PySem.Str.ofString "read") = false := by decide +kernel
@[simp] theorem ne_13_1 : (PySem.Str.ofString "wr" = PySem.Str.ofString "write") = False := eq_false (by decide +kernel)
@[simp] theorem nb_13_1 : (PySem.Str.ofString "wr" == PySem.Str.ofString "write") = false := by decide +kernel
@[simp] theorem ne_13_2 : (PySem.Str.ofString "wr" = PySem.Str.ofString "copy") = False := eq_false (by decide +kernel)
@[simp] theorem nb_13_2 : (PySem.Str.ofString "wr" == PySem.Str.ofString "copy") = false := by decide +kernel
@[simp] theorem ne_13_3 : (PySem.Str.ofString "wr" = PySem.Str.ofString "fence") = False := eq_false (by decide +kernel)
@[simp] theorem nb_13_3 : (PySem.Str.ofString "wr" == PySem.Str.ofString "fence") = false := by decide +kernel
@[simp] theorem ne_13_4 : (PySem.Str.ofString "wr" = PySem.Str.ofString "guard") = False := eq_false (by decide +kernel)
@[simp] theorem nb_13_4 : (PySem.Str.ofString "wr" == PySem.Str.ofString "guard") = false := by decide +kernel
@[simp] theorem ne_13_5 : (PySem.Str.ofString "wr" = PySem.Str.ofString "r") = False := eq_false (by decide +kernel)
@[simp] theorem nb_13_5 : (PySem.Str.ofString "wr" == PySem.Str.ofString "r") = false := by decide +kernel
@[simp] theorem ne_13_6 : (PySem.Str.ofString "wr" = PySem.Str.ofString "w") = False := eq_false (by decide +kernel)
@[simp] theorem nb_13_6 : (PySem.Str.ofString "wr" == PySem.Str.ofString "w") = false := by decide +kernel
@[simp] theorem ne_13_7 : (PySem.Str.ofString "wr" = PySem.Str.ofString "g") = False := eq_false (by decide +kernel)
@[simp] theorem nb_13_7 : (PySem.Str.ofString "wr" == PySem.Str.ofString "g") = false := by decide +kernel
@[simp] theorem ne_13_8 : (PySem.Str.ofString "wr" = PySem.Str.ofString "f") = False := eq_false (by decide +kernel)
@[simp] theorem nb_13_8 : (PySem.Str.ofString "wr" == PySem.Str.ofString "f") = false := by decide +kernel
@[simp] theorem ne_13_9 : (PySem.Str.ofString "wr" = PySem.Str.ofString "rr") = False := eq_false (by decide +kernel)
@[simp] theorem nb_13_9 : (PySem.Str.ofString "wr" == PySem.Str.ofString "rr") = false := by decide +kernel
@[simp] theorem ne_13_10 : (PySem.Str.ofString "wr" = PySem.Str.ofString "rw") = False := eq_false (by decide +kernel)
@[simp] theorem nb_13_10 : (PySem.Str.ofString "wr" == PySem.Str.ofString "rw") = false := by decide +kernel
@[simp] theorem ne_13_11 : (PySem.Str.ofString "wr" = PySem.Str.ofString "rg") = False := eq_false (by decide +kernel)
@[simp] theorem nb_13_11 : (PySem.Str.ofString "wr" == PySem.Str.ofString "rg") = false := by decide +kernel
@[simp] theorem ne_13_12 : (PySem.Str.ofString "wr" = PySem.Str.ofString "rf") = False := eq_false (by decide +kernel)
@[simp] theorem nb_13_12 : (PySem.Str.ofString "wr" == PySem.Str.ofString "rf") = false := by decide +kernel
@[simp] theorem ne_13_14 : (PySem.Str.ofString "wr" = PySem.Str.ofString "ww") = False := eq_false (by decide +kernel)
@[simp] theorem nb_13_14 : (PySem.Str.ofString "wr" == PySem.Str.ofString "ww") = false := by decide +kernel
@[simp] theorem ne_13_15 : (PySem.Str.ofString "wr" = PySem.Str.ofString "wg") = False := eq_false (by decide +kernel)
@[simp] theorem nb_13_15 : (PySem.Str.ofString "wr" == PySem.Str.ofString "wg") = false := by decide +kernel
@[simp] theorem ne_13_16 : (PySem.Str.ofString "wr" = PySem.Str.ofString "wf") = False := eq_false (by decide +kernel)
@[simp] theorem nb_13_16 : (PySem.Str.ofString "wr" == PySem.Str.ofString "wf") = false := by decide +kernel
@[simp] theorem ne_13_17 : (PySem.Str.ofString "wr" = PySem.Str.ofString "gr") = False := eq_false (by decide +kernel)
@[simp] theorem nb_13_17 : (PySem.Str.ofString "wr" == PySem.Str.ofString "gr") = false := by decide +kernel
@[simp] theorem ne_13_18 : (PySem.Str.ofString "wr" = PySem.Str.ofString "gw") = False := eq_false (by decide +kernel)
@[simp] theorem nb_13_18 : (PySem.Str.ofString "wr" == PySem.Str.ofString "gw") = false := by decide +kernel
@[simp] theorem ne_13_19 : (PySem.Str.ofString "wr" = PySem.Str.ofString "gg") = False := eq_false (by decide +kernel)
@[simp] theorem nb_13_19 : (PySem.Str.ofString "wr" == PySem.Str.ofString "gg") = false := by decide +kernel
@[simp] theorem ne_13_20 : (PySem.Str.ofString "wr" = PySem.Str.ofString "gf") = False := eq_false (by decide +kernel)
@[simp] theorem nb_13_20 : (PySem.Str.ofString "wr" == PySem.Str.ofString "gf") = false := by decide +kernel
@[simp] theorem ne_13_21 : (PySem.Str.ofString "wr" = PySem.Str.ofString "fr") = False := eq_false (by decide +kernel)
@[simp] theorem nb_13_21 : (PySem.Str.ofString "wr" == PySem.Str.ofString "fr") = false := by decide +kernel
@[simp] theorem ne_13_22 : (PySem.Str.ofString "wr" = PySem.Str.ofString "fw") = False := eq_false (by decide +kernel)
@[simp] theorem nb_13_22 : (PySem.Str.ofString "wr" == PySem.Str.ofString "fw") = false := by decide +kernel
@[simp] theorem ne_13_23 : (PySem.Str.ofString "wr" = PySem.Str.ofString "fg") = False := eq_false (by decide +kernel)
@[simp] theorem nb_13_23 : (PySem.Str.ofString "wr" == PySem.Str.ofString "fg") = false := by decide +kernel
@[simp] theorem ne_13_24 : (PySem.Str.ofString "wr" = PySem.Str.ofString "ff") = False := eq_false (by decide +kernel)
@[simp] theorem nb_13_24 : (PySem.Str.ofString "wr" == PySem.Str.ofString "ff") = false := by decide +kernel
@[simp] theorem ne_13_25 : (PySem.Str.ofString "wr" = PySem.Str.ofString "own") = False := eq_false (by decide +kernel)
@[simp] theorem nb_13_25 : (PySem.Str.ofString "wr" == PySem.Str.ofString "own") = false := by decide +kernel
@[simp] theorem ne_13_26 : (PySem.Str.ofString "wr" = PySem.Str.ofString "ss") = False := eq_false (by decide +kernel)
@[simp] theorem nb_13_26 : (PySem.Str.ofString "wr" == PySem.Str.ofString "ss") = false := by decide +kernel
@[simp] theorem ne_13_27 : (PySem.Str.ofString "wr" = PySem.Str.ofString "core") = False := eq_false (by decide +kernel)
@[simp] theorem nb_13_27 : (PySem.Str.ofString "wr" == PySem.Str.ofString "core") = false := by decide +kernel
@[simp] theorem ne_13_28 : (PySem.Str.ofString "wr" = PySem.Str.ofString "place") = False := eq_false (by decide +kernel)
@[simp] theorem nb_13_28 : (PySem.Str.ofString "wr" == PySem.Str.ofString "place") = false := by decide +kernel
@[simp] theorem ne_13_29 : (PySem.Str.ofString "wr" = PySem.Str.ofString "design") = False := eq_false (by decide +kernel)
@[simp] theorem nb_13_29 : (PySem.Str.ofString "wr" == PySem.Str.ofString "design") = false := by decide +kernel
@[simp] theorem ne_13_30 : (PySem.Str.ofString "wr" = PySem.Str.ofString "") = False := eq_false (by decide +kernel)
@[simp] theorem nb_13_30 : (PySem.Str.ofString "wr" == PySem.Str.ofString "") = false := by decide +kernel
@[simp] theorem ne_13_31 : (PySem.Str.ofString "wr" = PySem.Str.ofString "xx") = False := eq_false (by decide +kernel)
@[simp] theorem nb_13_31 : (PySem.Str.ofString "wr" == PySem.Str.ofString "xx") = false := by decide +kernel
@[simp] theorem ok_14 : PyData.strOk (PySem.Str.ofString "ww") = true := by decide +kernel
@[simp] theorem len_14 : (PySem.Str.ofString "ww").length = 2 := by decide +kernel
@[simp] theorem ne_14_0 : (PySem.Str.ofString "ww" = PySem.Str.ofString "read") = False := eq_false (by decide +kernel)
@[simp] theorem nb_14_0 : (PySem.Str.ofString "ww" == PySem.Str.ofString "read") = false := by decide +kernel
@[simp] theorem ne_14_1 : (PySem.Str.ofString "ww" = PySem.Str.ofString "write") = False := eq_false (by decide +kernel)
@[simp] theorem nb_14_1 : (PySem.Str.ofString "ww" == PySem.Str.ofString "write") = false := by decide +kernel
@[simp] theorem ne_14_2 : (PySem.Str.ofString "ww" = PySem.Str.ofString "copy") = False := eq_false (by decide +kernel)
@[simp] theorem nb_14_2 : (PySem.Str.ofString "ww" == PySem.Str.ofString "copy") = false := by decide +kernel
@[simp] theorem ne_14_3 : (PySem.Str.ofString "ww" = PySem.Str.ofString "fence") = False := eq_false (by decide +kernel)
@[simp] theorem nb_14_3 : (PySem.Str.ofString "ww" == PySem.Str.ofString "fence") = false := by decide +kernel
@[simp] theorem ne_14_4 : (PySem.Str.ofString "ww" = PySem.Str.ofString "guard") = False := eq_false (by decide +kernel)
@[simp] theorem nb_14_4 : (PySem.Str.ofString "ww" == PySem.Str.ofString "guard") = false := by decide +kernel
@[simp] theorem ne_14_5 : (PySem.Str.ofString "ww" = PySem.Str.ofString "r") = False := eq_false (by decide +kernel)
@[simp] theorem nb_14_5 : (PySem.Str.ofString "ww" == PySem.Str.ofString "r") = false := by decide +kernel
@[simp] theorem ne_14_6 : (PySem.Str.ofString "ww" = PySem.Str.ofString "w") = False := eq_false (by decide +kernel)
@[simp] theorem nb_14_6 : (PySem.Str.ofString "ww" == PySem.Str.ofString "w") = false := by decide +kernel
@[simp] theorem ne_14_7 : (PySem.Str.ofString "ww" = PySem.Str.ofString "g") = False := eq_false (by decide +kernel)
@[simp] theorem nb_14_7 : (PySem.Str.ofString "ww" == PySem.Str.ofString "g") = false := by decide +kernel
@[simp] theorem ne_14_8 : (PySem.Str.ofString "ww" = PySem.Str.ofString "f") = False := eq_false (by decide +kernel)
@[simp] theorem nb_14_8 : (PySem.Str.ofString "ww" == PySem.Str.ofString "f") = false := by decide +kernel
@[simp] theorem ne_14_9 : (PySem.Str.ofString "ww" = PySem.Str.ofString "rr") = False := eq_false (by decide +kernel)
@[simp] theorem nb_14_9 : (PySem.Str.ofString "ww" == PySem.Str.ofString "rr") = false := by decide +kernel
@[simp] theorem ne_14_10 : (PySem.Str.ofString "ww" = PySem.Str.ofString "rw") = False := eq_false (by decide +kernel)
@[simp] theorem nb_14_10 : (PySem.Str.ofString "ww" == PySem.Str.ofString "rw") = false := by decide +kernel
@[simp] theorem ne_14_11 : (PySem.Str.ofString "ww" = PySem.Str.ofString "rg") = False := eq_false (by decide +kernel)
@[simp] theorem nb_14_11 : (PySem.Str.ofString "ww" == PySem.Str.ofString "rg") = false := by decide +kernel
@[simp] theorem ne_14_12 : (PySem.Str.ofString "ww" = PySem.Str.ofString "rf") = False := eq_false (by decide +kernel)
@[simp] theorem nb_14_12 : (PySem.Str.ofString "ww" == PySem.Str.ofString "rf") = false := by decide +kernel
@[simp] theorem ne_14_13 : (PySem.Str.ofString "ww" = PySem.Str.ofString "wr") = False := eq_false (by decide +kernel)
@[simp] theorem nb_14_13 : (PySem.Str.ofString "ww" == PySem.Str.ofString "wr") = false := by decide +kernel
@[simp] theorem ne_14_15 : (PySem.Str.ofString "ww" = PySem.Str.ofString "wg") = False := eq_false (by decide +kernel)
@[simp] theorem nb_14_15 : (PySem.Str.ofString "ww" == PySem.Str.ofString "wg") = false := by decide +kernel
@[simp] theorem ne_14_16 : (PySem.Str.ofString "ww" = PySem.Str.ofString "wf") = False := eq_false (by decide +kernel)
@[simp] theorem nb_14_16 : (PySem.Str.ofString "ww" == PySem.Str.ofString "wf") = false := by decide +kernel
@[simp] theorem ne_14_17 : (PySem.Str.ofString "ww" = PySem.Str.ofString "gr") = False := eq_false (by decide +kernel)
@[simp] theorem nb_14_17 : (PySem.Str.ofString "ww" == PySem.Str.ofString "gr") = false := by decide +kernel
@[simp] theorem ne_14_18 : (PySem.Str.ofString "ww" = PySem.Str.ofString "gw") = False := eq_false (by decide +kernel)
@[simp] theorem nb_14_18 : (PySem.Str.ofString "ww" == PySem.Str.ofString "gw") = false := by decide +kernel
@[simp] theorem ne_14_19 : (PySem.Str.ofString "ww" = PySem.Str.ofString "gg") = False := eq_false (by decide +kernel)
@[simp] theorem nb_14_19 : (PySem.Str.ofString "ww" == PySem.Str.ofString "gg") = false := by decide +kernel
@[simp] theorem ne_14_20 : (PySem.Str.ofString "ww" = PySem.Str.ofString "gf") = False := eq_false (by decide +kernel)
@[simp] theorem nb_14_20 : (PySem.Str.ofString "ww" == PySem.Str.ofString "gf") = false := by decide +kernel
@[simp] theorem ne_14_21 : (PySem.Str.ofString "ww" = PySem.Str.ofString "fr") = False := eq_false (by decide +kernel)
@[simp] theorem nb_14_21 : (PySem.Str.ofString "ww" == PySem.Str.ofString "fr") = false := by decide +kernel
@[simp] theorem ne_14_22 : (PySem.Str.ofString "ww" = PySem.Str.ofString "fw") = False := eq_false (by decide +kernel)
@[simp] theorem nb_14_22 : (PySem.Str.ofString "ww" == PySem.Str.ofString "fw") = false := by decide +kernel
@[simp] theorem ne_14_23 : (PySem.Str.ofString "ww" = PySem.Str.ofString "fg") = False := eq_false (by decide +kernel)
@[simp] theorem nb_14_23 : (PySem.Str.ofString "ww" == PySem.Str.ofString "fg") = false := by decide +kernel
@[simp] theorem ne_14_24 : (PySem.Str.ofString "ww" = PySem.Str.ofString "ff") = False := eq_false (by decide +kernel)
@[simp] theorem nb_14_24 : (PySem.Str.ofString "ww" == PySem.Str.ofString "ff") = false := by decide +kernel
@[simp] theorem ne_14_25 : (PySem.Str.ofString "ww" = PySem.Str.ofString "own") = False := eq_false (by decide +kernel)
@[simp] theorem nb_14_25 : (PySem.Str.ofString "ww" == PySem.Str.ofString "own") = false := by decide +kernel
@[simp] theorem ne_14_26 : (PySem.Str.ofString "ww" = PySem.Str.ofString "ss") = False := eq_false (by decide +kernel)
@[simp] theorem nb_14_26 : (PySem.Str.ofString "ww" == PySem.Str.ofString "ss") = false := by decide +kernel
@[simp] theorem ne_14_27 : (PySem.Str.ofString "ww" = PySem.Str.ofString "core") = False := eq_false (by decide +kernel)
@[simp] theorem nb_14_27 : (PySem.Str.ofString "ww" == PySem.Str.ofString "core") = false := by decide +kernel
@[simp] theorem ne_14_28 : (PySem.Str.ofString "ww" = PySem.Str.ofString "place") = False := eq_false (by decide +kernel)
@[simp] theorem nb_14_28 : (PySem.Str.ofString "ww" == PySem.Str.ofString "place") = false := by decide +kernel
@[simp] theorem ne_14_29 : (PySem.Str.ofString "ww" = PySem.Str.ofString "design") = False := eq_false (by decide +kernel)
@[simp] theorem nb_14_29 : (PySem.Str.ofString "ww" == PySem.Str.ofString "design") = false := by decide +kernel
@[simp] theorem ne_14_30 : (PySem.Str.ofString "ww" = PySem.Str.ofString "") = False := eq_false (by decide +kernel)
@[simp] theorem nb_14_30 : (PySem.Str.ofString "ww" == PySem.Str.ofString "") = false := by decide +kernel
@[simp] theorem ne_14_31 : (PySem.Str.ofString "ww" = PySem.Str.ofString "xx") = False := eq_false (by decide +kernel)
@[simp] theorem nb_14_31 : (PySem.Str.ofString "ww" == PySem.Str.ofString "xx") = false := by decide +kernel
@[simp] theorem ok_15 : PyData.strOk (PySem.Str.ofString "wg") = true := by decide +kernel
@[simp] theorem len_15 : (PySem.Str.ofString "wg").length = 2 := by decide +kernel
@[simp] theorem ne_15_0 : (PySem.Str.ofString "wg" = PySem.Str.ofString "read") = False := eq_false (by decide +kernel)
@[simp] theorem nb_15_0 : (PySem.Str.ofString "wg" == PySem.Str.ofString "read") = false := by decide +kernel
@[simp] theorem ne_15_1 : (PySem.Str.ofString "wg" = PySem.Str.ofString "write") = False := eq_false (by decide +kernel)
@[simp] theorem nb_15_1 : (PySem.Str.ofString "wg" == PySem.Str.ofString "write") = false := by decide +kernel
@[simp] theorem ne_15_2 : (PySem.Str.ofString "wg" = PySem.Str.ofString "copy") = False := eq_false (by decide +kernel)
@[simp] theorem nb_15_2 : (PySem.Str.ofString "wg" == PySem.Str.ofString "copy") = false := by decide +kernel
@[simp] theorem ne_15_3 : (PySem.Str.ofString "wg" = PySem.Str.ofString "fence") = False := eq_false (by decide +kernel)
@[simp] theorem nb_15_3 : (PySem.Str.ofString "wg" == PySem.Str.ofString "fence") = false := by decide +kernel
@[simp] theorem ne_15_4 : (PySem.Str.ofString "wg" = PySem.Str.ofString "guard") = False := eq_false (by decide +kernel)
@[simp] theorem nb_15_4 : (PySem.Str.ofString "wg" == PySem.Str.ofString "guard") = false := by decide +kernel
@[simp] theorem ne_15_5 : (PySem.Str.ofString "wg" = PySem.Str.ofString "r") = False := eq_false (by decide +kernel)
@[simp] theorem nb_15_5 : (PySem.Str.ofString "wg" == PySem.Str.ofString "r") = false := by decide +kernel
@[simp] theorem ne_15_6 : (PySem.Str.ofString "wg" = PySem.Str.ofString "w") = False := eq_false (by decide +kernel)
@[simp] theorem nb_15_6 : (PySem.Str.ofString "wg" == PySem.Str.ofString "w") = false := by decide +kernel
@[simp] theorem ne_15_7 : (PySem.Str.ofString "wg" = PySem.Str.ofString "g") = False := eq_false (by decide +kernel)
@[simp] theorem nb_15_7 : (PySem.Str.ofString "wg" == PySem.Str.ofString "g") = false := by decide +kernel
@[simp] theorem ne_15_8 : (PySem.Str.ofString "wg" = PySem.Str.ofString "f") = False := eq_false (by decide +kernel)
@[simp] theorem nb_15_8 : (PySem.Str.ofString "wg" == PySem.Str.ofString "f") = false := by decide +kernel
@[simp] theorem ne_15_9 : (PySem.Str.ofString "wg" = PySem.Str.ofString "rr") = False := eq_false (by decide +kernel)
@[simp] theorem nb_15_9 : (PySem.Str.ofString "wg" == PySem.Str.ofString "rr") = false := by decide +kernel
@[simp] theorem ne_15_10 : (PySem.Str.ofString "wg" = PySem.Str.ofString "rw") = False := eq_false (by decide +kernel)
@[simp] theorem nb_15_10 : (PySem.Str.ofString "wg" == PySem.Str.ofString "rw") = false := by decide +kernel
@[simp] theorem ne_15_11 : (PySem.Str.ofString "wg" = PySem.Str.ofString "rg") = False := eq_false (by decide +kernel)
@[simp] theorem nb_15_11 : (PySem.Str.ofString "wg" == PySem.Str.ofString "rg") = false := by decide +kernel
@[simp] theorem ne_15_12 : (PySem.Str.ofString "wg" = PySem.Str.ofString "rf") = False := eq_false (by decide +kernel)
@[simp] theorem nb_15_12 : (PySem.Str.ofString "wg" == PySem.Str.ofString "rf") = false := by decide +kernel
@[simp] theorem ne_15_13 : (PySem.Str.ofString "wg" = PySem.Str.ofString "wr") = False := eq_false (by decide +kernel)
@[simp] theorem nb_15_13 : (PySem.Str.ofString "wg" == PySem.Str.ofString "wr") = false := by decide +kernel
@[simp] theorem ne_15_14 : (PySem.Str.ofString "wg" = PySem.Str.ofString "ww") = False := eq_false (by decide +kernel)
@[simp] theorem nb_15_14 : (PySem.Str.ofString "wg" == PySem.Str.ofString "ww") = false := by decide +kernel
@[simp] theorem ne_15_16 : (PySem.Str.ofString "wg" = PySem.Str.ofString "wf") = False := eq_false (by decide +kernel)
@[simp] theorem nb_15_16 : (PySem.Str.ofString "wg" == PySem.Str.ofString "wf") = false := by decide +kernel
@[simp] theorem ne_15_17 : (PySem.Str.ofString "wg" = PySem.Str.ofString "gr") = False := eq_false (by decide +kernel)
@[simp] theorem nb_15_17 : (PySem.Str.ofString "wg" == PySem.Str.ofString "gr") = false := by decide +kernel
@[simp] theorem ne_15_18 : (PySem.Str.ofString "wg" = PySem.Str.ofString "gw") = False := eq_false (by decide +kernel)
@[simp] theorem nb_15_18 : (PySem.Str.ofString "wg" == PySem.Str.ofString "gw") = false := by decide +kernel
@[simp] theorem ne_15_19 : (PySem.Str.ofString "wg" = PySem.Str.ofString "gg") = False := eq_false (by decide +kernel)
@[simp] theorem nb_15_19 : (PySem.Str.ofString "wg" == PySem.Str.ofString "gg") = false := by decide +kernel
@[simp] theorem ne_15_20 : (PySem.Str.ofString "wg" = PySem.Str.ofString "gf") = False := eq_false (by decide +kernel)
@[simp] theorem nb_15_20 : (PySem.Str.ofString "wg" == PySem.Str.ofString "gf") = false := by decide +kernel
@[simp] theorem ne_15_21 : (PySem.Str.ofString "wg" = PySem.Str.ofString "fr") = False := eq_false (by decide +kernel)
@[simp] theorem nb_15_21 : (PySem.Str.ofString "wg" == PySem.Str.ofString "fr") = false := by decide +kernel
@[simp] theorem ne_15_22 : (PySem.Str.ofString "wg" = PySem.Str.ofString "fw") = False := eq_false (by decide +kernel)
@[simp] theorem nb_15_22 : (PySem.Str.ofString "wg" == PySem.Str.ofString "fw") = false := by decide +kernel
@[simp] theorem ne_15_23 : (PySem.Str.ofString "wg" = PySem.Str.ofString "fg") = False := eq_false (by decide +kernel)
@[simp] theorem nb_15_23 : (PySem.Str.ofString "wg" == PySem.Str.ofString "fg") = false := by decide +kernel
@[simp] theorem ne_15_24 : (PySem.Str.ofString "wg" = PySem.Str.ofString "ff") = False := eq_false (by decide +kernel)
@[simp] theorem nb_15_24 : (PySem.Str.ofString "wg" == PySem.Str.ofString "ff") = false := by decide +kernel
@[simp] theorem ne_15_25 : (PySem.Str.ofString "wg" = PySem.Str.ofString "own") = False := eq_false (by decide +kernel)
@[simp] theorem nb_15_25 : (PySem.Str.ofString "wg" == PySem.Str.ofString "own") = false := by decide +kernel
@[simp] theorem ne_15_26 : (PySem.Str.ofString "wg" = PySem.Str.ofString "ss") = False := eq_false (by decide +kernel)
@[simp] theorem nb_15_26 : (PySem.Str.ofString "wg" == PySem.Str.ofString "ss") = false := by decide +kernel
@[simp] theorem ne_15_27 : (PySem.Str.ofString "wg" = PySem.Str.ofString "core") = False := eq_false (by decide +kernel)
@[simp] theorem nb_15_27 : (PySem.Str.ofString "wg" == PySem.Str.ofString "core") = false := by decide +kernel
@[simp] theorem ne_15_28 : (PySem.Str.ofString "wg" = PySem.Str.ofString "place") = False := eq_false (by decide +kernel)
@[simp] theorem nb_15_28 : (PySem.Str.ofString "wg" == PySem.Str.ofString "place") = false := by decide +kernel
@[simp] theorem ne_15_29 : (PySem.Str.ofString "wg" = PySem.Str.ofString "design") = False := eq_false (by decide +kernel)
@[simp] theorem nb_15_29 : (PySem.Str.ofString "wg" == PySem.Str.ofString "design") = false := by decide +kernel
@[simp] theorem ne_15_30 : (PySem.Str.ofString "wg" = PySem.Str.ofString "") = False := eq_false (by decide +kernel)
@[simp] theorem nb_15_30 : (PySem.Str.ofString "wg" == PySem.Str.ofString "") = false := by decide +kernel
@[simp] theorem ne_15_31 : (PySem.Str.ofString "wg" = PySem.Str.ofString "xx") = False := eq_false (by decide +kernel)
@[simp] theorem nb_15_31 : (PySem.Str.ofString "wg" == PySem.Str.ofString "xx") = false := by decide +kernel
@[simp] theorem ok_16 : PyData.strOk (PySem.Str.ofString "wf") = true := by decide +kernel
@[simp] theorem len_16 : (PySem.Str.ofString "wf").length = 2 := by decide +kernel
@[simp] theorem ne_16_0 : (PySem.Str.ofString "wf" = PySem.Str.ofString "read") = False := eq_false (by decide +kernel)
@[simp] theorem nb_16_0 : (PySem.Str.ofString "wf" == PySem.Str.ofString "read") = false := by decide +kernel
@[simp] theorem ne_16_1 : (PySem.Str.ofString "wf" = PySem.Str.ofString "write") = False := eq_false (by decide +kernel)
@[simp] theorem nb_16_1 : (PySem.Str.ofString "wf" == PySem.Str.ofString "write") = false := by decide +kernel
@[simp] theorem ne_16_2 : (PySem.Str.ofString "wf" = PySem.Str.ofString "copy") = False := eq_false (by decide +kernel)
@[simp] theorem nb_16_2 : (PySem.Str.ofString "wf" == PySem.Str.ofString "copy") = false := by decide +kernel
@[simp] theorem ne_16_3 : (PySem.Str.ofString "wf" = PySem.Str.ofString "fence") = False := eq_false (by decide +kernel)
@[simp] theorem nb_16_3 : (PySem.Str.ofString "wf" == PySem.Str.ofString "fence") = false := by decide +kernel
@[simp] theorem ne_16_4 : (PySem.Str.ofString "wf" = PySem.Str.ofString "guard") = False := eq_false (by decide +kernel)
@[simp] theorem nb_16_4 : (PySem.Str.ofString "wf" == PySem.Str.ofString "guard") = false := by decide +kernel
@[simp] theorem ne_16_5 : (PySem.Str.ofString "wf" = PySem.Str.ofString "r") = False := eq_false (by decide +kernel)
@[simp] theorem nb_16_5 : (PySem.Str.ofString "wf" == PySem.Str.ofString "r") = false := by decide +kernel
@[simp] theorem ne_16_6 : (PySem.Str.ofString "wf" = PySem.Str.ofString "w") = False := eq_false (by decide +kernel)
@[simp] theorem nb_16_6 : (PySem.Str.ofString "wf" == PySem.Str.ofString "w") = false := by decide +kernel
@[simp] theorem ne_16_7 : (PySem.Str.ofString "wf" = PySem.Str.ofString "g") = False := eq_false (by decide +kernel)
@[simp] theorem nb_16_7 : (PySem.Str.ofString "wf" == PySem.Str.ofString "g") = false := by decide +kernel
@[simp] theorem ne_16_8 : (PySem.Str.ofString "wf" = PySem.Str.ofString "f") = False := eq_false (by decide +kernel)
@[simp] theorem nb_16_8 : (PySem.Str.ofString "wf" == PySem.Str.ofString "f") = false := by decide +kernel
@[simp] theorem ne_16_9 : (PySem.Str.ofString "wf" = PySem.Str.ofString "rr") = False := eq_false (by decide +kernel)
@[simp] theorem nb_16_9 : (PySem.Str.ofString "wf" == PySem.Str.ofString "rr") = false := by decide +kernel
@[simp] theorem ne_16_10 : (PySem.Str.ofString "wf" = PySem.Str.ofString "rw") = False := eq_false (by decide +kernel)
@[simp] theorem nb_16_10 : (PySem.Str.ofString "wf" == PySem.Str.ofString "rw") = false := by decide +kernel
@[simp] theorem ne_16_11 : (PySem.Str.ofString "wf" = PySem.Str.ofString "rg") = False := eq_false (by decide +kernel)
@[simp] theorem nb_16_11 : (PySem.Str.ofString "wf" == PySem.Str.ofString "rg") = false := by decide +kernel
@[simp] theorem ne_16_12 : (PySem.Str.ofString "wf" = PySem.Str.ofString "rf") = False := eq_false (by decide +kernel)
@[simp] theorem nb_16_12 : (PySem.Str.ofString "wf" == PySem.Str.ofString "rf") = false := by decide +kernel
@[simp] theorem ne_16_13 : (PySem.Str.ofString "wf" = PySem.Str.ofString "wr") = False := eq_false (by decide +kernel)
@[simp] theorem nb_16_13 : (PySem.Str.ofString "wf" == PySem.Str.ofString "wr") = false := by decide +kernel
@[simp] theorem ne_16_14 : (PySem.Str.ofString "wf" = PySem.Str.ofString "ww") = False := eq_false (by decide +kernel)
@[simp] theorem nb_16_14 : (PySem.Str.ofString "wf" == PySem.Str.ofString "ww") = false := by decide +kernel
@[simp] theorem ne_16_15 : (PySem.Str.ofString "wf" = PySem.Str.ofString "wg") = False := eq_false (by decide +kernel)
@[simp] theorem nb_16_15 : (PySem.Str.ofString "wf" == PySem.Str.ofString "wg") = false := by decide +kernel
@[simp] theorem ne_16_17 : (PySem.Str.ofString "wf" = PySem.Str.ofString "gr") = False := eq_false (by decide +kernel)
@[simp] theorem nb_16_17 : (PySem.Str.ofString "wf" == PySem.Str.ofString "gr") = false := by decide +kernel
@[simp] theorem ne_16_18 : (PySem.Str.ofString "wf" = PySem.Str.ofString "gw") = False := eq_false (by decide +kernel)
@[simp] theorem nb_16_18 : (PySem.Str.ofString "wf" == PySem.Str.ofString "gw") = false := by decide +kernel
@[simp] theorem ne_16_19 : (PySem.Str.ofString "wf" = PySem.Str.ofString "gg") = False := eq_false (by decide +kernel)
@[simp] theorem nb_16_19 : (PySem.Str.ofString "wf" == PySem.Str.ofString "gg") = false := by decide +kernel
@[simp] theorem ne_16_20 : (PySem.Str.ofString "wf" = PySem.Str.ofString "gf") = False := eq_false (by decide +kernel)
@[simp] theorem nb_16_20 : (PySem.Str.ofString "wf" == PySem.Str.ofString "gf") = false := by decide +kernel
@[simp] theorem ne_16_21 : (PySem.Str.ofString "wf" = PySem.Str.ofString "fr") = False := eq_false (by decide +kernel)
@[simp] theorem nb_16_21 : (PySem.Str.ofString "wf" == PySem.Str.ofString "fr") = false := by decide +kernel
@[simp] theorem ne_16_22 : (PySem.Str.ofString "wf" = PySem.Str.ofString "fw") = False := eq_false (by decide +kernel)
@[simp] theorem nb_16_22 : (PySem.Str.ofString "wf" == PySem.Str.ofString "fw") = false := by decide +kernel
@[simp] theorem ne_16_23 : (PySem.Str.ofString "wf" = PySem.Str.ofString "fg") = False := eq_false (by decide +kernel)
@[simp] theorem nb_16_23 : (PySem.Str.ofString "wf" == PySem.Str.ofString "fg") = false := by decide +kernel
@[simp] theorem ne_16_24 : (PySem.Str.ofString "wf" = PySem.Str.ofString "ff") = False := eq_false (by decide +kernel)
@[simp] theorem nb_16_24 : (PySem.Str.ofString "wf" == PySem.Str.ofString "ff") = false := by decide +kernel
@[simp] theorem ne_16_25 : (PySem.Str.ofString "wf" = PySem.Str.ofString "own") = False := eq_false (by decide +kernel)
@[simp] theorem nb_16_25 : (PySem.Str.ofString "wf" == PySem.Str.ofString "own") = false := by decide +kernel
@[simp] theorem ne_16_26 : (PySem.Str.ofString "wf" = PySem.Str.ofString "ss") = False := eq_false (by decide +kernel)
@[simp] theorem nb_16_26 : (PySem.Str.ofString "wf" == PySem.Str.ofString "ss") = false := by decide +kernel
@[simp] theorem ne_16_27 : (PySem.Str.ofString "wf" = PySem.Str.ofString "core") = False := eq_false (by decide +kernel)
@[simp] theorem nb_16_27 : (PySem.Str.ofString "wf" == PySem.Str.ofString "core") = false := by decide +kernel
@[simp] theorem ne_16_28 : (PySem.Str.ofString "wf" = PySem.Str.ofString "place") = False := eq_false (by decide +kernel)
@[simp] theorem nb_16_28 : (PySem.Str.ofString "wf" == PySem.Str.ofString "place") = false := by decide +kernel
@[simp] theorem ne_16_29 : (PySem.Str.ofString "wf" = PySem.Str.ofString "design") = False := eq_false (by decide +kernel)
@[simp] theorem nb_16_29 : (PySem.Str.ofString "wf" == PySem.Str.ofString "design") = false := by decide +kernel
@[simp] theorem ne_16_30 : (PySem.Str.ofString "wf" = PySem.Str.ofString "") = False := eq_false (by decide +kernel)
@[simp] theorem nb_16_30 : (PySem.Str.ofString "wf" == PySem.Str.ofString "") = false := by decide +kernel
@[simp] theorem ne_16_31 : (PySem.Str.ofString "wf" = PySem.Str.ofString "xx") = False := eq_false (by decide +kernel)
@[simp] theorem nb_16_31 : (PySem.Str.ofString "wf" == PySem.Str.ofString "xx") = false := by decide +kernel
@[simp] theorem ok_17 : PyData.strOk (PySem.Str.ofString "gr") = true := by decide +kernel
@[simp] theorem len_17 : (PySem.Str.ofString "gr").length = 2 := by decide +kernel
@[simp] theorem ne_17_0 : (PySem.Str.ofString "gr" = PySem.Str.ofString "read") = False := eq_false (by decide +kernel)
@[simp] theorem nb_17_0 : (PySem.Str.ofString "gr" == PySem.Str.ofString "read") = false := by decide +kernel
@[simp] theorem ne_17_1 : (PySem.Str.ofString "gr" = PySem.Str.ofString "write") = False := eq_false (by decide +kernel)
@[simp] theorem nb_17_1 : (PySem.Str.ofString "gr" == PySem.Str.ofString "write") = false := by decide +kernel
@[simp] theorem ne_17_2 : (PySem.Str.ofString "gr" = PySem.Str.ofString "copy") = False := eq_false (by decide +kernel)
@[simp] theorem nb_17_2 : (PySem.Str.ofString "gr" == PySem.Str.ofString "copy") = false := by decide +kernel
@[simp] theorem ne_17_3 : (PySem.Str.ofString "gr" = PySem.Str.ofString "fence") = False := eq_false (by decide +kernel)
@[simp] theorem nb_17_3 : (PySem.Str.ofString "gr" == PySem.Str.ofString "fence") = false := by decide +kernel
@[simp] theorem ne_17_4 : (PySem.Str.ofString "gr" = PySem.Str.ofString "guard") = False := eq_false (by decide +kernel)
@[simp] theorem nb_17_4 : (PySem.Str.ofString "gr" == PySem.Str.ofString "guard") = false := by decide +kernel
@[simp] theorem ne_17_5 : (PySem.Str.ofString "gr" = PySem.Str.ofString "r") = False := eq_false (by decide +kernel)
@[simp] theorem nb_17_5 : (PySem.Str.ofString "gr" == PySem.Str.ofString "r") = false := by decide +kernel
@[simp] theorem ne_17_6 : (PySem.Str.ofString "gr" = PySem.Str.ofString "w") = False := eq_false (by decide +kernel)
@[simp] theorem nb_17_6 : (PySem.Str.ofString "gr" == PySem.Str.ofString "w") = false := by decide +kernel
@[simp] theorem ne_17_7 : (PySem.Str.ofString "gr" = PySem.Str.ofString "g") = False := eq_false (by decide +kernel)
@[simp] theorem nb_17_7 : (PySem.Str.ofString "gr" == PySem.Str.ofString "g") = false := by decide +kernel
@[simp] theorem ne_17_8 : (PySem.Str.ofString "gr" = PySem.Str.ofString "f") = False := eq_false (by decide +kernel)
@[simp] theorem nb_17_8 : (PySem.Str.ofString "gr" == PySem.Str.ofString "f") = false := by decide +kernel
@[simp] theorem ne_17_9 : (PySem.Str.ofString "gr" = PySem.Str.ofString "rr") = False := eq_false (by decide +kernel)
@[simp] theorem nb_17_9 : (PySem.Str.ofString "gr" == PySem.Str.ofString "rr") = false := by decide +kernel
@[simp] theorem ne_17_10 : (PySem.Str.ofString "gr" = PySem.Str.ofString "rw") = False := eq_false (by decide +kernel)
@[simp] theorem nb_17_10 : (PySem.Str.ofString "gr" == PySem.Str.ofString "rw") = false := by decide +kernel
@[simp] theorem ne_17_11 : (PySem.Str.ofString "gr" = PySem.Str.ofString "rg") = False := eq_false (by decide +kernel)
@[simp] theorem nb_17_11 : (PySem.Str.ofString "gr" == PySem.Str.ofString "rg") = false := by decide +kernel
@[simp] theorem ne_17_12 : (PySem.Str.ofString "gr" = PySem.Str.ofString "rf") = False := eq_false (by decide +kernel)
@[simp] theorem nb_17_12 : (PySem.Str.ofString "gr" == PySem.Str.ofString "rf") = false := by decide +kernel
@[simp] theorem ne_17_13 : (PySem.Str.ofString "gr" = PySem.Str.ofString "wr") = False := eq_false (by decide +kernel)
@[simp] theorem nb_17_13 : (PySem.Str.ofString "gr" == PySem.Str.ofString "wr") = false := by decide +kernel
@[simp] theorem ne_17_14 : (PySem.Str.ofString "gr" = PySem.Str.ofString "ww") = False := eq_false (by decide +kernel)
@[simp] theorem nb_17_14 : (PySem.Str.ofString "gr" == PySem.Str.ofString "ww") = false := by decide +kernel
@[simp] theorem ne_17_15 : (PySem.Str.ofString "gr" = PySem.Str.ofString "wg") = False := eq_false (by decide +kernel)
@[simp] theorem nb_17_15 : (PySem.Str.ofString "gr" == PySem.Str.ofString "wg") = false := by decide +kernel
@[simp] theorem ne_17_16 : (PySem.Str.ofString "gr" = PySem.Str.ofString "wf") = False := eq_false (by decide +kernel)
@[simp] theorem nb_17_16 : (PySem.Str.ofString "gr" == PySem.Str.ofString "wf") = false := by decide +kernel
@[simp] theorem ne_17_18 : (PySem.Str.ofString "gr" = PySem.Str.ofString "gw") = False := eq_false (by decide +kernel)
@[simp] theorem nb_17_18 : (PySem.Str.ofString "gr" == PySem.Str.ofString "gw") = false := by decide +kernel
@[simp] theorem ne_17_19 : (PySem.Str.ofString "gr" = PySem.Str.ofString "gg") = False := eq_false (by decide +kernel)
@[simp] theorem nb_17_19 : (PySem.Str.ofString "gr" == PySem.Str.ofString "gg") = false := by decide +kernel
@[simp] theorem ne_17_20 : (PySem.Str.ofString "gr" = PySem.Str.ofString "gf") = False := eq_false (by decide +kernel)
@[simp] theorem nb_17_20 : (PySem.Str.ofString "gr" == PySem.Str.ofString "gf") = false := by decide +kernel
@[simp] theorem ne_17_21 : (PySem.Str.ofString "gr" = PySem.Str.ofString "fr") = False := eq_false (by decide +kernel)
@[simp] theorem nb_17_21 : (PySem.Str.ofString "gr" == PySem.Str.ofString "fr") = false := by decide +kernel
@[simp] theorem ne_17_22 : (PySem.Str.ofString "gr" = PySem.Str.ofString "fw") = False := eq_false (by decide +kernel)
@[simp] theorem nb_17_22 : (PySem.Str.ofString "gr" == PySem.Str.ofString "fw") = false := by decide +kernel
@[simp] theorem ne_17_23 : (PySem.Str.ofString "gr" = PySem.Str.ofString "fg") = False := eq_false (by decide +kernel)
@[simp] theorem nb_17_23 : (PySem.Str.ofString "gr" == PySem.Str.ofString "fg") = false := by decide +kernel
@[simp] theorem ne_17_24 : (PySem.Str.ofString "gr" = PySem.Str.ofString "ff") = False := eq_false (by decide +kernel)
@[simp] theorem nb_17_24 : (PySem.Str.ofString "gr" == PySem.Str.ofString "ff") = false := by decide +kernel
@[simp] theorem ne_17_25 : (PySem.Str.ofString "gr" = PySem.Str.ofString "own") = False := eq_false (by decide +kernel)
@[simp] theorem nb_17_25 : (PySem.Str.ofString "gr" == PySem.Str.ofString "own") = false := by decide +kernel
@[simp] theorem ne_17_26 : (PySem.Str.ofString "gr" = PySem.Str.ofString "ss") = False := eq_false (by decide +kernel)
@[simp] theorem nb_17_26 : (PySem.Str.ofString "gr" == PySem.Str.ofString "ss") = false := by decide +kernel
@[simp] theorem ne_17_27 : (PySem.Str.ofString "gr" = PySem.Str.ofString "core") = False := eq_false (by decide +kernel)
@[simp] theorem nb_17_27 : (PySem.Str.ofString "gr" == PySem.Str.ofString "core") = false := by decide +kernel
@[simp] theorem ne_17_28 : (PySem.Str.ofString "gr" = PySem.Str.ofString "place") = False := eq_false (by decide +kernel)
@[simp] theorem nb_17_28 : (PySem.Str.ofString "gr" == PySem.Str.ofString "place") = false := by decide +kernel
@[simp] theorem ne_17_29 : (PySem.Str.ofString "gr" = PySem.Str.ofString "design") = False := eq_false (by decide +kernel)
@[simp] theorem nb_17_29 : (PySem.Str.ofString "gr" == PySem.Str.ofString "design") = false := by decide +kernel
@[simp] theorem ne_17_30 : (PySem.Str.ofString "gr" = PySem.Str.ofString "") = False := eq_false (by decide +kernel)
@[simp] theorem nb_17_30 : (PySem.Str.ofString "gr" == PySem.Str.ofString "") = false := by decide +kernel
@[simp] theorem ne_17_31 : (PySem.Str.ofString "gr" = PySem.Str.ofString "xx") = False := eq_false (by decide +kernel)
@[simp] theorem nb_17_31 : (PySem.Str.ofString "gr" == PySem.Str.ofString "xx") = false := by decide +kernel
@[simp] theorem ok_18 : PyData.strOk (PySem.Str.ofString "gw") = true := by decide +kernel
@[simp] theorem len_18 : (PySem.Str.ofString "gw").length = 2 := by decide +kernel
@[simp] theorem ne_18_0 : (PySem.Str.ofString "gw" = PySem.Str.ofString "read") = False := eq_false (by decide +kernel)
@[simp] theorem nb_18_0 : (PySem.Str.ofString "gw" == PySem.Str.ofString "read") = false := by decide +kernel
@[simp] theorem ne_18_1 : (PySem.Str.ofString "gw" = PySem.Str.ofString "write") = False := eq_false (by decide +kernel)
@[simp] theorem nb_18_1 : (PySem.Str.ofString "gw" == PySem.Str.ofString "write") = false := by decide +kernel
@[simp] theorem ne_18_2 : (PySem.Str.ofString "gw" = PySem.Str.ofString "copy") = False := eq_false (by decide +kernel)
@[simp] theorem nb_18_2 : (PySem.Str.ofString "gw" == PySem.Str.ofString "copy") = false := by decide +kernel
@[simp] theorem ne_18_3 : (PySem.Str.ofString "gw" = PySem.Str.ofString "fence") = False := eq_false (by decide +kernel)
@[simp] theorem nb_18_3 : (PySem.Str.ofString "gw" == PySem.Str.ofString "fence") = false := by decide +kernel
@[simp] theorem ne_18_4 : (PySem.Str.ofString "gw" = PySem.Str.ofString "guard") = False := eq_false (by decide +kernel)
@[simp] theorem nb_18_4 : (PySem.Str.ofString "gw" == PySem.Str.ofString "guard") = false := by decide +kernel
@[simp] theorem ne_18_5 : (PySem.Str.ofString "gw" = PySem.Str.ofString "r") = False := eq_false (by decide +kernel)
@[simp] theorem nb_18_5 : (PySem.Str.ofString "gw" == PySem.Str.ofString "r") = false := by decide +kernel
@[simp] theorem ne_18_6 : (PySem.Str.ofString "gw" = PySem.Str.ofString "w") = False := eq_false (by decide +kernel)
@[simp] theorem nb_18_6 : (PySem.Str.ofString "gw" == PySem.Str.ofString "w") = false := by decide +kernel
@[simp] theorem ne_18_7 : (PySem.Str.ofString "gw" = PySem.Str.ofString "g") = False := eq_false (by decide +kernel)
@[simp] theorem nb_18_7 : (PySem.Str.ofString "gw" == PySem.Str.ofString "g") = false := by decide +kernel
@[simp] theorem ne_18_8 : (PySem.Str.ofString "gw" = PySem.Str.ofString "f") = False := eq_false (by decide +kernel)
@[simp] theorem nb_18_8 : (PySem.Str.ofString "gw" == PySem.Str.ofString "f") = false := by decide +kernel
@[simp] theorem ne_18_9 : (PySem.Str.ofString "gw" = PySem.Str.ofString "rr") = False := eq_false (by decide +kernel)
@[simp] theorem nb_18_9 : (PySem.Str.ofString "gw" == PySem.Str.ofString "rr") = false := by decide +kernel
@[simp] theorem ne_18_10 : (PySem.Str.ofString "gw" = PySem.Str.ofString "rw") = False := eq_false (by decide +kernel)
@[simp] theorem nb_18_10 : (PySem.Str.ofString "gw" == PySem.Str.ofString "rw") = false := by decide +kernel
@[simp] theorem ne_18_11 : (PySem.Str.ofString "gw" = PySem.Str.ofString "rg") = False := eq_false (by decide +kernel)
@[simp] theorem nb_18_11 : (PySem.Str.ofString "gw" == PySem.Str.ofString "rg") = false := by decide +kernel
@[simp] theorem ne_18_12 : (PySem.Str.ofString "gw" = PySem.Str.ofString "rf") = False := eq_false (by decide +kernel)
@[simp] theorem nb_18_12 : (PySem.Str.ofString "gw" == PySem.Str.ofString "rf") = false := by decide +kernel
@[simp] theorem ne_18_13 : (PySem.Str.ofString "gw" = PySem.Str.ofString "wr") = False := eq_false (by decide +kernel)
@[simp] theorem nb_18_13 : (PySem.Str.ofString "gw" == PySem.Str.ofString "wr") = false := by decide +kernel
@[simp] theorem ne_18_14 : (PySem.Str.ofString "gw" = PySem.Str.ofString "ww") = False := eq_false (by decide +kernel)
@[simp] theorem nb_18_14 : (PySem.Str.ofString "gw" == PySem.Str.ofString "ww") = false := by decide +kernel
@[simp] theorem ne_18_15 : (PySem.Str.ofString "gw" = PySem.Str.ofString "wg") = False := eq_false (by decide +kernel)
@[simp] theorem nb_18_15 : (PySem.Str.ofString "gw" == PySem.Str.ofString "wg") = false := by decide +kernel
@[simp] theorem ne_18_16 : (PySem.Str.ofString "gw" = PySem.Str.ofString "wf") = False := eq_false (by decide +kernel)
@[simp] theorem nb_18_16 : (PySem.Str.ofString "gw" == PySem.Str.ofString "wf") = false := by decide +kernel
@[simp] theorem ne_18_17 : (PySem.Str.ofString "gw" = PySem.Str.ofString "gr") = False := eq_false (by decide +kernel)
@[simp] theorem nb_18_17 : (PySem.Str.ofString "gw" == PySem.Str.ofString "gr") = false := by decide +kernel
@[simp] theorem ne_18_19 : (PySem.Str.ofString "gw" = PySem.Str.ofString "gg") = False := eq_false (by decide +kernel)
@[simp] theorem nb_18_19 : (PySem.Str.ofString "gw" == PySem.Str.ofString "gg") = false := by decide +kernel
@[simp] theorem ne_18_20 : (PySem.Str.ofString "gw" = PySem.Str.ofString "gf") = False := eq_false (by decide +kernel)
@[simp] theorem nb_18_20 : (PySem.Str.ofString "gw" == PySem.Str.ofString "gf") = false := by decide +kernel
@[simp] theorem ne_18_21 : (PySem.Str.ofString "gw" = PySem.Str.ofString "fr") = False := eq_false (by decide +kernel)
@[simp] theorem nb_18_21 : (PySem.Str.ofString "gw" == PySem.Str.ofString "fr") = false := by decide +kernel
@[simp] theorem ne_18_22 : (PySem.Str.ofString "gw" = PySem.Str.ofString "fw") = False := eq_false (by decide +kernel)
@[simp] theorem nb_18_22 : (PySem.Str.ofString "gw" == PySem.Str.ofString "fw") = false := by decide +kernel
@[simp] theorem ne_18_23 : (PySem.Str.ofString "gw" = PySem.Str.ofString "fg") = False := eq_false (by decide +kernel)
@[simp] theorem nb_18_23 : (PySem.Str.ofString "gw" == PySem.Str.ofString "fg") = false := by decide +kernel
@[simp] theorem ne_18_24 : (PySem.Str.ofString "gw" = PySem.Str.ofString "ff") = False := eq_false (by decide +kernel)
@[simp] theorem nb_18_24 : (PySem.Str.ofString "gw" == PySem.Str.ofString "ff") = false := by decide +kernel
@[simp] theorem ne_18_25 : (PySem.Str.ofString "gw" = PySem.Str.ofString "own") = False := eq_false (by decide +kernel)
@[simp] theorem nb_18_25 : (PySem.Str.ofString "gw" == PySem.Str.ofString "own") = false := by decide +kernel
@[simp] theorem ne_18_26 : (PySem.Str.ofString "gw" = PySem.Str.ofString "ss") = False := eq_false (by decide +kernel)
@[simp] theorem nb_18_26 : (PySem.Str.ofString "gw" == PySem.Str.ofString "ss") = false := by decide +kernel
@[simp] theorem ne_18_27 : (PySem.Str.ofString "gw" = PySem.Str.ofString "core") = False := eq_false (by decide +kernel)
@[simp] theorem nb_18_27 : (PySem.Str.ofString "gw" == PySem.Str.ofString "core") = false := by decide +kernel
@[simp] theorem ne_18_28 : (PySem.Str.ofString "gw" = PySem.Str.ofString "place") = False := eq_false (by decide +kernel)
@[simp] theorem nb_18_28 : (PySem.Str.ofString "gw" == PySem.Str.ofString "place") = false := by decide +kernel
@[simp] theorem ne_18_29 : (PySem.Str.ofString "gw" = PySem.Str.ofString "design") = False := eq_false (by decide +kernel)
@[simp] theorem nb_18_29 : (PySem.Str.ofString "gw" == PySem.Str.ofString "design") = false := by decide +kernel
@[simp] theorem ne_18_30 : (PySem.Str.ofString "gw" = PySem.Str.ofString "") = False := eq_false (by decide +kernel)
@[simp] theorem nb_18_30 : (PySem.Str.ofString "gw" == PySem.Str.ofString "") = false := by decide +kernel
@[simp] theorem ne_18_31 : (PySem.Str.ofString "gw" = PySem.Str.ofString "xx") = False := eq_false (by decide +kernel)
@[simp] theorem nb_18_31 : (PySem.Str.ofString "gw" == PySem.Str.ofString "xx") = false := by decide +kernel
@[simp] theorem ok_19 : PyData.strOk (PySem.Str.ofString "gg") = true := by decide +kernel
@[simp] theorem len_19 : (PySem.Str.ofString "gg").length = 2 := by decide +kernel
@[simp] theorem ne_19_0 : (PySem.Str.ofString "gg" = PySem.Str.ofString "read") = False := eq_false (by decide +kernel)
@[simp] theorem nb_19_0 : (PySem.Str.ofString "gg" == PySem.Str.ofString "read") = false := by decide +kernel
@[simp] theorem ne_19_1 : (PySem.Str.ofString "gg" = PySem.Str.ofString "write") = False := eq_false (by decide +kernel)
@[simp] theorem nb_19_1 : (PySem.Str.ofString "gg" == PySem.Str.ofString "write") = false := by decide +kernel
@[simp] theorem ne_19_2 : (PySem.Str.ofString "gg" = PySem.Str.ofString "copy") = False := eq_false (by decide +kernel)
@[simp] theorem nb_19_2 : (PySem.Str.ofString "gg" == PySem.Str.ofString "copy") = false := by decide +kernel
@[simp] theorem ne_19_3 : (PySem.Str.ofString "gg" = PySem.Str.ofString "fence") = False := eq_false (by decide +kernel)
@[simp] theorem nb_19_3 : (PySem.Str.ofString "gg" == PySem.Str.ofString "fence") = false := by decide +kernel
@[simp] theorem ne_19_4 : (PySem.Str.ofString "gg" = PySem.Str.ofString "guard") = False := eq_false (by decide +kernel)
@[simp] theorem nb_19_4 : (PySem.Str.ofString "gg" == PySem.Str.ofString "guard") = false := by decide +kernel
@[simp] theorem ne_19_5 : (PySem.Str.ofString "gg" = PySem.Str.ofString "r") = False := eq_false (by decide +kernel)
@[simp] theorem nb_19_5 : (PySem.Str.ofString "gg" == PySem.Str.ofString "r") = false := by decide +kernel
@[simp] theorem ne_19_6 : (PySem.Str.ofString "gg" = PySem.Str.ofString "w") = False := eq_false (by decide +kernel)
@[simp] theorem nb_19_6 : (PySem.Str.ofString "gg" == PySem.Str.ofString "w") = false := by decide +kernel
@[simp] theorem ne_19_7 : (PySem.Str.ofString "gg" = PySem.Str.ofString "g") = False := eq_false (by decide +kernel)
@[simp] theorem nb_19_7 : (PySem.Str.ofString "gg" == PySem.Str.ofString "g") = false := by decide +kernel
@[simp] theorem ne_19_8 : (PySem.Str.ofString "gg" = PySem.Str.ofString "f") = False := eq_false (by decide +kernel)
@[simp] theorem nb_19_8 : (PySem.Str.ofString "gg" == PySem.Str.ofString "f") = false := by decide +kernel
@[simp] theorem ne_19_9 : (PySem.Str.ofString "gg" = PySem.Str.ofString "rr") = False := eq_false (by decide +kernel)
@[simp] theorem nb_19_9 : (PySem.Str.ofString "gg" == PySem.Str.ofString "rr") = false := by decide +kernel
@[simp] theorem ne_19_10 : (PySem.Str.ofString "gg" = PySem.Str.ofString "rw") = False := eq_false (by decide +kernel)
@[simp] theorem nb_19_10 : (PySem.Str.ofString "gg" == PySem.Str.ofString "rw") = false := by decide +kernel
@[simp] theorem ne_19_11 : (PySem.Str.ofString "gg" = PySem.Str.ofString "rg") = False := eq_false (by decide +kernel)
@[simp] theorem nb_19_11 : (PySem.Str.ofString "gg" == PySem.Str.ofString "rg") = false := by decide +kernel
@[simp] theorem ne_19_12 : (PySem.Str.ofString "gg" = PySem.Str.ofString "rf") = False := eq_false (by decide +kernel)
@[simp] theorem nb_19_12 : (PySem.Str.ofString "gg" == PySem.Str.ofString "rf") = false := by decide +kernel
@[simp] theorem ne_19_13 : (PySem.Str.ofString "gg" = PySem.Str.ofString "wr") = False := eq_false (by decide +kernel)
@[simp] theorem nb_19_13 : (PySem.Str.ofString "gg" == PySem.Str.ofString "wr") = false := by decide +kernel
@[simp] theorem ne_19_14 : (PySem.Str.ofString "gg" = PySem.Str.ofString "ww") = False := eq_false (by decide +kernel)
@[simp] theorem nb_19_14 : (PySem.Str.ofString "gg" == PySem.Str.ofString "ww") = false := by decide +kernel
@[simp] theorem ne_19_15 : (PySem.Str.ofString "gg" = PySem.Str.ofString "wg") = False := eq_false (by decide +kernel)
@[simp] theorem nb_19_15 : (PySem.Str.ofString "gg" == PySem.Str.ofString "wg") = false := by decide +kernel
@[simp] theorem ne_19_16 : (PySem.Str.ofString "gg" = PySem.Str.ofString "wf") = False := eq_false (by decide +kernel)
@[simp] theorem nb_19_16 : (PySem.Str.ofString "gg" == PySem.Str.ofString "wf") = false := by decide +kernel
@[simp] theorem ne_19_17 : (PySem.Str.ofString "gg" = PySem.Str.ofString "gr") = False := eq_false (by decide +kernel)
@[simp] theorem nb_19_17 : (PySem.Str.ofString "gg" == PySem.Str.ofString "gr") = false := by decide +kernel
@[simp] theorem ne_19_18 : (PySem.Str.ofString "gg" = PySem.Str.ofString "gw") = False := eq_false (by decide +kernel)
@[simp] theorem nb_19_18 : (PySem.Str.ofString "gg" == PySem.Str.ofString "gw") = false := by decide +kernel
@[simp] theorem ne_19_20 : (PySem.Str.ofString "gg" = PySem.Str.ofString "gf") = False := eq_false (by decide +kernel)
@[simp] theorem nb_19_20 : (PySem.Str.ofString "gg" == PySem.Str.ofString "gf") = false := by decide +kernel
@[simp] theorem ne_19_21 : (PySem.Str.ofString "gg" = PySem.Str.ofString "fr") = False := eq_false (by decide +kernel)
@[simp] theorem nb_19_21 : (PySem.Str.ofString "gg" == PySem.Str.ofString "fr") = false := by decide +kernel
@[simp] theorem ne_19_22 : (PySem.Str.ofString "gg" = PySem.Str.ofString "fw") = False := eq_false (by decide +kernel)
@[simp] theorem nb_19_22 : (PySem.Str.ofString "gg" == PySem.Str.ofString "fw") = false := by decide +kernel
@[simp] theorem ne_19_23 : (PySem.Str.ofString "gg" = PySem.Str.ofString "fg") = False := eq_false (by decide +kernel)
@[simp] theorem nb_19_23 : (PySem.Str.ofString "gg" == PySem.Str.ofString "fg") = false := by decide +kernel
@[simp] theorem ne_19_24 : (PySem.Str.ofString "gg" = PySem.Str.ofString "ff") = False := eq_false (by decide +kernel)
@[simp] theorem nb_19_24 : (PySem.Str.ofString "gg" == PySem.Str.ofString "ff") = false := by decide +kernel
@[simp] theorem ne_19_25 : (PySem.Str.ofString "gg" = PySem.Str.ofString "own") = False := eq_false (by decide +kernel)
@[simp] theorem nb_19_25 : (PySem.Str.ofString "gg" == PySem.Str.ofString "own") = false := by decide +kernel
@[simp] theorem ne_19_26 : (PySem.Str.ofString "gg" = PySem.Str.ofString "ss") = False := eq_false (by decide +kernel)
@[simp] theorem nb_19_26 : (PySem.Str.ofString "gg" == PySem.Str.ofString "ss") = false := by decide +kernel
@[simp] theorem ne_19_27 : (PySem.Str.ofString "gg" = PySem.Str.ofString "core") = False := eq_false (by decide +kernel)
@[simp] theorem nb_19_27 : (PySem.Str.ofString "gg" == PySem.Str.ofString "core") = false := by decide +kernel
@[simp] theorem ne_19_28 : (PySem.Str.ofString "gg" = PySem.Str.ofString "place") = False := eq_false (by decide +kernel)
@[simp] theorem nb_19_28 : (PySem.Str.ofString "gg" == PySem.Str.ofString "place") = false := by decide +kernel
@[simp] theorem ne_19_29 : (PySem.Str.ofString "gg" = PySem.Str.ofString "design") = False := eq_false (by decide +kernel)
@[simp] theorem nb_19_29 : (PySem.Str.ofString "gg" == PySem.Str.ofString "design") = false := by decide +kernel
@[simp] theorem ne_19_30 : (PySem.Str.ofString "gg" = PySem.Str.ofString "") = False := eq_false (by decide +kernel)
@[simp] theorem nb_19_30 : (PySem.Str.ofString "gg" == PySem.Str.ofString "") = false := by decide +kernel
@[simp] theorem ne_19_31 : (PySem.Str.ofString "gg" = PySem.Str.ofString "xx") = False := eq_false (by decide +kernel)
@[simp] theorem nb_19_31 : (PySem.Str.ofString "gg" == PySem.Str.ofString "xx") = false := by decide +kernel
@[simp] theorem ok_20 : PyData.strOk (PySem.Str.ofString "gf") = true := by decide +kernel
@[simp] theorem len_20 : (PySem.Str.ofString "gf").length = 2 := by decide +kernel
@[simp] theorem ne_20_0 : (PySem.Str.ofString "gf" = PySem.Str.ofString "read") = False := eq_false (by decide +kernel)
@[simp] theorem nb_20_0 : (PySem.Str.ofString "gf" == PySem.Str.ofString "read") = false := by decide +kernel
@[simp] theorem ne_20_1 : (PySem.Str.ofString "gf" = PySem.Str.ofString "write") = False := eq_false (by decide +kernel)
@[simp] theorem nb_20_1 : (PySem.Str.ofString "gf" == PySem.Str.ofString "write") = false := by decide +kernel
@[simp] theorem ne_20_2 : (PySem.Str.ofString "gf" = PySem.Str.ofString "copy") = False := eq_false (by decide +kernel)
@[simp] theorem nb_20_2 : (PySem.Str.ofString "gf" == PySem.Str.ofString "copy") = false := by decide +kernel
@[simp] theorem ne_20_3 : (PySem.Str.ofString "gf" = PySem.Str.ofString "fence") = False := eq_false (by decide +kernel)
@[simp] theorem nb_20_3 : (PySem.Str.ofString "gf" == PySem.Str.ofString "fence") = false := by decide +kernel
@[simp] theorem ne_20_4 : (PySem.Str.ofString "gf" = PySem.Str.ofString "guard") = False := eq_false (by decide +kernel)
@[simp] theorem nb_20_4 : (PySem.Str.ofString "gf" == PySem.Str.ofString "guard") = false := by decide +kernel
@[simp] theorem ne_20_5 : (PySem.Str.ofString "gf" = PySem.Str.ofString "r") = False := eq_false (by decide +kernel)
@[simp] theorem nb_20_5 : (PySem.Str.ofString "gf" == PySem.Str.ofString "r") = false := by decide +kernel
@[simp] theorem ne_20_6 : (PySem.Str.ofString "gf" = PySem.Str.ofString "w") = False := eq_false (by decide +kernel)
@[simp] theorem nb_20_6 : (PySem.Str.ofString "gf" == PySem.Str.ofString "w") = false := by decide +kernel
@[simp] theorem ne_20_7 : (PySem.Str.ofString "gf" = PySem.Str.ofString "g") = False := eq_false (by decide +kernel)
@[simp] theorem nb_20_7 : (PySem.Str.ofString "gf" == PySem.Str.ofString "g") = false := by decide +kernel
@[simp] theorem ne_20_8 : (PySem.Str.ofString "gf" = PySem.Str.ofString "f") = False := eq_false (by decide +kernel)
@[simp] theorem nb_20_8 : (PySem.Str.ofString "gf" == PySem.Str.ofString "f") = false := by decide +kernel
@[simp] theorem ne_20_9 : (PySem.Str.ofString "gf" = PySem.Str.ofString "rr") = False := eq_false (by decide +kernel)
@[simp] theorem nb_20_9 : (PySem.Str.ofString "gf" == PySem.Str.ofString "rr") = false := by decide +kernel
@[simp] theorem ne_20_10 : (PySem.Str.ofString "gf" = PySem.Str.ofString "rw") = False := eq_false (by decide +kernel)
@[simp] theorem nb_20_10 : (PySem.Str.ofString "gf" == PySem.Str.ofString "rw") = false := by decide +kernel
@[simp] theorem ne_20_11 : (PySem.Str.ofString "gf" = PySem.Str.ofString "rg") = False := eq_false (by decide +kernel)
@[simp] theorem nb_20_11 : (PySem.Str.ofString "gf" == PySem.Str.ofString "rg") = false := by decide +kernel
@[simp] theorem ne_20_12 : (PySem.Str.ofString "gf" = PySem.Str.ofString "rf") = False := eq_false (by decide +kernel)
@[simp] theorem nb_20_12 : (PySem.Str.ofString "gf" == PySem.Str.ofString "rf") = false := by decide +kernel
@[simp] theorem ne_20_13 : (PySem.Str.ofString "gf" = PySem.Str.ofString "wr") = False := eq_false (by decide +kernel)
@[simp] theorem nb_20_13 : (PySem.Str.ofString "gf" == PySem.Str.ofString "wr") = false := by decide +kernel
@[simp] theorem ne_20_14 : (PySem.Str.ofString "gf" = PySem.Str.ofString "ww") = False := eq_false (by decide +kernel)
@[simp] theorem nb_20_14 : (PySem.Str.ofString "gf" == PySem.Str.ofString "ww") = false := by decide +kernel
@[simp] theorem ne_20_15 : (PySem.Str.ofString "gf" = PySem.Str.ofString "wg") = False := eq_false (by decide +kernel)
@[simp] theorem nb_20_15 : (PySem.Str.ofString "gf" == PySem.Str.ofString "wg") = false := by decide +kernel
@[simp] theorem ne_20_16 : (PySem.Str.ofString "gf" = PySem.Str.ofString "wf") = False := eq_false (by decide +kernel)
@[simp] theorem nb_20_16 : (PySem.Str.ofString "gf" == PySem.Str.ofString "wf") = false := by decide +kernel
@[simp] theorem ne_20_17 : (PySem.Str.ofString "gf" = PySem.Str.ofString "gr") = False := eq_false (by decide +kernel)
@[simp] theorem nb_20_17 : (PySem.Str.ofString "gf" == PySem.Str.ofString "gr") = false := by decide +kernel
@[simp] theorem ne_20_18 : (PySem.Str.ofString "gf" = PySem.Str.ofString "gw") = False := eq_false (by decide +kernel)
@[simp] theorem nb_20_18 : (PySem.Str.ofString "gf" == PySem.Str.ofString "gw") = false := by decide +kernel
@[simp] theorem ne_20_19 : (PySem.Str.ofString "gf" = PySem.Str.ofString "gg") = False := eq_false (by decide +kernel)
@[simp] theorem nb_20_19 : (PySem.Str.ofString "gf" == PySem.Str.ofString "gg") = false := by decide +kernel
@[simp] theorem ne_20_21 : (PySem.Str.ofString "gf" = PySem.Str.ofString "fr") = False := eq_false (by decide +kernel)
@[simp] theorem nb_20_21 : (PySem.Str.ofString "gf" == PySem.Str.ofString "fr") = false := by decide +kernel
@[simp] theorem ne_20_22 : (PySem.Str.ofString "gf" = PySem.Str.ofString "fw") = False := eq_false (by decide +kernel)
@[simp] theorem nb_20_22 : (PySem.Str.ofString "gf" == PySem.Str.ofString "fw") = false := by decide +kernel
@[simp] theorem ne_20_23 : (PySem.Str.ofString "gf" = PySem.Str.ofString "fg") = False := eq_false (by decide +kernel)
@[simp] theorem nb_20_23 : (PySem.Str.ofString "gf" == PySem.Str.ofString "fg") = false := by decide +kernel
@[simp] theorem ne_20_24 : (PySem.Str.ofString "gf" = PySem.Str.ofString "ff") = False := eq_false (by decide +kernel)
@[simp] theorem nb_20_24 : (PySem.Str.ofString "gf" == PySem.Str.ofString "ff") = false := by decide +kernel
@[simp] theorem ne_20_25 : (PySem.Str.ofString "gf" = PySem.Str.ofString "own") = False := eq_false (by decide +kernel)
@[simp] theorem nb_20_25 : (PySem.Str.ofString "gf" == PySem.Str.ofString "own") = false := by decide +kernel
@[simp] theorem ne_20_26 : (PySem.Str.ofString "gf" = PySem.Str.ofString "ss") = False := eq_false (by decide +kernel)
@[simp] theorem nb_20_26 : (PySem.Str.ofString "gf" == PySem.Str.ofString "ss") = false := by decide +kernel
@[simp] theorem ne_20_27 : (PySem.Str.ofString "gf" = PySem.Str.ofString "core") = False := eq_false (by decide +kernel)
@[simp] theorem nb_20_27 : (PySem.Str.ofString "gf" == PySem.Str.ofString "core") = false := by decide +kernel
@[simp] theorem ne_20_28 : (PySem.Str.ofString "gf" = PySem.Str.ofString "place") = False := eq_false (by decide +kernel)
@[simp] theorem nb_20_28 : (PySem.Str.ofString "gf" == PySem.Str.ofString "place") = false := by decide +kernel
@[simp] theorem ne_20_29 : (PySem.Str.ofString "gf" = PySem.Str.ofString "design") = False := eq_false (by decide +kernel)
@[simp] theorem nb_20_29 : (PySem.Str.ofString "gf" == PySem.Str.ofString "design") = false := by decide +kernel
@[simp] theorem ne_20_30 : (PySem.Str.ofString "gf" = PySem.Str.ofString "") = False := eq_false (by decide +kernel)
@[simp] theorem nb_20_30 : (PySem.Str.ofString "gf" == PySem.Str.ofString "") = false := by decide +kernel
@[simp] theorem ne_20_31 : (PySem.Str.ofString "gf" = PySem.Str.ofString "xx") = False := eq_false (by decide +kernel)
@[simp] theorem nb_20_31 : (PySem.Str.ofString "gf" == PySem.Str.ofString "xx") = false := by decide +kernel
@[simp] theorem ok_21 : PyData.strOk (PySem.Str.ofString "fr") = true := by decide +kernel
@[simp] theorem len_21 : (PySem.Str.ofString "fr").length = 2 := by decide +kernel
@[simp] theorem ne_21_0 : (PySem.Str.ofString "fr" = PySem.Str.ofString "read") = False := eq_false (by decide +kernel)
@[simp] theorem nb_21_0 : (PySem.Str.ofString "fr" == PySem.Str.ofString "read") = false := by decide +kernel
@[simp] theorem ne_21_1 : (PySem.Str.ofString "fr" = PySem.Str.ofString "write") = False := eq_false (by decide +kernel)
@[simp] theorem nb_21_1 : (PySem.Str.ofString "fr" == PySem.Str.ofString "write") = false := by decide +kernel
@[simp] theorem ne_21_2 : (PySem.Str.ofString "fr" = PySem.Str.ofString "copy") = False := eq_false (by decide +kernel)
@[simp] theorem nb_21_2 : (PySem.Str.ofString "fr" == PySem.Str.ofString "copy") = false := by decide +kernel
@[simp] theorem ne_21_3 : (PySem.Str.ofString "fr" = PySem.Str.ofString "fence") = False := eq_false (by decide +kernel)
@[simp] theorem nb_21_3 : (PySem.Str.ofString "fr" == PySem.Str.ofString "fence") = false := by decide +kernel
@[simp] theorem ne_21_4 : (PySem.Str.ofString "fr" = PySem.Str.ofString "guard") = False := eq_false (by decide +kernel)
@[simp] theorem nb_21_4 : (PySem.Str.ofString "fr" == PySem.Str.ofString "guard") = false := by decide +kernel
@[simp] theorem ne_21_5 : (PySem.Str.ofString "fr" = PySem.Str.ofString "r") = False := eq_false (by decide +kernel)
@[simp] theorem nb_21_5 : (PySem.Str.ofString "fr" == PySem.Str.ofString "r") = false := by decide +kernel
@[simp] theorem ne_21_6 : (PySem.Str.ofString "fr" = PySem.Str.ofString "w") = False := eq_false (by decide +kernel)
@[simp] theorem nb_21_6 : (PySem.Str.ofString "fr" == PySem.Str.ofString "w") = false := by decide +kernel
@[simp] theorem ne_21_7 : (PySem.Str.ofString "fr" = PySem.Str.ofString "g") = False := eq_false (by decide +kernel)
@[simp] theorem nb_21_7 : (PySem.Str.ofString "fr" == PySem.Str.ofString "g") = false := by decide +kernel
@[simp] theorem ne_21_8 : (PySem.Str.ofString "fr" = PySem.Str.ofString "f") = False := eq_false (by decide +kernel)
@[simp] theorem nb_21_8 : (PySem.Str.ofString "fr" == PySem.Str.ofString "f") = false := by decide +kernel
@[simp] theorem ne_21_9 : (PySem.Str.ofString "fr" = PySem.Str.ofString "rr") = False := eq_false (by decide +kernel)
@[simp] theorem nb_21_9 : (PySem.Str.ofString "fr" == PySem.Str.ofString "rr") = false := by decide +kernel
@[simp] theorem ne_21_10 : (PySem.Str.ofString "fr" = PySem.Str.ofString "rw") = False := eq_false (by decide +kernel)
@[simp] theorem nb_21_10 : (PySem.Str.ofString "fr" == PySem.Str.ofString "rw") = false := by decide +kernel
@[simp] theorem ne_21_11 : (PySem.Str.ofString "fr" = PySem.Str.ofString "rg") = False := eq_false (by decide +kernel)
@[simp] theorem nb_21_11 : (PySem.Str.ofString "fr" == PySem.Str.ofString "rg") = false := by decide +kernel
@[simp] theorem ne_21_12 : (PySem.Str.ofString "fr" = PySem.Str.ofString "rf") = False := eq_false (by decide +kernel)
@[simp] theorem nb_21_12 : (PySem.Str.ofString "fr" == PySem.Str.ofString "rf") = false := by decide +kernel
@[simp] theorem ne_21_13 : (PySem.Str.ofString "fr" = PySem.Str.ofString "wr") = False := eq_false (by decide +kernel)
@[simp] theorem nb_21_13 : (PySem.Str.ofString "fr" == PySem.Str.ofString "wr") = false := by decide +kernel
@[simp] theorem ne_21_14 : (PySem.Str.ofString "fr" = PySem.Str.ofString "ww") = False := eq_false (by decide +kernel)
@[simp] theorem nb_21_14 : (PySem.Str.ofString "fr" == PySem.Str.ofString "ww") = false := by decide +kernel
@[simp] theorem ne_21_15 : (PySem.Str.ofString "fr" = PySem.Str.ofString "wg") = False := eq_false (by decide +kernel)
@[simp] theorem nb_21_15 : (PySem.Str.ofString "fr" == PySem.Str.ofString "wg") = false := by decide +kernel
@[simp] theorem ne_21_16 : (PySem.Str.ofString "fr" = PySem.Str.ofString "wf") = False := eq_false (by decide +kernel)
@[simp] theorem nb_21_16 : (PySem.Str.ofString "fr" == PySem.Str.ofString "wf") = false := by decide +kernel
@[simp] theorem ne_21_17 : (PySem.Str.ofString "fr" = PySem.Str.ofString "gr") = False := eq_false (by decide +kernel)
@[simp] theorem nb_21_17 : (PySem.Str.ofString "fr" == PySem.Str.ofString "gr") = false := by decide +kernel
@[simp] theorem ne_21_18 : (PySem.Str.ofString "fr" = PySem.Str.ofString "gw") = False := eq_false (by decide +kernel)
@[simp] theorem nb_21_18 : (PySem.Str.ofString "fr" == PySem.Str.ofString "gw") = false := by decide +kernel
@[simp] theorem ne_21_19 : (PySem.Str.ofString "fr" = PySem.Str.ofString "gg") = False := eq_false (by decide +kernel)
@[simp] theorem nb_21_19 : (PySem.Str.ofString "fr" == PySem.Str.ofString "gg") = false := by decide +kernel
@[simp] theorem ne_21_20 : (PySem.Str.ofString "fr" = PySem.Str.ofString "gf") = False := eq_false (by decide +kernel)
@[simp] theorem nb_21_20 : (PySem.Str.ofString "fr" == PySem.Str.ofString "gf") = false := by decide +kernel
@[simp] theorem ne_21_22 : (PySem.Str.ofString "fr" = PySem.Str.ofString "fw") = False := eq_false (by decide +kernel)
@[simp] theorem nb_21_22 : (PySem.Str.ofString "fr" == PySem.Str.ofString "fw") = false := by decide +kernel
@[simp] theorem ne_21_23 : (PySem.Str.ofString "fr" = PySem.Str.ofString "fg") = False := eq_false (by decide +kernel)
@[simp] theorem nb_21_23 : (PySem.Str.ofString "fr" == PySem.Str.ofString "fg") = false := by decide +kernel
@[simp] theorem ne_21_24 : (PySem.Str.ofString "fr" = PySem.Str.ofString "ff") = False := eq_false (by decide +kernel)
@[simp] theorem nb_21_24 : (PySem.Str.ofString "fr" == PySem.Str.ofString "ff") = false := by decide +kernel
@[simp] theorem ne_21_25 : (PySem.Str.ofString "fr" = PySem.Str.ofString "own") = False := eq_false (by decide +kernel)
@[simp] theorem nb_21_25 : (PySem.Str.ofString "fr" == PySem.Str.ofString "own") = false := by decide +kernel
@[simp] theorem ne_21_26 : (PySem.Str.ofString "fr" = PySem.Str.ofString "ss") = False := eq_false (by decide +kernel)
@[simp] theorem nb_21_26 : (PySem.Str.ofString "fr" == PySem.Str.ofString "ss") = false := by decide +kernel
@[simp] theorem ne_21_27 : (PySem.Str.ofString "fr" = PySem.Str.ofString "core") = False := eq_false (by decide +kernel)
@[simp] theorem nb_21_27 : (PySem.Str.ofString "fr" == PySem.Str.ofString "core") = false := by decide +kernel
@[simp] theorem ne_21_28 : (PySem.Str.ofString "fr" = PySem.Str.ofString "place") = False := eq_false (by decide +kernel)
@[simp] theorem nb_21_28 : (PySem.Str.ofString "fr" == PySem.Str.ofString "place") = false := by decide +kernel
@[simp] theorem ne_21_29 : (PySem.Str.ofString "fr" = PySem.Str.ofString "design") = False := eq_false (by decide +kernel)
@[simp] theorem nb_21_29 : (PySem.Str.ofString "fr" == PySem.Str.ofString "design") = false := by decide +kernel
@[simp] theorem ne_21_30 : (PySem.Str.ofString "fr" = PySem.Str.ofString "") = False := eq_false (by decide +kernel)
@[simp] theorem nb_21_30 : (PySem.Str.ofString "fr" == PySem.Str.ofString "") = false := by decide +kernel
@[simp] theorem ne_21_31 : (PySem.Str.ofString "fr" = PySem.Str.ofString "xx") = False := eq_false (by decide +kernel)
@[simp] theorem nb_21_31 : (PySem.Str.ofString "fr" == PySem.Str.ofString "xx") = false := by decide +kernel
@[simp] theorem ok_22 : PyData.strOk (PySem.Str.ofString "fw") = true := by decide +kernel
@[simp] theorem len_22 : (PySem.Str.ofString "fw").length = 2 := by decide +kernel
@[simp] theorem ne_22_0 : (PySem.Str.ofString "fw" = PySem.Str.ofString "read") = False := eq_false (by decide +kernel)
@[simp] theorem nb_22_0 : (PySem.Str.ofString "fw" == PySem.Str.ofString "read") = false := by decide +kernel
@[simp] theorem ne_22_1 : (PySem.Str.ofString "fw" = PySem.Str.ofString "write") = False := eq_false (by decide +kernel)
@[simp] theorem nb_22_1 : (PySem.Str.ofString "fw" == PySem.Str.ofString "write") = false := by decide +kernel
@[simp] theorem ne_22_2 : (PySem.Str.ofString "fw" = PySem.Str.ofString "copy") = False := eq_false (by decide +kernel)
@[simp] theorem nb_22_2 : (PySem.Str.ofString "fw" == PySem.Str.ofString "copy") = false := by decide +kernel
@[simp] theorem ne_22_3 : (PySem.Str.ofString "fw" = PySem.Str.ofString "fence") = False := eq_false (by decide +kernel)
@[simp] theorem nb_22_3 : (PySem.Str.ofString "fw" == PySem.Str.ofString "fence") = false := by decide +kernel
@[simp] theorem ne_22_4 : (PySem.Str.ofString "fw" = PySem.Str.ofString "guard") = False := eq_false (by decide +kernel)
@[simp] theorem nb_22_4 : (PySem.Str.ofString "fw" == PySem.Str.ofString "guard") = false := by decide +kernel
@[simp] theorem ne_22_5 : (PySem.Str.ofString "fw" = PySem.Str.ofString "r") = False := eq_false (by decide +kernel)
@[simp] theorem nb_22_5 : (PySem.Str.ofString "fw" == PySem.Str.ofString "r") = false := by decide +kernel
@[simp] theorem ne_22_6 : (PySem.Str.ofString "fw" = PySem.Str.ofString "w") = False := eq_false (by decide +kernel)
@[simp] theorem nb_22_6 : (PySem.Str.ofString "fw" == PySem.Str.ofString "w") = false := by decide +kernel
@[simp] theorem ne_22_7 : (PySem.Str.ofString "fw" = PySem.Str.ofString "g") = False := eq_false (by decide +kernel)
@[simp] theorem nb_22_7 : (PySem.Str.ofString "fw" == PySem.Str.ofString "g") = false := by decide +kernel
@[simp] theorem ne_22_8 : (PySem.Str.ofString "fw" = PySem.Str.ofString "f") = False := eq_false (by decide +kernel)
@[simp] theorem nb_22_8 : (PySem.Str.ofString "fw" == PySem.Str.ofString "f") = false := by decide +kernel
@[simp] theorem ne_22_9 : (PySem.Str.ofString "fw" = PySem.Str.ofString "rr") = False := eq_false (by decide +kernel)
@[simp] theorem nb_22_9 : (PySem.Str.ofString "fw" == PySem.Str.ofString "rr") = false := by decide +kernel
@[simp] theorem ne_22_10 : (PySem.Str.ofString "fw" = PySem.Str.ofString "rw") = False := eq_false (by decide +kernel)
@[simp] theorem nb_22_10 : (PySem.Str.ofString "fw" == PySem.Str.ofString "rw") = false := by decide +kernel
@[simp] theorem ne_22_11 : (PySem.Str.ofString "fw" = PySem.Str.ofString "rg") = False := eq_false (by decide +kernel)
@[simp] theorem nb_22_11 : (PySem.Str.ofString "fw" == PySem.Str.ofString "rg") = false := by decide +kernel
@[simp] theorem ne_22_12 : (PySem.Str.ofString "fw" = PySem.Str.ofString "rf") = False := eq_false (by decide +kernel)
@[simp] theorem nb_22_12 : (PySem.Str.ofString "fw" == PySem.Str.ofString "rf") = false := by decide +kernel
@[simp] theorem ne_22_13 : (PySem.Str.ofString "fw" = PySem.Str.ofString "wr") = False := eq_false (by decide +kernel)
@[simp] theorem nb_22_13 : (PySem.Str.ofString "fw" == PySem.Str.ofString "wr") = false := by decide +kernel
@[simp] theorem ne_22_14 : (PySem.Str.ofString "fw" = PySem.Str.ofString "ww") = False := eq_false (by decide +kernel)
@[simp] theorem nb_22_14 : (PySem.Str.ofString "fw" == PySem.Str.ofString "ww") = false := by decide +kernel
@[simp] theorem ne_22_15 : (PySem.Str.ofString "fw" = PySem.Str.ofString "wg") = False := eq_false (by decide +kernel)
@[simp] theorem nb_22_15 : (PySem.Str.ofString "fw" == PySem.Str.ofString "wg") = false := by decide +kernel
@[simp] theorem ne_22_16 : (PySem.Str.ofString "fw" = PySem.Str.ofString "wf") = False := eq_false (by decide +kernel)
@[simp] theorem nb_22_16 : (PySem.Str.ofString "fw" == PySem.Str.ofString "wf") = false := by decide +kernel
@[simp] theorem ne_22_17 : (PySem.Str.ofString "fw" = PySem.Str.ofString "gr") = False := eq_false (by decide +kernel)
@[simp] theorem nb_22_17 : (PySem.Str.ofString "fw" == PySem.Str.ofString "gr") = false := by decide +kernel
@[simp] theorem ne_22_18 : (PySem.Str.ofString "fw" = PySem.Str.ofString "gw") = False := eq_false (by decide +kernel)
@[simp] theorem nb_22_18 : (PySem.Str.ofString "fw" == PySem.Str.ofString "gw") = false := by decide +kernel
@[simp] theorem ne_22_19 : (PySem.Str.ofString "fw" = PySem.Str.ofString "gg") = False := eq_false (by decide +kernel)
@[simp] theorem nb_22_19 : (PySem.Str.ofString "fw" == PySem.Str.ofString "gg") = false := by decide +kernel
@[simp] theorem ne_22_20 : (PySem.Str.ofString "fw" = PySem.Str.ofString "gf") = False := eq_false (by decide +kernel)
@[simp] theorem nb_22_20 : (PySem.Str.ofString "fw" == PySem.Str.ofString "gf") = false := by decide +kernel
@[simp] theorem ne_22_21 : (PySem.Str.ofString "fw" = PySem.Str.ofString "fr") = False := eq_false (by decide +kernel)
@[simp] theorem nb_22_21 : (PySem.Str.ofString "fw" == PySem.Str.ofString "fr") = false := by decide +kernel
@[simp] theorem ne_22_23 : (PySem.Str.ofString "fw" = PySem.Str.ofString "fg") = False := eq_false (by decide +kernel)
@[simp] theorem nb_22_23 : (PySem.Str.ofString "fw" == PySem.Str.ofString "fg") = false := by decide +kernel
@[simp] theorem ne_22_24 : (PySem.Str.ofString "fw" = PySem.Str.ofString "ff") = False := eq_false (by decide +kernel)
@[simp] theorem nb_22_24 : (PySem.Str.ofString "fw" == PySem.Str.ofString "ff") = false := by decide +kernel
@[simp] theorem ne_22_25 : (PySem.Str.ofString "fw" = PySem.Str.ofString "own") = False := eq_false (by decide +kernel)
@[simp] theorem nb_22_25 : (PySem.Str.ofString "fw" == PySem.Str.ofString "own") = false := by decide +kernel
@[simp] theorem ne_22_26 : (PySem.Str.ofString "fw" = PySem.Str.ofString "ss") = False := eq_false (by decide +kernel)
@[simp] theorem nb_22_26 : (PySem.Str.ofString "fw" == PySem.Str.ofString "ss") = false := by decide +kernel
@[simp] theorem ne_22_27 : (PySem.Str.ofString "fw" = PySem.Str.ofString "core") = False := eq_false (by decide +kernel)
@[simp] theorem nb_22_27 : (PySem.Str.ofString "fw" == PySem.Str.ofString "core") = false := by decide +kernel
@[simp] theorem ne_22_28 : (PySem.Str.ofString "fw" = PySem.Str.ofString "place") = False := eq_false (by decide +kernel)
@[simp] theorem nb_22_28 : (PySem.Str.ofString "fw" == PySem.Str.ofString "place") = false := by decide +kernel
@[simp] theorem ne_22_29 : (PySem.Str.ofString "fw" = PySem.Str.ofString "design") = False := eq_false (by decide +kernel)
@[simp] theorem nb_22_29 : (PySem.Str.ofString "fw" == PySem.Str.ofString "design") = false := by decide +kernel
@[simp] theorem ne_22_30 : (PySem.Str.ofString "fw" = PySem.Str.ofString "") = False := eq_false (by decide +kernel)
@[simp] theorem nb_22_30 : (PySem.Str.ofString "fw" == PySem.Str.ofString "") = false := by decide +kernel
@[simp] theorem ne_22_31 : (PySem.Str.ofString "fw" = PySem.Str.ofString "xx") = False := eq_false (by decide +kernel)
@[simp] theorem nb_22_31 : (PySem.Str.ofString "fw" == PySem.Str.ofString "xx") = false := by decide +kernel
@[simp] theorem ok_23 : PyData.strOk (PySem.Str.ofString "fg") = true := by decide +kernel
@[simp] theorem len_23 : (PySem.Str.ofString "fg").length = 2 := by decide +kernel
@[simp] theorem ne_23_0 : (PySem.Str.ofString "fg" = PySem.Str.ofString "read") = False := eq_false (by decide +kernel)
@[simp] theorem nb_23_0 : (PySem.Str.ofString "fg" == PySem.Str.ofString "read") = false := by decide +kernel
@[simp] theorem ne_23_1 : (PySem.Str.ofString "fg" = PySem.Str.ofString "write") = False := eq_false (by decide +kernel)
@[simp] theorem nb_23_1 : (PySem.Str.ofString "fg" == PySem.Str.ofString "write") = false := by decide +kernel
@[simp] theorem ne_23_2 : (PySem.Str.ofString "fg" = PySem.Str.ofString "copy") = False := eq_false (by decide +kernel)
@[simp] theorem nb_23_2 : (PySem.Str.ofString "fg" == PySem.Str.ofString "copy") = false := by decide +kernel
@[simp] theorem ne_23_3 : (PySem.Str.ofString "fg" = PySem.Str.ofString "fence") = False := eq_false (by decide +kernel)
@[simp] theorem nb_23_3 : (PySem.Str.ofString "fg" == PySem.Str.ofString "fence") = false := by decide +kernel
@[simp] theorem ne_23_4 : (PySem.Str.ofString "fg" = PySem.Str.ofString "guard") = False := eq_false (by decide +kernel)
@[simp] theorem nb_23_4 : (PySem.Str.ofString "fg" == PySem.Str.ofString "guard") = false := by decide +kernel
@[simp] theorem ne_23_5 : (PySem.Str.ofString "fg" = PySem.Str.ofString "r") = False := eq_false (by decide +kernel)
@[simp] theorem nb_23_5 : (PySem.Str.ofString "fg" == PySem.Str.ofString "r") = false := by decide +kernel
@[simp] theorem ne_23_6 : (PySem.Str.ofString "fg" = PySem.Str.ofString "w") = False := eq_false (by decide +kernel)
@[simp] theorem nb_23_6 : (PySem.Str.ofString "fg" == PySem.Str.ofString "w") = false := by decide +kernel
@[simp] theorem ne_23_7 : (PySem.Str.ofString "fg" = PySem.Str.ofString "g") = False := eq_false (by decide +kernel)
@[simp] theorem nb_23_7 : (PySem.Str.ofString "fg" == PySem.Str.ofString "g") = false := by decide +kernel
@[simp] theorem ne_23_8 : (PySem.Str.ofString "fg" = PySem.Str.ofString "f") = False := eq_false (by decide +kernel)
@[simp] theorem nb_23_8 : (PySem.Str.ofString "fg" == PySem.Str.ofString "f") = false := by decide +kernel
@[simp] theorem ne_23_9 : (PySem.Str.ofString "fg" = PySem.Str.ofString "rr") = False := eq_false (by decide +kernel)
@[simp] theorem nb_23_9 : (PySem.Str.ofString "fg" == PySem.Str.ofString "rr") = false := by decide +kernel
@[simp] theorem ne_23_10 : (PySem.Str.ofString "fg" = PySem.Str.ofString "rw") = False := eq_false (by decide +kernel)
@[simp] theorem nb_23_10 : (PySem.Str.ofString "fg" == PySem.Str.ofString "rw") = false := by decide +kernel
@[simp] theorem ne_23_11 : (PySem.Str.ofString "fg" = PySem.Str.ofString "rg") = False := eq_false (by decide +kernel)
@[simp] theorem nb_23_11 : (PySem.Str.ofString "fg" == PySem.Str.ofString "rg") = false := by decide +kernel
@[simp] theorem ne_23_12 : (PySem.Str.ofString "fg" = PySem.Str.ofString "rf") = False := eq_false (by decide +kernel)
@[simp] theorem nb_23_12 : (PySem.Str.ofString "fg" == PySem.Str.ofString "rf") = false := by decide +kernel
@[simp] theorem ne_23_13 : (PySem.Str.ofString "fg" = PySem.Str.ofString "wr") = False := eq_false (by decide +kernel)
@[simp] theorem nb_23_13 : (PySem.Str.ofString "fg" == PySem.Str.ofString "wr") = false := by decide +kernel
@[simp] theorem ne_23_14 : (PySem.Str.ofString "fg" = PySem.Str.ofString "ww") = False := eq_false (by decide +kernel)
@[simp] theorem nb_23_14 : (PySem.Str.ofString "fg" == PySem.Str.ofString "ww") = false := by decide +kernel
@[simp] theorem ne_23_15 : (PySem.Str.ofString "fg" = PySem.Str.ofString "wg") = False := eq_false (by decide +kernel)
@[simp] theorem nb_23_15 : (PySem.Str.ofString "fg" == PySem.Str.ofString "wg") = false := by decide +kernel
@[simp] theorem ne_23_16 : (PySem.Str.ofString "fg" = PySem.Str.ofString "wf") = False := eq_false (by decide +kernel)
@[simp] theorem nb_23_16 : (PySem.Str.ofString "fg" == PySem.Str.ofString "wf") = false := by decide +kernel
@[simp] theorem ne_23_17 : (PySem.Str.ofString "fg" = PySem.Str.ofString "gr") = False := eq_false (by decide +kernel)
@[simp] theorem nb_23_17 : (PySem.Str.ofString "fg" == PySem.Str.ofString "gr") = false := by decide +kernel
@[simp] theorem ne_23_18 : (PySem.Str.ofString "fg" = PySem.Str.ofString "gw") = False := eq_false (by decide +kernel)
@[simp] theorem nb_23_18 : (PySem.Str.ofString "fg" == PySem.Str.ofString "gw") = false := by decide +kernel
@[simp] theorem ne_23_19 : (PySem.Str.ofString "fg" = PySem.Str.ofString "gg") = False := eq_false (by decide +kernel)
@[simp] theorem nb_23_19 : (PySem.Str.ofString "fg" == PySem.Str.ofString "gg") = false := by decide +kernel
@[simp] theorem ne_23_20 : (PySem.Str.ofString "fg" = PySem.Str.ofString "gf") = False := eq_false (by decide +kernel)
@[simp] theorem nb_23_20 : (PySem.Str.ofString "fg" == PySem.Str.ofString "gf") = false := by decide +kernel
@[simp] theorem ne_23_21 : (PySem.Str.ofString "fg" = PySem.Str.ofString "fr") = False := eq_false (by decide +kernel)
@[simp] theorem nb_23_21 : (PySem.Str.ofString "fg" == PySem.Str.ofString "fr") = false := by decide +kernel
@[simp] theorem ne_23_22 : (PySem.Str.ofString "fg" = PySem.Str.ofString "fw") = False := eq_false (by decide +kernel)
@[simp] theorem nb_23_22 : (PySem.Str.ofString "fg" == PySem.Str.ofString "fw") = false := by decide +kernel
@[simp] theorem ne_23_24 : (PySem.Str.ofString "fg" = PySem.Str.ofString "ff") = False := eq_false (by decide +kernel)
@[simp] theorem nb_23_24 : (PySem.Str.ofString "fg" == PySem.Str.ofString "ff") = false := by decide +kernel
@[simp] theorem ne_23_25 : (PySem.Str.ofString "fg" = PySem.Str.ofString "own") = False := eq_false (by decide +kernel)
@[simp] theorem nb_23_25 : (PySem.Str.ofString "fg" == PySem.Str.ofString "own") = false := by decide +kernel
@[simp] theorem ne_23_26 : (PySem.Str.ofString "fg" = PySem.Str.ofString "ss") = False := eq_false (by decide +kernel)
@[simp] theorem nb_23_26 : (PySem.Str.ofString "fg" == PySem.Str.ofString "ss") = false := by decide +kernel
@[simp] theorem ne_23_27 : (PySem.Str.ofString "fg" = PySem.Str.ofString "core") = False := eq_false (by decide +kernel)
@[simp] theorem nb_23_27 : (PySem.Str.ofString "fg" == PySem.Str.ofString "core") = false := by decide +kernel
@[simp] theorem ne_23_28 : (PySem.Str.ofString "fg" = PySem.Str.ofString "place") = False := eq_false (by decide +kernel)
@[simp] theorem nb_23_28 : (PySem.Str.ofString "fg" == PySem.Str.ofString "place") = false := by decide +kernel
@[simp] theorem ne_23_29 : (PySem.Str.ofString "fg" = PySem.Str.ofString "design") = False := eq_false (by decide +kernel)
@[simp] theorem nb_23_29 : (PySem.Str.ofString "fg" == PySem.Str.ofString "design") = false := by decide +kernel
@[simp] theorem ne_23_30 : (PySem.Str.ofString "fg" = PySem.Str.ofString "") = False := eq_false (by decide +kernel)
@[simp] theorem nb_23_30 : (PySem.Str.ofString "fg" == PySem.Str.ofString "") = false := by decide +kernel
@[simp] theorem ne_23_31 : (PySem.Str.ofString "fg" = PySem.Str.ofString "xx") = False := eq_false (by decide +kernel)
@[simp] theorem nb_23_31 : (PySem.Str.ofString "fg" == PySem.Str.ofString "xx") = false := by decide +kernel
@[simp] theorem ok_24 : PyData.strOk (PySem.Str.ofString "ff") = true := by decide +kernel
@[simp] theorem len_24 : (PySem.Str.ofString "ff").length = 2 := by decide +kernel
@[simp] theorem ne_24_0 : (PySem.Str.ofString "ff" = PySem.Str.ofString "read") = False := eq_false (by decide +kernel)
@[simp] theorem nb_24_0 : (PySem.Str.ofString "ff" == PySem.Str.ofString "read") = false := by decide +kernel
@[simp] theorem ne_24_1 : (PySem.Str.ofString "ff" = PySem.Str.ofString "write") = False := eq_false (by decide +kernel)
@[simp] theorem nb_24_1 : (PySem.Str.ofString "ff" == PySem.Str.ofString "write") = false := by decide +kernel
@[simp] theorem ne_24_2 : (PySem.Str.ofString "ff" = PySem.Str.ofString "copy") = False := eq_false (by decide +kernel)
@[simp] theorem nb_24_2 : (PySem.Str.ofString "ff" == PySem.Str.ofString "copy") = false := by decide +kernel
@[simp] theorem ne_24_3 : (PySem.Str.ofString "ff" = PySem.Str.ofString "fence") = False := eq_false (by decide +kernel)
@[simp] theorem nb_24_3 : (PySem.Str.ofString "ff" == PySem.Str.ofString "fence") = false := by decide +kernel
@[simp] theorem ne_24_4 : (PySem.Str.ofString "ff" = PySem.Str.ofString "guard") = False := eq_false (by decide +kernel)
@[simp] theorem nb_24_4 : (PySem.Str.ofString "ff" == PySem.Str.ofString "guard") = false := by decide +kernel
@[simp] theorem ne_24_5 : (PySem.Str.ofString "ff" = PySem.Str.ofString "r") = False := eq_false (by decide +kernel)
@[simp] theorem nb_24_5 : (PySem.Str.ofString "ff" == PySem.Str.ofString "r") = false := by decide +kernel
@[simp] theorem ne_24_6 : (PySem.Str.ofString "ff" = PySem.Str.ofString "w") = False := eq_false (by decide +kernel)
@[simp] theorem nb_24_6 : (PySem.Str.ofString "ff" == PySem.Str.ofString "w") = false := by decide +kernel
@[simp] theorem ne_24_7 : (PySem.Str.ofString "ff" = PySem.Str.ofString "g") = False := eq_false (by decide +kernel)
@[simp] theorem nb_24_7 : (PySem.Str.ofString "ff" == PySem.Str.ofString "g") = false := by decide +kernel
@[simp] theorem ne_24_8 : (PySem.Str.ofString "ff" = PySem.Str.ofString "f") = False := eq_false (by decide +kernel)
@[simp] theorem nb_24_8 : (PySem.Str.ofString "ff" == PySem.Str.ofString "f") = false := by decide +kernel
@[simp] theorem ne_24_9 : (PySem.Str.ofString "ff" = PySem.Str.ofString "rr") = False := eq_false (by decide +kernel)
@[simp] theorem nb_24_9 : (PySem.Str.ofString "ff" == PySem.Str.ofString "rr") = false := by decide +kernel
@[simp] theorem ne_24_10 : (PySem.Str.ofString "ff" = PySem.Str.ofString "rw") = False := eq_false (by decide +kernel)
@[simp] theorem nb_24_10 : (PySem.Str.ofString "ff" == PySem.Str.ofString "rw") = false := by decide +kernel
@[simp] theorem ne_24_11 : (PySem.Str.ofString "ff" = PySem.Str.ofString "rg") = False := eq_false (by decide +kernel)
@[simp] theorem nb_24_11 : (PySem.Str.ofString "ff" == PySem.Str.ofString "rg") = false := by decide +kernel
@[simp] theorem ne_24_12 : (PySem.Str.ofString "ff" = PySem.Str.ofString "rf") = False := eq_false (by decide +kernel)
@[simp] theorem nb_24_12 : (PySem.Str.ofString "ff" == PySem.Str.ofString "rf") = false := by decide +kernel
@[simp] theorem ne_24_13 : (PySem.Str.ofString "ff" = PySem.Str.ofString "wr") = False := eq_false (by decide +kernel)
@[simp] theorem nb_24_13 : (PySem.Str.ofString "ff" == PySem.Str.ofString "wr") = false := by decide +kernel
@[simp] theorem ne_24_14 : (PySem.Str.ofString "ff" = PySem.Str.ofString "ww") = False := eq_false (by decide +kernel)
@[simp] theorem nb_24_14 : (PySem.Str.ofString "ff" == PySem.Str.ofString "ww") = false := by decide +kernel
@[simp] theorem ne_24_15 : (PySem.Str.ofString "ff" = PySem.Str.ofString "wg") = False := eq_false (by decide +kernel)
@[simp] theorem nb_24_15 : (PySem.Str.ofString "ff" == PySem.Str.ofString "wg") = false := by decide +kernel
@[simp] theorem ne_24_16 : (PySem.Str.ofString "ff" = PySem.Str.ofString "wf") = False := eq_false (by decide +kernel)
@[simp] theorem nb_24_16 : (PySem.Str.ofString "ff" == PySem.Str.ofString "wf") = false := by decide +kernel
@[simp] theorem ne_24_17 : (PySem.Str.ofString "ff" = PySem.Str.ofString "gr") = False := eq_false (by decide +kernel)
@[simp] theorem nb_24_17 : (PySem.Str.ofString "ff" == PySem.Str.ofString "gr") = false := by decide +kernel
@[simp] theorem ne_24_18 : (PySem.Str.ofString "ff" = PySem.Str.ofString "gw") = False := eq_false (by decide +kernel)
@[simp] theorem nb_24_18 : (PySem.Str.ofString "ff" == PySem.Str.ofString "gw") = false := by decide +kernel
@[simp] theorem ne_24_19 : (PySem.Str.ofString "ff" = PySem.Str.ofString "gg") = False := eq_false (by decide +kernel)
@[simp] theorem nb_24_19 : (PySem.Str.ofString "ff" == PySem.Str.ofString "gg") = false := by decide +kernel
@[simp] theorem ne_24_20 : (PySem.Str.ofString "ff" = PySem.Str.ofString "gf") = False := eq_false (by decide +kernel)
@[simp] theorem nb_24_20 : (PySem.Str.ofString "ff" == PySem.Str.ofString "gf") = false := by decide +kernel
@[simp] theorem ne_24_21 : (PySem.Str.ofString "ff" = PySem.Str.ofString "fr") = False := eq_false (by decide +kernel)
@[simp] theorem nb_24_21 : (PySem.Str.ofString "ff" == PySem.Str.ofString "fr") = false := by decide +kernel
@[simp] theorem ne_24_22 : (PySem.Str.ofString "ff" = PySem.Str.ofString "fw") = False := eq_false (by decide +kernel)
@[simp] theorem nb_24_22 : (PySem.Str.ofString "ff" == PySem.Str.ofString "fw") = false := by decide +kernel
@[simp] theorem ne_24_23 : (PySem.Str.ofString "ff" = PySem.Str.ofString "fg") = False := eq_false (by decide +kernel)
@[simp] theorem nb_24_23 : (PySem.Str.ofString "ff" == PySem.Str.ofString "fg") = false := by decide +kernel
@[simp] theorem ne_24_25 : (PySem.Str.ofString "ff" = PySem.Str.ofString "own") = False := eq_false (by decide +kernel)
@[simp] theorem nb_24_25 : (PySem.Str.ofString "ff" == PySem.Str.ofString "own") = false := by decide +kernel
@[simp] theorem ne_24_26 : (PySem.Str.ofString "ff" = PySem.Str.ofString "ss") = False := eq_false (by decide +kernel)
@[simp] theorem nb_24_26 : (PySem.Str.ofString "ff" == PySem.Str.ofString "ss") = false := by decide +kernel
@[simp] theorem ne_24_27 : (PySem.Str.ofString "ff" = PySem.Str.ofString "core") = False := eq_false (by decide +kernel)
@[simp] theorem nb_24_27 : (PySem.Str.ofString "ff" == PySem.Str.ofString "core") = false := by decide +kernel
@[simp] theorem ne_24_28 : (PySem.Str.ofString "ff" = PySem.Str.ofString "place") = False := eq_false (by decide +kernel)
@[simp] theorem nb_24_28 : (PySem.Str.ofString "ff" == PySem.Str.ofString "place") = false := by decide +kernel
@[simp] theorem ne_24_29 : (PySem.Str.ofString "ff" = PySem.Str.ofString "design") = False := eq_false (by decide +kernel)
@[simp] theorem nb_24_29 : (PySem.Str.ofString "ff" == PySem.Str.ofString "design") = false := by decide +kernel
@[simp] theorem ne_24_30 : (PySem.Str.ofString "ff" = PySem.Str.ofString "") = False := eq_false (by decide +kernel)
@[simp] theorem nb_24_30 : (PySem.Str.ofString "ff" == PySem.Str.ofString "") = false := by decide +kernel
@[simp] theorem ne_24_31 : (PySem.Str.ofString "ff" = PySem.Str.ofString "xx") = False := eq_false (by decide +kernel)
@[simp] theorem nb_24_31 : (PySem.Str.ofString "ff" == PySem.Str.ofString "xx") = false := by decide +kernel
@[simp] theorem ok_25 : PyData.strOk (PySem.Str.ofString "own") = true := by decide +kernel
@[simp] theorem len_25 : (PySem.Str.ofString "own").length = 3 := by decide +kernel
@[simp] theorem ne_25_0 : (PySem.Str.ofString "own" = PySem.Str.ofString "read") = False := eq_false (by decide +kernel)
@[simp] theorem nb_25_0 : (PySem.Str.ofString "own" == PySem.Str.ofString "read") = false := by decide +kernel
@[simp] theorem ne_25_1 : (PySem.Str.ofString "own" = PySem.Str.ofString "write") = False := eq_false (by decide +kernel)
@[simp] theorem nb_25_1 : (PySem.Str.ofString "own" == PySem.Str.ofString "write") = false := by decide +kernel
@[simp] theorem ne_25_2 : (PySem.Str.ofString "own" = PySem.Str.ofString "copy") = False := eq_false (by decide +kernel)
@[simp] theorem nb_25_2 : (PySem.Str.ofString "own" == PySem.Str.ofString "copy") = false := by decide +kernel
@[simp] theorem ne_25_3 : (PySem.Str.ofString "own" = PySem.Str.ofString "fence") = False := eq_false (by decide +kernel)
@[simp] theorem nb_25_3 : (PySem.Str.ofString "own" == PySem.Str.ofString "fence") = false := by decide +kernel
@[simp] theorem ne_25_4 : (PySem.Str.ofString "own" = PySem.Str.ofString "guard") = False := eq_false (by decide +kernel)
@[simp] theorem nb_25_4 : (PySem.Str.ofString "own" == PySem.Str.ofString "guard") = false := by decide +kernel
@[simp] theorem ne_25_5 : (PySem.Str.ofString "own" = PySem.Str.ofString "r") = False := eq_false (by decide +kernel)
@[simp] theorem nb_25_5 : (PySem.Str.ofString "own" == PySem.Str.ofString "r") = false := by decide +kernel
@[simp] theorem ne_25_6 : (PySem.Str.ofString "own" = PySem.Str.ofString "w") = False := eq_false (by decide +kernel)
@[simp] theorem nb_25_6 : (PySem.Str.ofString "own" == PySem.Str.ofString "w") = false := by decide +kernel
@[simp] theorem ne_25_7 : (PySem.Str.ofString "own" = PySem.Str.ofString "g") = False := eq_false (by decide +kernel)
@[simp] theorem nb_25_7 : (PySem.Str.ofString "own" == PySem.Str.ofString "g") = false := by decide +kernel
@[simp] theorem ne_25_8 : (PySem.Str.ofString "own" = PySem.Str.ofString "f") = False := eq_false (by decide +kernel)
@[simp] theorem nb_25_8 : (PySem.Str.ofString "own" == PySem.Str.ofString "f") = false := by decide +kernel
@[simp] theorem ne_25_9 : (PySem.Str.ofString "own" = PySem.Str.ofString "rr") = False := eq_false (by decide +kernel)
@[simp] theorem nb_25_9 : (PySem.Str.ofString "own" == PySem.Str.ofString "rr") = false := by decide +kernel
@[simp] theorem ne_25_10 : (PySem.Str.ofString "own" = PySem.Str.ofString "rw") = False := eq_false (by decide +kernel)
@[simp] theorem nb_25_10 : (PySem.Str.ofString "own" == PySem.Str.ofString "rw") = false := by decide +kernel
@[simp] theorem ne_25_11 : (PySem.Str.ofString "own" = PySem.Str.ofString "rg") = False := eq_false (by decide +kernel)
@[simp] theorem nb_25_11 : (PySem.Str.ofString "own" == PySem.Str.ofString "rg") = false := by decide +kernel
@[simp] theorem ne_25_12 : (PySem.Str.ofString "own" = PySem.Str.ofString "rf") = False := eq_false (by decide +kernel)
@[simp] theorem nb_25_12 : (PySem.Str.ofString "own" == PySem.Str.ofString "rf") = false := by decide +kernel
@[simp] theorem ne_25_13 : (PySem.Str.ofString "own" = PySem.Str.ofString "wr") = False := eq_false (by decide +kernel)
@[simp] theorem nb_25_13 : (PySem.Str.ofString "own" == PySem.Str.ofString "wr") = false := by decide +kernel
@[simp] theorem ne_25_14 : (PySem.Str.ofString "own" = PySem.Str.ofString "ww") = False := eq_false (by decide +kernel)
@[simp] theorem nb_25_14 : (PySem.Str.ofString "own" == PySem.Str.ofString "ww") = false := by decide +kernel
@[simp] theorem ne_25_15 : (PySem.Str.ofString "own" = PySem.Str.ofString "wg") = False := eq_false (by decide +kernel)
@[simp] theorem nb_25_15 : (PySem.Str.ofString "own" == PySem.Str.ofString "wg") = false := by decide +kernel
@[simp] theorem ne_25_16 : (PySem.Str.ofString "own" = PySem.Str.ofString "wf") = False := eq_false (by decide +kernel)
@[simp] theorem nb_25_16 : (PySem.Str.ofString "own" == PySem.Str.ofString "wf") = false := by decide +kernel
@[simp] theorem ne_25_17 : (PySem.Str.ofString "own" = PySem.Str.ofString "gr") = False := eq_false (by decide +kernel)
@[simp] theorem nb_25_17 : (PySem.Str.ofString "own" == PySem.Str.ofString "gr") = false := by decide +kernel
@[simp] theorem ne_25_18 : (PySem.Str.ofString "own" = PySem.Str.ofString "gw") = False := eq_false (by decide +kernel)
@[simp] theorem nb_25_18 : (PySem.Str.ofString "own" == PySem.Str.ofString "gw") = false := by decide +kernel
@[simp] theorem ne_25_19 : (PySem.Str.ofString "own" = PySem.Str.ofString "gg") = False := eq_false (by decide +kernel)
@[simp] theorem nb_25_19 : (PySem.Str.ofString "own" == PySem.Str.ofString "gg") = false := by decide +kernel
@[simp] theorem ne_25_20 : (PySem.Str.ofString "own" = PySem.Str.ofString "gf") = False := eq_false (by decide +kernel)
@[simp] theorem nb_25_20 : (PySem.Str.ofString "own" == PySem.Str.ofString "gf") = false := by decide +kernel
@[simp] theorem ne_25_21 : (PySem.Str.ofString "own" = PySem.Str.ofString "fr") = False := eq_false (by decide +kernel)
@[simp] theorem nb_25_21 : (PySem.Str.ofString "own" == PySem.Str.ofString "fr") = false := by decide +kernel
@[simp] theorem ne_25_22 : (PySem.Str.ofString "own" = PySem.Str.ofString "fw") = False := eq_false (by decide +kernel)
@[simp] theorem nb_25_22 : (PySem.Str.ofString "own" == PySem.Str.ofString "fw") = false := by decide +kernel
@[simp] theorem ne_25_23 : (PySem.Str.ofString "own" = PySem.Str.ofString "fg") = False := eq_false (by decide +kernel)
@[simp] theorem nb_25_23 : (PySem.Str.ofString "own" == PySem.Str.ofString "fg") = false := by decide +kernel
@[simp] theorem ne_25_24 : (PySem.Str.ofString "own" = PySem.Str.ofString "ff") = False := eq_false (by decide +kernel)
@[simp] theorem nb_25_24 : (PySem.Str.ofString "own" == PySem.Str.ofString "ff") = false := by decide +kernel
@[simp] theorem ne_25_26 : (PySem.Str.ofString "own" = PySem.Str.ofString "ss") = False := eq_false (by decide +kernel)
@[simp] theorem nb_25_26 : (PySem.Str.ofString "own" == PySem.Str.ofString "ss") = false := by decide +kernel
@[simp] theorem ne_25_27 : (PySem.Str.ofString "own" = PySem.Str.ofString "core") = False := eq_false (by decide +kernel)
@[simp] theorem nb_25_27 : (PySem.Str.ofString "own" == PySem.Str.ofString "core") = false := by decide +kernel
@[simp] theorem ne_25_28 : (PySem.Str.ofString "own" = PySem.Str.ofString "place") = False := eq_false (by decide +kernel)
@[simp] theorem nb_25_28 : (PySem.Str.ofString "own" == PySem.Str.ofString "place") = false := by decide +kernel
@[simp] theorem ne_25_29 : (PySem.Str.ofString "own" = PySem.Str.ofString "design") = False := eq_false (by decide +kernel)
@[simp] theorem nb_25_29 : (PySem.Str.ofString "own" == PySem.Str.ofString "design") = false := by decide +kernel
@[simp] theorem ne_25_30 : (PySem.Str.ofString "own" = PySem.Str.ofString "") = False := eq_false (by decide +kernel)
@[simp] theorem nb_25_30 : (PySem.Str.ofString "own" == PySem.Str.ofString "") = false := by decide +kernel
@[simp] theorem ne_25_31 : (PySem.Str.ofString "own" = PySem.Str.ofString "xx") = False := eq_false (by decide +kernel)
@[simp] theorem nb_25_31 : (PySem.Str.ofString "own" == PySem.Str.ofString "xx") = false := by decide +kernel
@[simp] theorem ok_26 : PyData.strOk (PySem.Str.ofString "ss") = true := by decide +kernel
@[simp] theorem len_26 : (PySem.Str.ofString "ss").length = 2 := by decide +kernel
@[simp] theorem ne_26_0 : (PySem.Str.ofString "ss" = PySem.Str.ofString "read") = False := eq_false (by decide +kernel)
@[simp] theorem nb_26_0 : (PySem.Str.ofString "ss" == PySem.Str.ofString "read") = false := by decide +kernel
@[simp] theorem ne_26_1 : (PySem.Str.ofString "ss" = PySem.Str.ofString "write") = False := eq_false (by decide +kernel)
@[simp] theorem nb_26_1 : (PySem.Str.ofString "ss" == PySem.Str.ofString "write") = false := by decide +kernel
@[simp] theorem ne_26_2 : (PySem.Str.ofString "ss" = PySem.Str.ofString "copy") = False := eq_false (by decide +kernel)
@[simp] theorem nb_26_2 : (PySem.Str.ofString "ss" == PySem.Str.ofString "copy") = false := by decide +kernel
@[simp] theorem ne_26_3 : (PySem.Str.ofString "ss" = PySem.Str.ofString "fence") = False := eq_false (by decide +kernel)
@[simp] theorem nb_26_3 : (PySem.Str.ofString "ss" == PySem.Str.ofString "fence") = false := by decide +kernel
@[simp] theorem ne_26_4 : (PySem.Str.ofString "ss" = PySem.Str.ofString "guard") = False := eq_false (by decide +kernel)
@[simp] theorem nb_26_4 : (PySem.Str.ofString "ss" == PySem.Str.ofString "guard") = false := by decide +kernel
@[simp] theorem ne_26_5 : (PySem.Str.ofString "ss" = PySem.Str.ofString "r") = False := eq_false (by decide +kernel)
@[simp] theorem nb_26_5 : (PySem.Str.ofString "ss" == PySem.Str.ofString "r") = false := by decide +kernel
@[simp] theorem ne_26_6 : (PySem.Str.ofString "ss" = PySem.Str.ofString "w") = False := eq_false (by decide +kernel)
@[simp] theorem nb_26_6 : (PySem.Str.ofString "ss" == PySem.Str.ofString "w") = false := by decide +kernel
@[simp] theorem ne_26_7 : (PySem.Str.ofString "ss" = PySem.Str.ofString "g") = False := eq_false (by decide +kernel)
@[simp] theorem nb_26_7 : (PySem.Str.ofString "ss" == PySem.Str.ofString "g") = false := by decide +kernel
@[simp] theorem ne_26_8 : (PySem.Str.ofString "ss" = PySem.Str.ofString "f") = False := eq_false (by decide +kernel)
@[simp] theorem nb_26_8 : (PySem.Str.ofString "ss" == PySem.Str.ofString "f") = false := by decide +kernel
@[simp] theorem ne_26_9 : (PySem.Str.ofString "ss" = PySem.Str.ofString "rr") = False := eq_false (by decide +kernel)
@[simp] theorem nb_26_9 : (PySem.Str.ofString "ss" == PySem.Str.ofString "rr") = false := by decide +kernel
@[simp] theorem ne_26_10 : (PySem.Str.ofString "ss" = PySem.Str.ofString "rw") = False := eq_false (by decide +kernel)
@[simp] theorem nb_26_10 : (PySem.Str.ofString "ss" == PySem.Str.ofString "rw") = false := by decide +kernel
@[simp] theorem ne_26_11 : (PySem.Str.ofString "ss" = PySem.Str.ofString "rg") = False := eq_false (by decide +kernel)
@[simp] theorem nb_26_11 : (PySem.Str.ofString "ss" == PySem.Str.ofString "rg") = false := by decide +kernel
@[simp] theorem ne_26_12 : (PySem.Str.ofString "ss" = PySem.Str.ofString "rf") = False := eq_false (by decide +kernel)
@[simp] theorem nb_26_12 : (PySem.Str.ofString "ss" == PySem.Str.ofString "rf") = false := by decide +kernel
@[simp] theorem ne_26_13 : (PySem.Str.ofString "ss" = PySem.Str.ofString "wr") = False := eq_false (by decide +kernel)
@[simp] theorem nb_26_13 : (PySem.Str.ofString "ss" == PySem.Str.ofString "wr") = false := by decide +kernel
@[simp] theorem ne_26_14 : (PySem.Str.ofString "ss" = PySem.Str.ofString "ww") = False := eq_false (by decide +kernel)
@[simp] theorem nb_26_14 : (PySem.Str.ofString "ss" == PySem.Str.ofString "ww") = false := by decide +kernel
@[simp] theorem ne_26_15 : (PySem.Str.ofString "ss" = PySem.Str.ofString "wg") = False := eq_false (by decide +kernel)
@[simp] theorem nb_26_15 : (PySem.Str.ofString "ss" == PySem.Str.ofString "wg") = false := by decide +kernel
@[simp] theorem ne_26_16 : (PySem.Str.ofString "ss" = PySem.Str.ofString "wf") = False := eq_false (by decide +kernel)
@[simp] theorem nb_26_16 : (PySem.Str.ofString "ss" == PySem.Str.ofString "wf") = false := by decide +kernel
@[simp] theorem ne_26_17 : (PySem.Str.ofString "ss" = PySem.Str.ofString "gr") = False := eq_false (by decide +kernel)
@[simp] theorem nb_26_17 : (PySem.Str.ofString "ss" == PySem.Str.ofString "gr") = false := by decide +kernel
@[simp] theorem ne_26_18 : (PySem.Str.ofString "ss" = PySem.Str.ofString "gw") = False := eq_false (by decide +kernel)
@[simp] theorem nb_26_18 : (PySem.Str.ofString "ss" == PySem.Str.ofString "gw") = false := by decide +kernel
@[simp] theorem ne_26_19 : (PySem.Str.ofString "ss" = PySem.Str.ofString "gg") = False := eq_false (by decide +kernel)
@[simp] theorem nb_26_19 : (PySem.Str.ofString "ss" == PySem.Str.ofString "gg") = false := by decide +kernel
@[simp] theorem ne_26_20 : (PySem.Str.ofString "ss" = PySem.Str.ofString "gf") = False := eq_false (by decide +kernel)
@[simp] theorem nb_26_20 : (PySem.Str.ofString "ss" == PySem.Str.ofString "gf") = false := by decide +kernel
@[simp] theorem ne_26_21 : (PySem.Str.ofString "ss" = PySem.Str.ofString "fr") = False := eq_false (by decide +kernel)
@[simp] theorem nb_26_21 : (PySem.Str.ofString "ss" == PySem.Str.ofString "fr") = false := by decide +kernel
@[simp] theorem ne_26_22 : (PySem.Str.ofString "ss" = PySem.Str.ofString "fw") = False := eq_false (by decide +kernel)
@[simp] theorem nb_26_22 : (PySem.Str.ofString "ss" == PySem.Str.ofString "fw") = false := by decide +kernel
@[simp] theorem ne_26_23 : (PySem.Str.ofString "ss" = PySem.Str.ofString "fg") = False := eq_false (by decide +kernel)
@[simp] theorem nb_26_23 : (PySem.Str.ofString "ss" == PySem.Str.ofString "fg") = false := by decide +kernel
@[simp] theorem ne_26_24 : (PySem.Str.ofString "ss" = PySem.Str.ofString "ff") = False := eq_false (by decide +kernel)
@[simp] theorem nb_26_24 : (PySem.Str.ofString "ss" == PySem.Str.ofString "ff") = false := by decide +kernel
@[simp] theorem ne_26_25 : (PySem.Str.ofString "ss" = PySem.Str.ofString "own") = False := eq_false (by decide +kernel)
@[simp] theorem nb_26_25 : (PySem.Str.ofString "ss" == PySem.Str.ofString "own") = false := by decide +kernel
@[simp] theorem ne_26_27 : (PySem.Str.ofString "ss" = PySem.Str.ofString "core") = False := eq_false (by decide +kernel)
@[simp] theorem nb_26_27 : (PySem.Str.ofString "ss" == PySem.Str.ofString "core") = false := by decide +kernel
@[simp] theorem ne_26_28 : (PySem.Str.ofString "ss" = PySem.Str.ofString "place") = False := eq_false (by decide +kernel)
@[simp] theorem nb_26_28 : (PySem.Str.ofString "ss" == PySem.Str.ofString "place") = false := by decide +kernel
@[simp] theorem ne_26_29 : (PySem.Str.ofString "ss" = PySem.Str.ofString "design") = False := eq_false (by decide +kernel)
@[simp] theorem nb_26_29 : (PySem.Str.ofString "ss" == PySem.Str.ofString "design") = false := by decide +kernel
@[simp] theorem ne_26_30 : (PySem.Str.ofString "ss" = PySem.Str.ofString "") = False := eq_false (by decide +kernel)
@[simp] theorem nb_26_30 : (PySem.Str.ofString "ss" == PySem.Str.ofString "") = false := by decide +kernel
@[simp] theorem ne_26_31 : (PySem.Str.ofString "ss" = PySem.Str.ofString "xx") = False := eq_false (by decide +kernel)
@[simp] theorem nb_26_31 : (PySem.Str.ofString "ss" == PySem.Str.ofString "xx") = false := by decide +kernel
@[simp] theorem ok_27 : PyData.strOk (PySem.Str.ofString "core") = true := by decide +kernel
@[simp] theorem len_27 : (PySem.Str.ofString "core").length = 4 := by decide +kernel
@[simp] theorem ne_27_0 : (PySem.Str.ofString "core" = PySem.Str.ofString "read") = False := eq_false (by decide +kernel)
@[simp] theorem nb_27_0 : (PySem.Str.ofString "core" == PySem.Str.ofString "read") = false := by decide +kernel
@[simp] theorem ne_27_1 : (PySem.Str.ofString "core" = PySem.Str.ofString "write") = False := eq_false (by decide +kernel)
@[simp] theorem nb_27_1 : (PySem.Str.ofString "core" == PySem.Str.ofString "write") = false := by decide +kernel
@[simp] theorem ne_27_2 : (PySem.Str.ofString "core" = PySem.Str.ofString "copy") = False := eq_false (by decide +kernel)
@[simp] theorem nb_27_2 : (PySem.Str.ofString "core" == PySem.Str.ofString "copy") = false := by decide +kernel
@[simp] theorem ne_27_3 : (PySem.Str.ofString "core" = PySem.Str.ofString "fence") = False := eq_false (by decide +kernel)
@[simp] theorem nb_27_3 : (PySem.Str.ofString "core" == PySem.Str.ofString "fence") = false := by decide +kernel
@[simp] theorem ne_27_4 : (PySem.Str.ofString "core" = PySem.Str.ofString "guard") = False := eq_false (by decide +kernel)
@[simp] theorem nb_27_4 : (PySem.Str.ofString "core" == PySem.Str.ofString "guard") = false := by decide +kernel
@[simp] theorem ne_27_5 : (PySem.Str.ofString "core" = PySem.Str.ofString "r") = False := eq_false (by decide +kernel)
@[simp] theorem nb_27_5 : (PySem.Str.ofString "core" == PySem.Str.ofString "r") = false := by decide +kernel
@[simp] theorem ne_27_6 : (PySem.Str.ofString "core" = PySem.Str.ofString "w") = False := eq_false (by decide +kernel)
@[simp] theorem nb_27_6 : (PySem.Str.ofString "core" == PySem.Str.ofString "w") = false := by decide +kernel
@[simp] theorem ne_27_7 : (PySem.Str.ofString "core" = PySem.Str.ofString "g") = False := eq_false (by decide +kernel)
@[simp] theorem nb_27_7 : (PySem.Str.ofString "core" == PySem.Str.ofString "g") = false := by decide +kernel
@[simp] theorem ne_27_8 : (PySem.Str.ofString "core" = PySem.Str.ofString "f") = False := eq_false (by decide +kernel)
@[simp] theorem nb_27_8 : (PySem.Str.ofString "core" == PySem.Str.ofString "f") = false := by decide +kernel
@[simp] theorem ne_27_9 : (PySem.Str.ofString "core" = PySem.Str.ofString "rr") = False := eq_false (by decide +kernel)
@[simp] theorem nb_27_9 : (PySem.Str.ofString "core" == PySem.Str.ofString "rr") = false := by decide +kernel
@[simp] theorem ne_27_10 : (PySem.Str.ofString "core" = PySem.Str.ofString "rw") = False := eq_false (by decide +kernel)
@[simp] theorem nb_27_10 : (PySem.Str.ofString "core" == PySem.Str.ofString "rw") = false := by decide +kernel
@[simp] theorem ne_27_11 : (PySem.Str.ofString "core" = PySem.Str.ofString "rg") = False := eq_false (by decide +kernel)
@[simp] theorem nb_27_11 : (PySem.Str.ofString "core" == PySem.Str.ofString "rg") = false := by decide +kernel
@[simp] theorem ne_27_12 : (PySem.Str.ofString "core" = PySem.Str.ofString "rf") = False := eq_false (by decide +kernel)
@[simp] theorem nb_27_12 : (PySem.Str.ofString "core" == PySem.Str.ofString "rf") = false := by decide +kernel
@[simp] theorem ne_27_13 : (PySem.Str.ofString "core" = PySem.Str.ofString "wr") = False := eq_false (by decide +kernel)
@[simp] theorem nb_27_13 : (PySem.Str.ofString "core" == PySem.Str.ofString "wr") = false := by decide +kernel
@[simp] theorem ne_27_14 : (PySem.Str.ofString "core" = PySem.Str.ofString "ww") = False := eq_false (by decide +kernel)
@[simp] theorem nb_27_14 : (PySem.Str.ofString "core" == PySem.Str.ofString "ww") = false := by decide +kernel
@[simp] theorem ne_27_15 : (PySem.Str.ofString "core" = PySem.Str.ofString "wg") = False := eq_false (by decide +kernel)
@[simp] theorem nb_27_15 : (PySem.Str.ofString "core" == PySem.Str.ofString "wg") = false := by decide +kernel
@[simp] theorem ne_27_16 : (PySem.Str.ofString "core" = PySem.Str.ofString "wf") = False := eq_false (by decide +kernel)
@[simp] theorem nb_27_16 : (PySem.Str.ofString "core" == PySem.Str.ofString "wf") = false := by decide +kernel
@[simp] theorem ne_27_17 : (PySem.Str.ofString "core" = PySem.Str.ofString "gr") = False := eq_false (by decide +kernel)
@[simp] theorem nb_27_17 : (PySem.Str.ofString "core" == PySem.Str.ofString "gr") = false := by decide +kernel
@[simp] theorem ne_27_18 : (PySem.Str.ofString "core" = PySem.Str.ofString "gw") = False := eq_false (by decide +kernel)
@[simp] theorem nb_27_18 : (PySem.Str.ofString "core" == PySem.Str.ofString "gw") = false := by decide +kernel
@[simp] theorem ne_27_19 : (PySem.Str.ofString "core" = PySem.Str.ofString "gg") = False := eq_false (by decide +kernel)
@[simp] theorem nb_27_19 : (PySem.Str.ofString "core" == PySem.Str.ofString "gg") = false := by decide +kernel
@[simp] theorem ne_27_20 : (PySem.Str.ofString "core" = PySem.Str.ofString "gf") = False := eq_false (by decide +kernel)
@[simp] theorem nb_27_20 : (PySem.Str.ofString "core" == PySem.Str.ofString "gf") = false := by decide +kernel
@[simp] theorem ne_27_21 : (PySem.Str.ofString "core" = PySem.Str.ofString "fr") = False := eq_false (by decide +kernel)
@[simp] theorem nb_27_21 : (PySem.Str.ofString "core" == PySem.Str.ofString "fr") = false := by decide +kernel
@[simp] theorem ne_27_22 : (PySem.Str.ofString "core" = PySem.Str.ofString "fw") = False := eq_false (by decide +kernel)
@[simp] theorem nb_27_22 : (PySem.Str.ofString "core" == PySem.Str.ofString "fw") = false := by decide +kernel
@[simp] theorem ne_27_23 : (PySem.Str.ofString "core" = PySem.Str.ofString "fg") = False := eq_false (by decide +kernel)
@[simp] theorem nb_27_23 : (PySem.Str.ofString "core" == PySem.Str.ofString "fg") = false := by decide +kernel
@[simp] theorem ne_27_24 : (PySem.Str.ofString "core" = PySem.Str.ofString "ff") = False := eq_false (by decide +kernel)
@[simp] theorem nb_27_24 : (PySem.Str.ofString "core" == PySem.Str.ofString "ff") = false := by decide +kernel
@[simp] theorem ne_27_25 : (PySem.Str.ofString "core" = PySem.Str.ofString "own") = False := eq_false (by decide +kernel)
@[simp] theorem nb_27_25 : (PySem.Str.ofString "core" == PySem.Str.ofString "own") = false := by decide +kernel
@[simp] theorem ne_27_26 : (PySem.Str.ofString "core" = PySem.Str.ofString "ss") = False := eq_false (by decide +kernel)
@[simp] theorem nb_27_26 : (PySem.Str.ofString "core" == PySem.Str.ofString "ss") = false := by decide +kernel
@[simp] theorem ne_27_28 : (PySem.Str.ofString "core" = PySem.Str.ofString "place") = False := eq_false (by decide +kernel)
@[simp] theorem nb_27_28 : (PySem.Str.ofString "core" == PySem.Str.ofString "place") = false := by decide +kernel
@[simp] theorem ne_27_29 : (PySem.Str.ofString "core" = PySem.Str.ofString "design") = False := eq_false (by decide +kernel)
@[simp] theorem nb_27_29 : (PySem.Str.ofString "core" == PySem.Str.ofString "design") = false := by decide +kernel
@[simp] theorem ne_27_30 : (PySem.Str.ofString "core" = PySem.Str.ofString "") = False := eq_false (by decide +kernel)
@[simp] theorem nb_27_30 : (PySem.Str.ofString "core" == PySem.Str.ofString "") = false := by decide +kernel
@[simp] theorem ne_27_31 : (PySem.Str.ofString "core" = PySem.Str.ofString "xx") = False := eq_false (by decide +kernel)
@[simp] theorem nb_27_31 : (PySem.Str.ofString "core" == PySem.Str.ofString "xx") = false := by decide +kernel
@[simp] theorem ok_28 : PyData.strOk (PySem.Str.ofString "place") = true := by decide +kernel
@[simp] theorem len_28 : (PySem.Str.ofString "place").length = 5 := by decide +kernel
@[simp] theorem ne_28_0 : (PySem.Str.ofString "place" = PySem.Str.ofString "read") = False := eq_false (by decide +kernel)
@[simp] theorem nb_28_0 : (PySem.Str.ofString "place" == PySem.Str.ofString "read") = false := by decide +kernel
@[simp] theorem ne_28_1 : (PySem.Str.ofString "place" = PySem.Str.ofString "write") = False := eq_false (by decide +kernel)
@[simp] theorem nb_28_1 : (PySem.Str.ofString "place" == PySem.Str.ofString "write") = false := by decide +kernel
@[simp] theorem ne_28_2 : (PySem.Str.ofString "place" = PySem.Str.ofString "copy") = False := eq_false (by decide +kernel)
@[simp] theorem nb_28_2 : (PySem.Str.ofString "place" == PySem.Str.ofString "copy") = false := by decide +kernel
@[simp] theorem ne_28_3 : (PySem.Str.ofString "place" = PySem.Str.ofString "fence") = False := eq_false (by decide +kernel)
@[simp] theorem nb_28_3 : (PySem.Str.ofString "place" == PySem.Str.ofString "fence") = false := by decide +kernel
@[simp] theorem ne_28_4 : (PySem.Str.ofString "place" = PySem.Str.ofString "guard") = False := eq_false (by decide +kernel)
@[simp] theorem nb_28_4 : (PySem.Str.ofString "place" == PySem.Str.ofString "guard") = false := by decide +kernel
@[simp] theorem ne_28_5 : (PySem.Str.ofString "place" = PySem.Str.ofString "r") = False := eq_false (by decide +kernel)
@[simp] theorem nb_28_5 : (PySem.Str.ofString "place" == PySem.Str.ofString "r") = false := by decide +kernel
@[simp] theorem ne_28_6 : (PySem.Str.ofString "place" = PySem.Str.ofString "w") = False := eq_false (by decide +kernel)
@[simp] theorem nb_28_6 : (PySem.Str.ofString "place" == PySem.Str.ofString "w") = false := by decide +kernel
@[simp] theorem ne_28_7 : (PySem.Str.ofString "place" = PySem.Str.ofString "g") = False := eq_false (by decide +kernel)
@[simp] theorem nb_28_7 : (PySem.Str.ofString "place" == PySem.Str.ofString "g") = false := by decide +kernel
@[simp] theorem ne_28_8 : (PySem.Str.ofString "place" = PySem.Str.ofString "f") = False := eq_false (by decide +kernel)
@[simp] theorem nb_28_8 : (PySem.Str.ofString "place" == PySem.Str.ofString "f") = false := by decide +kernel
@[simp] theorem ne_28_9 : (PySem.Str.ofString "place" = PySem.Str.ofString "rr") = False := eq_false (by decide +kernel)
@[simp] theorem nb_28_9 : (PySem.Str.ofString "place" == PySem.Str.ofString "rr") = false := by decide +kernel
@[simp] theorem ne_28_10 : (PySem.Str.ofString "place" = PySem.Str.ofString "rw") = False := eq_false (by decide +kernel)
@[simp] theorem nb_28_10 : (PySem.Str.ofString "place" == PySem.Str.ofString "rw") = false := by decide +kernel
@[simp] theorem ne_28_11 : (PySem.Str.ofString "place" = PySem.Str.ofString "rg") = False := eq_false (by decide +kernel)
@[simp] theorem nb_28_11 : (PySem.Str.ofString "place" == PySem.Str.ofString "rg") = false := by decide +kernel
@[simp] theorem ne_28_12 : (PySem.Str.ofString "place" = PySem.Str.ofString "rf") = False := eq_false (by decide +kernel)
@[simp] theorem nb_28_12 : (PySem.Str.ofString "place" == PySem.Str.ofString "rf") = false := by decide +kernel
@[simp] theorem ne_28_13 : (PySem.Str.ofString "place" = PySem.Str.ofString "wr") = False := eq_false (by decide +kernel)
@[simp] theorem nb_28_13 : (PySem.Str.ofString "place" == PySem.Str.ofString "wr") = false := by decide +kernel
@[simp] theorem ne_28_14 : (PySem.Str.ofString "place" = PySem.Str.ofString "ww") = False := eq_false (by decide +kernel)
@[simp] theorem nb_28_14 : (PySem.Str.ofString "place" == PySem.Str.ofString "ww") = false := by decide +kernel
@[simp] theorem ne_28_15 : (PySem.Str.ofString "place" = PySem.Str.ofString "wg") = False := eq_false (by decide +kernel)
@[simp] theorem nb_28_15 : (PySem.Str.ofString "place" == PySem.Str.ofString "wg") = false := by decide +kernel
@[simp] theorem ne_28_16 : (PySem.Str.ofString "place" = PySem.Str.ofString "wf") = False := eq_false (by decide +kernel)
@[simp] theorem nb_28_16 : (PySem.Str.ofString "place" == PySem.Str.ofString "wf") = false := by decide +kernel
@[simp] theorem ne_28_17 : (PySem.Str.ofString "place" = PySem.Str.ofString "gr") = False := eq_false (by decide +kernel)
@[simp] theorem nb_28_17 : (PySem.Str.ofString "place" == PySem.Str.ofString "gr") = false := by decide +kernel
@[simp] theorem ne_28_18 : (PySem.Str.ofString "place" = PySem.Str.ofString "gw") = False := eq_false (by decide +kernel)
@[simp] theorem nb_28_18 : (PySem.Str.ofString "place" == PySem.Str.ofString "gw") = false := by decide +kernel
@[simp] theorem ne_28_19 : (PySem.Str.ofString "place" = PySem.Str.ofString "gg") = False := eq_false (by decide +kernel)
@[simp] theorem nb_28_19 : (PySem.Str.ofString "place" == PySem.Str.ofString "gg") = false := by decide +kernel
@[simp] theorem ne_28_20 : (PySem.Str.ofString "place" = PySem.Str.ofString "gf") = False := eq_false (by decide +kernel)
@[simp] theorem nb_28_20 : (PySem.Str.ofString "place" == PySem.Str.ofString "gf") = false := by decide +kernel
@[simp] theorem ne_28_21 : (PySem.Str.ofString "place" = PySem.Str.ofString "fr") = False := eq_false (by decide +kernel)
@[simp] theorem nb_28_21 : (PySem.Str.ofString "place" == PySem.Str.ofString "fr") = false := by decide +kernel
@[simp] theorem ne_28_22 : (PySem.Str.ofString "place" = PySem.Str.ofString "fw") = False := eq_false (by decide +kernel)
@[simp] theorem nb_28_22 : (PySem.Str.ofString "place" == PySem.Str.ofString "fw") = false := by decide +kernel
@[simp] theorem ne_28_23 : (PySem.Str.ofString "place" = PySem.Str.ofString "fg") = False := eq_false (by decide +kernel)
@[simp] theorem nb_28_23 : (PySem.Str.ofString "place" == PySem.Str.ofString "fg") = false := by decide +kernel
@[simp] theorem ne_28_24 : (PySem.Str.ofString "place" = PySem.Str.ofString "ff") = False := eq_false (by decide +kernel)
@[simp] theorem nb_28_24 : (PySem.Str.ofString "place" == PySem.Str.ofString "ff") = false := by decide +kernel
@[simp] theorem ne_28_25 : (PySem.Str.ofString "place" = PySem.Str.ofString "own") = False := eq_false (by decide +kernel)
@[simp] theorem nb_28_25 : (PySem.Str.ofString "place" == PySem.Str.ofString "own") = false := by decide +kernel
@[simp] theorem ne_28_26 : (PySem.Str.ofString "place" = PySem.Str.ofString "ss") = False := eq_false (by decide +kernel)
@[simp] theorem nb_28_26 : (PySem.Str.ofString "place" == PySem.Str.ofString "ss") = false := by decide +kernel
@[simp] theorem ne_28_27 : (PySem.Str.ofString "place" = PySem.Str.ofString "core") = False := eq_false (by decide +kernel)
@[simp] theorem nb_28_27 : (PySem.Str.ofString "place" == PySem.Str.ofString "core") = false := by decide +kernel
@[simp] theorem ne_28_29 : (PySem.Str.ofString "place" = PySem.Str.ofString "design") = False := eq_false (by decide +kernel)
@[simp] theorem nb_28_29 : (PySem.Str.ofString "place" == PySem.Str.ofString "design") = false := by decide +kernel
@[simp] theorem ne_28_30 : (PySem.Str.ofString "place" = PySem.Str.ofString "") = False := eq_false (by decide +kernel)
@[simp] theorem nb_28_30 : (PySem.Str.ofString "place" == PySem.Str.ofString "") = false := by decide +kernel
@[simp] theorem ne_28_31 : (PySem.Str.ofString "place" = PySem.Str.ofString "xx") = False := eq_false (by decide +kernel)
@[simp] theorem nb_28_31 : (PySem.Str.ofString "place" == PySem.Str.ofString "xx") = false := by decide +kernel
@[simp] theorem ok_29 : PyData.strOk (PySem.Str.ofString "design") = true := by decide +kernel
@[simp] theorem len_29 : (PySem.Str.ofString "design").length = 6 := by decide +kernel
@[simp] theorem ne_29_0 : (PySem.Str.ofString "design" = PySem.Str.ofString "read") = False := eq_false (by decide +kernel)
@[simp] theorem nb_29_0 : (PySem.Str.ofString "design" == PySem.Str.ofString "read") = false := by decide +kernel
@[simp] theorem ne_29_1 : (PySem.Str.ofString "design" = PySem.Str.ofString "write") = False := eq_false (by decide +kernel)
@[simp] theorem nb_29_1 : (PySem.Str.ofString "design" == PySem.Str.ofString "write") = false := by decide +kernel
@[simp] theorem ne_29_2 : (PySem.Str.ofString "design" = PySem.Str.ofString "copy") = False := eq_false (by decide +kernel)
@[simp] theorem nb_29_2 : (PySem.Str.ofString "design" == PySem.Str.ofString "copy") = false := by decide +kernel
@[simp] theorem ne_29_3 : (PySem.Str.ofString "design" = PySem.Str.ofString "fence") = False := eq_false (by decide +kernel)
@[simp] theorem nb_29_3 : (PySem.Str.ofString "design" == PySem.Str.ofString "fence") = false := by decide +kernel
@[simp] theorem ne_29_4 : (PySem.Str.ofString "design" = PySem.Str.ofString "guard") = False := eq_false (by decide +kernel)
@[simp] theorem nb_29_4 : (PySem.Str.ofString "design" == PySem.Str.ofString "guard") = false := by decide +kernel
@[simp] theorem ne_29_5 : (PySem.Str.ofString "design" = PySem.Str.ofString "r") = False := eq_false (by decide +kernel)
@[simp] theorem nb_29_5 : (PySem.Str.ofString "design" == PySem.Str.ofString "r") = false := by decide +kernel
@[simp] theorem ne_29_6 : (PySem.Str.ofString "design" = PySem.Str.ofString "w") = False := eq_false (by decide +kernel)
@[simp] theorem nb_29_6 : (PySem.Str.ofString "design" == PySem.Str.ofString "w") = false := by decide +kernel
@[simp] theorem ne_29_7 : (PySem.Str.ofString "design" = PySem.Str.ofString "g") = False := eq_false (by decide +kernel)
@[simp] theorem nb_29_7 : (PySem.Str.ofString "design" == PySem.Str.ofString "g") = false := by decide +kernel
@[simp] theorem ne_29_8 : (PySem.Str.ofString "design" = PySem.Str.ofString "f") = False := eq_false (by decide +kernel)
@[simp] theorem nb_29_8 : (PySem.Str.ofString "design" == PySem.Str.ofString "f") = false := by decide +kernel
@[simp] theorem ne_29_9 : (PySem.Str.ofString "design" = PySem.Str.ofString "rr") = False := eq_false (by decide +kernel)
@[simp] theorem nb_29_9 : (PySem.Str.ofString "design" == PySem.Str.ofString "rr") = false := by decide +kernel
@[simp] theorem ne_29_10 : (PySem.Str.ofString "design" = PySem.Str.ofString "rw") = False := eq_false (by decide +kernel)
@[simp] theorem nb_29_10 : (PySem.Str.ofString "design" == PySem.Str.ofString "rw") = false := by decide +kernel
@[simp] theorem ne_29_11 : (PySem.Str.ofString "design" = PySem.Str.ofString "rg") = False := eq_false (by decide +kernel)
@[simp] theorem nb_29_11 : (PySem.Str.ofString "design" == PySem.Str.ofString "rg") = false := by decide +kernel
@[simp] theorem ne_29_12 : (PySem.Str.ofString "design" = PySem.Str.ofString "rf") = False := eq_false (by decide +kernel)
@[simp] theorem nb_29_12 : (PySem.Str.ofString "design" == PySem.Str.ofString "rf") = false := by decide +kernel
@[simp] theorem ne_29_13 : (PySem.Str.ofString "design" = PySem.Str.ofString "wr") = False := eq_false (by decide +kernel)
@[simp] theorem nb_29_13 : (PySem.Str.ofString "design" == PySem.Str.ofString "wr") = false := by decide +kernel
@[simp] theorem ne_29_14 : (PySem.Str.ofString "design" = PySem.Str.ofString "ww") = False := eq_false (by decide +kernel)
@[simp] theorem nb_29_14 : (PySem.Str.ofString "design" == PySem.Str.ofString "ww") = false := by decide +kernel
@[simp] theorem ne_29_15 : (PySem.Str.ofString "design" = PySem.Str.ofString "wg") = False := eq_false (by decide +kernel)
@[simp] theorem nb_29_15 : (PySem.Str.ofString "design" == PySem.Str.ofString "wg") = false := by decide +kernel
@[simp] theorem ne_29_16 : (PySem.Str.ofString "design" = PySem.Str.ofString "wf") = False := eq_false (by decide +kernel)
@[simp] theorem nb_29_16 : (PySem.Str.ofString "design" == PySem.Str.ofString "wf") = false := by decide +kernel
@[simp] theorem ne_29_17 : (PySem.Str.ofString "design" = PySem.Str.ofString "gr") = False := eq_false (by decide +kernel)
@[simp] theorem nb_29_17 : (PySem.Str.ofString "design" == PySem.Str.ofString "gr") = false := by decide +kernel
@[simp] theorem ne_29_18 : (PySem.Str.ofString "design" = PySem.Str.ofString "gw") = False := eq_false (by decide +kernel)
@[simp] theorem nb_29_18 : (PySem.Str.ofString "design" == PySem.Str.ofString "gw") = false := by decide +kernel
@[simp] theorem ne_29_19 : (PySem.Str.ofString "design" = PySem.Str.ofString "gg") = False := eq_false (by decide +kernel)
@[simp] theorem nb_29_19 : (PySem.Str.ofString "design" == PySem.Str.ofString "gg") = false := by decide +kernel
@[simp] theorem ne_29_20 : (PySem.Str.ofString "design" = PySem.Str.ofString "gf") = False := eq_false (by decide +kernel)
@[simp] theorem nb_29_20 : (PySem.Str.ofString "design" == PySem.Str.ofString "gf") = false := by decide +kernel
@[simp] theorem ne_29_21 : (PySem.Str.ofString "design" = PySem.Str.ofString "fr") = False := eq_false (by decide +kernel)
@[simp] theorem nb_29_21 : (PySem.Str.ofString "design" == PySem.Str.ofString "fr") = false := by decide +kernel
@[simp] theorem ne_29_22 : (PySem.Str.ofString "design" = PySem.Str.ofString "fw") = False := eq_false (by decide +kernel)
@[simp] theorem nb_29_22 : (PySem.Str.ofString "design" == PySem.Str.ofString "fw") = false := by decide +kernel
@[simp] theorem ne_29_23 : (PySem.Str.ofString "design" = PySem.Str.ofString "fg") = False := eq_false (by decide +kernel)
@[simp] theorem nb_29_23 : (PySem.Str.ofString "design" == PySem.Str.ofString "fg") = false := by decide +kernel
@[simp] theorem ne_29_24 : (PySem.Str.ofString "design" = PySem.Str.ofString "ff") = False := eq_false (by decide +kernel)
@[simp] theorem nb_29_24 : (PySem.Str.ofString "design" == PySem.Str.ofString "ff") = false := by decide +kernel
@[simp] theorem ne_29_25 : (PySem.Str.ofString "design" = PySem.Str.ofString "own") = False := eq_false (by decide +kernel)
@[simp] theorem nb_29_25 : (PySem.Str.ofString "design" == PySem.Str.ofString "own") = false := by decide +kernel
@[simp] theorem ne_29_26 : (PySem.Str.ofString "design" = PySem.Str.ofString "ss") = False := eq_false (by decide +kernel)
@[simp] theorem nb_29_26 : (PySem.Str.ofString "design" == PySem.Str.ofString "ss") = false := by decide +kernel
@[simp] theorem ne_29_27 : (PySem.Str.ofString "design" = PySem.Str.ofString "core") = False := eq_false (by decide +kernel)
@[simp] theorem nb_29_27 : (PySem.Str.ofString "design" == PySem.Str.ofString "core") = false := by decide +kernel
@[simp] theorem ne_29_28 : (PySem.Str.ofString "design" = PySem.Str.ofString "place") = False := eq_false (by decide +kernel)
@[simp] theorem nb_29_28 : (PySem.Str.ofString "design" == PySem.Str.ofString "place") = false := by decide +kernel
@[simp] theorem ne_29_30 : (PySem.Str.ofString "design" = PySem.Str.ofString "") = False := eq_false (by decide +kernel)
@[simp] theorem nb_29_30 : (PySem.Str.ofString "design" == PySem.Str.ofString "") = false := by decide +kernel
@[simp] theorem ne_29_31 : (PySem.Str.ofString "design" = PySem.Str.ofString "xx") = False := eq_false (by decide +kernel)
@[simp] theorem nb_29_31 : (PySem.Str.ofString "design" == PySem.Str.ofString "xx") = false := by decide +kernel
@[simp] theorem ok_30 : PyData.strOk (PySem.Str.ofString "") = true := by decide +kernel
@[simp] theorem len_30 : (PySem.Str.ofString "").length = 0 := by decide +kernel
@[simp] theorem ne_30_0 : (PySem.Str.ofString "" = PySem.Str.ofString "read") = False := eq_false (by decide +kernel)
@[simp] theorem nb_30_0 : (PySem.Str.ofString "" == PySem.Str.ofString "read") = false := by decide +kernel
@[simp] theorem ne_30_1 : (PySem.Str.ofString "" = PySem.Str.ofString "write") = False := eq_false (by decide +kernel)
@[simp] theorem nb_30_1 : (PySem.Str.ofString "" == PySem.Str.ofString "write") = false := by decide +kernel
@[simp] theorem ne_30_2 : (PySem.Str.ofString "" = PySem.Str.ofString "copy") = False := eq_false (by decide +kernel)
@[simp] theorem nb_30_2 : (PySem.Str.ofString "" == PySem.Str.ofString "copy") = false := by decide +kernel
@[simp] theorem ne_30_3 : (PySem.Str.ofString "" = PySem.Str.ofString "fence") = False := eq_false (by decide +kernel)
@[simp] theorem nb_30_3 : (PySem.Str.ofString "" == PySem.Str.ofString "fence") = false := by decide +kernel
@[simp] theorem ne_30_4 : (PySem.Str.ofString "" = PySem.Str.ofString "guard") = False := eq_false (by decide +kernel)
@[simp] theorem nb_30_4 : (PySem.Str.ofString "" == PySem.Str.ofString "guard") = false := by decide +kernel
@[simp] theorem ne_30_5 : (PySem.Str.ofString "" = PySem.Str.ofString "r") = False := eq_false (by decide +kernel)
@[simp] theorem nb_30_5 : (PySem.Str.ofString "" == PySem.Str.ofString "r") = false := by decide +kernel
@[simp] theorem ne_30_6 : (PySem.Str.ofString "" = PySem.Str.ofString "w") = False := eq_false (by decide +kernel)
@[simp] theorem nb_30_6 : (PySem.Str.ofString "" == PySem.Str.ofString "w") = false := by decide +kernel
@[simp] theorem ne_30_7 : (PySem.Str.ofString "" = PySem.Str.ofString "g") = False := eq_false (by decide +kernel)
@[simp] theorem nb_30_7 : (PySem.Str.ofString "" == PySem.Str.ofString "g") = false := by decide +kernel
@[simp] theorem ne_30_8 : (PySem.Str.ofString "" = PySem.Str.ofString "f") = False := eq_false (by decide +kernel)
@[simp] theorem nb_30_8 : (PySem.Str.ofString "" == PySem.Str.ofString "f") = false := by decide +kernel
@[simp] theorem ne_30_9 : (PySem.Str.ofString "" = PySem.Str.ofString "rr") = False := eq_false (by decide +kernel)
@[simp] theorem nb_30_9 : (PySem.Str.ofString "" == PySem.Str.ofString "rr") = false := by decide +kernel
@[simp] theorem ne_30_10 : (PySem.Str.ofString "" = PySem.Str.ofString "rw") = False := eq_false (by decide +kernel)
@[simp] theorem nb_30_10 : (PySem.Str.ofString "" == PySem.Str.ofString "rw") = false := by decide +kernel
@[simp] theorem ne_30_11 : (PySem.Str.ofString "" = PySem.Str.ofString "rg") = False := eq_false (by decide +kernel)
@[simp] theorem nb_30_11 : (PySem.Str.ofString "" == PySem.Str.ofString "rg") = false := by decide +kernel
@[simp] theorem ne_30_12 : (PySem.Str.ofString "" = PySem.Str.ofString "rf") = False := eq_false (by decide +kernel)
@[simp] theorem nb_30_12 : (PySem.Str.ofString "" == PySem.Str.ofString "rf") = false := by decide +kernel
@[simp] theorem ne_30_13 : (PySem.Str.ofString "" = PySem.Str.ofString "wr") = False := eq_false (by decide +kernel)
@[simp] theorem nb_30_13 : (PySem.Str.ofString "" == PySem.Str.ofString "wr") = false := by decide +kernel
@[simp] theorem ne_30_14 : (PySem.Str.ofString "" = PySem.Str.ofString "ww") = False := eq_false (by decide +kernel)
@[simp] theorem nb_30_14 : (PySem.Str.ofString "" == PySem.Str.ofString "ww") = false := by decide +kernel
@[simp] theorem ne_30_15 : (PySem.Str.ofString "" = PySem.Str.ofString "wg") = False := eq_false (by decide +kernel)
@[simp] theorem nb_30_15 : (PySem.Str.ofString "" == PySem.Str.ofString "wg") = false := by decide +kernel
@[simp] theorem ne_30_16 : (PySem.Str.ofString "" = PySem.Str.ofString "wf") = False := eq_false (by decide +kernel)
@[simp] theorem nb_30_16 : (PySem.Str.ofString "" == PySem.Str.ofString "wf") = false := by decide +kernel
@[simp] theorem ne_30_17 : (PySem.Str.ofString "" = PySem.Str.ofString "gr") = False := eq_false (by decide +kernel)
@[simp] theorem nb_30_17 : (PySem.Str.ofString "" == PySem.Str.ofString "gr") = false := by decide +kernel
@[simp] theorem ne_30_18 : (PySem.Str.ofString "" = PySem.Str.ofString "gw") = False := eq_false (by decide +kernel)
@[simp] theorem nb_30_18 : (PySem.Str.ofString "" == PySem.Str.ofString "gw") = false := by decide +kernel
@[simp] theorem ne_30_19 : (PySem.Str.ofString "" = PySem.Str.ofString "gg") = False := eq_false (by decide +kernel)
@[simp] theorem nb_30_19 : (PySem.Str.ofString "" == PySem.Str.ofString "gg") = false := by decide +kernel
@[simp] theorem ne_30_20 : (PySem.Str.ofString "" = PySem.Str.ofString "gf") = False := eq_false (by decide +kernel)
@[simp] theorem nb_30_20 : (PySem.Str.ofString "" == PySem.Str.ofString "gf") = false := by decide +kernel
@[simp] theorem ne_30_21 : (PySem.Str.ofString "" = PySem.Str.ofString "fr") = False := eq_false (by decide +kernel)
@[simp] theorem nb_30_21 : (PySem.Str.ofString "" == PySem.Str.ofString "fr") = false := by decide +kernel
@[simp] theorem ne_30_22 : (PySem.Str.ofString "" = PySem.Str.ofString "fw") = False := eq_false (by decide +kernel)
@[simp] theorem nb_30_22 : (PySem.Str.ofString "" == PySem.Str.ofString "fw") = false := by decide +kernel
@[simp] theorem ne_30_23 : (PySem.Str.ofString "" = PySem.Str.ofString "fg") = False := eq_false (by decide +kernel)
@[simp] theorem nb_30_23 : (PySem.Str.ofString "" == PySem.Str.ofString "fg") = false := by decide +kernel
@[simp] theorem ne_30_24 : (PySem.Str.ofString "" = PySem.Str.ofString "ff") = False := eq_false (by decide +kernel)
@[simp] theorem nb_30_24 : (PySem.Str.ofString "" == PySem.Str.ofString "ff") = false := by decide +kernel
@[simp] theorem ne_30_25 : (PySem.Str.ofString "" = PySem.Str.ofString "own") = False := eq_false (by decide +kernel)
@[simp] theorem nb_30_25 : (PySem.Str.ofString "" == PySem.Str.ofString "own") = false := by decide +kernel
@[simp] theorem ne_30_26 : (PySem.Str.ofString "" = PySem.Str.ofString "ss") = False := eq_false (by decide +kernel)
@[simp] theorem nb_30_26 : (PySem.Str.ofString "" == PySem.Str.ofString "ss") = false := by decide +kernel
@[simp] theorem ne_30_27 : (PySem.Str.ofString "" = PySem.Str.ofString "core") = False := eq_false (by decide +kernel)
@[simp] theorem nb_30_27 : (PySem.Str.ofString "" == PySem.Str.ofString "core") = false := by decide +kernel
@[simp] theorem ne_30_28 : (PySem.Str.ofString "" = PySem.Str.ofString "place") = False := eq_false (by decide +kernel)
@[simp] theorem nb_30_28 : (PySem.Str.ofString "" == PySem.Str.ofString "place") = false := by decide +kernel
@[simp] theorem ne_30_29 : (PySem.Str.ofString "" = PySem.Str.ofString "design") = False := eq_false (by decide +kernel)
@[simp] theorem nb_30_29 : (PySem.Str.ofString "" == PySem.Str.ofString "design") = false := by decide +kernel
@[simp] theorem ne_30_31 : (PySem.Str.ofString "" = PySem.Str.ofString "xx") = False := eq_false (by decide +kernel)
@[simp] theorem nb_30_31 : (PySem.Str.ofString "" == PySem.Str.ofString "xx") = false := by decide +kernel
@[simp] theorem ok_31 : PyData.strOk (PySem.Str.ofString "xx") = true := by decide +kernel
@[simp] theorem len_31 : (PySem.Str.ofString "xx").length = 2 := by decide +kernel
@[simp] theorem ne_31_0 : (PySem.Str.ofString "xx" = PySem.Str.ofString "read") = False := eq_false (by decide +kernel)
@[simp] theorem nb_31_0 : (PySem.Str.ofString "xx" == PySem.Str.ofString "read") = false := by decide +kernel
@[simp] theorem ne_31_1 : (PySem.Str.ofString "xx" = PySem.Str.ofString "write") = False := eq_false (by decide +kernel)
@[simp] theorem nb_31_1 : (PySem.Str.ofString "xx" == PySem.Str.ofString "write") = false := by decide +kernel
@[simp] theorem ne_31_2 : (PySem.Str.ofString "xx" = PySem.Str.ofString "copy") = False := eq_false (by decide +kernel)
@[simp] theorem nb_31_2 : (PySem.Str.ofString "xx" == PySem.Str.ofString "copy") = false := by decide +kernel
@[simp] theorem ne_31_3 : (PySem.Str.ofString "xx" = PySem.Str.ofString "fence") = False := eq_false (by decide +kernel)
@[simp] theorem nb_31_3 : (PySem.Str.ofString "xx" == PySem.Str.ofString "fence") = false := by decide +kernel
@[simp] theorem ne_31_4 : (PySem.Str.ofString "xx" = PySem.Str.ofString "guard") = False := eq_false (by decide +kernel)
@[simp] theorem nb_31_4 : (PySem.Str.ofString "xx" == PySem.Str.ofString "guard") = false := by decide +kernel
@[simp] theorem ne_31_5 : (PySem.Str.ofString "xx" = PySem.Str.ofString "r") = False := eq_false (by decide +kernel)
@[simp] theorem nb_31_5 : (PySem.Str.ofString "xx" == PySem.Str.ofString "r") = false := by decide +kernel
@[simp] theorem ne_31_6 : (PySem.Str.ofString "xx" = PySem.Str.ofString "w") = False := eq_false (by decide +kernel)
@[simp] theorem nb_31_6 : (PySem.Str.ofString "xx" == PySem.Str.ofString "w") = false := by decide +kernel
@[simp] theorem ne_31_7 : (PySem.Str.ofString "xx" = PySem.Str.ofString "g") = False := eq_false (by decide +kernel)
@[simp] theorem nb_31_7 : (PySem.Str.ofString "xx" == PySem.Str.ofString "g") = false := by decide +kernel
@[simp] theorem ne_31_8 : (PySem.Str.ofString "xx" = PySem.Str.ofString "f") = False := eq_false (by decide +kernel)
@[simp] theorem nb_31_8 : (PySem.Str.ofString "xx" == PySem.Str.ofString "f") = false := by decide +kernel
@[simp] theorem ne_31_9 : (PySem.Str.ofString "xx" = PySem.Str.ofString "rr") = False := eq_false (by decide +kernel)
@[simp] theorem nb_31_9 : (PySem.Str.ofString "xx" == PySem.Str.ofString "rr") = false := by decide +kernel
@[simp] theorem ne_31_10 : (PySem.Str.ofString "xx" = PySem.Str.ofString "rw") = False := eq_false (by decide +kernel)
@[simp] theorem nb_31_10 : (PySem.Str.ofString "xx" == PySem.Str.ofString "rw") = false := by decide +kernel
@[simp] theorem ne_31_11 : (PySem.Str.ofString "xx" = PySem.Str.ofString "rg") = False := eq_false (by decide +kernel)
@[simp] theorem nb_31_11 : (PySem.Str.ofString "xx" == PySem.Str.ofString "rg") = false := by decide +kernel
@[simp] theorem ne_31_12 : (PySem.Str.ofString "xx" = PySem.Str.ofString "rf") = False := eq_false (by decide +kernel)
@[simp] theorem nb_31_12 : (PySem.Str.ofString "xx" == PySem.Str.ofString "rf") = false := by decide +kernel
@[simp] theorem ne_31_13 : (PySem.Str.ofString "xx" = PySem.Str.ofString "wr") = False := eq_false (by decide +kernel)
@[simp] theorem nb_31_13 : (PySem.Str.ofString "xx" == PySem.Str.ofString "wr") = false := by decide +kernel
@[simp] theorem ne_31_14 : (PySem.Str.ofString "xx" = PySem.Str.ofString "ww") = False := eq_false (by decide +kernel)
@[simp] theorem nb_31_14 : (PySem.Str.ofString "xx" == PySem.Str.ofString "ww") = false := by decide +kernel
@[simp] theorem ne_31_15 : (PySem.Str.ofString "xx" = PySem.Str.ofString "wg") = False := eq_false (by decide +kernel)
@[simp] theorem nb_31_15 : (PySem.Str.ofString "xx" == PySem.Str.ofString "wg") = false := by decide +kernel
@[simp] theorem ne_31_16 : (PySem.Str.ofString "xx" = PySem.Str.ofString "wf") = False := eq_false (by decide +kernel)
@[simp] theorem nb_31_16 : (PySem.Str.ofString "xx" == PySem.Str.ofString "wf") = false := by decide +kernel
@[simp] theorem ne_31_17 : (PySem.Str.ofString "xx" = PySem.Str.ofString "gr") = False := eq_false (by decide +kernel)
@[simp] theorem nb_31_17 : (PySem.Str.ofString "xx" == PySem.Str.ofString "gr") = false := by decide +kernel
@[simp] theorem ne_31_18 : (PySem.Str.ofString "xx" = PySem.Str.ofString "gw") = False := eq_false (by decide +kernel)
@[simp] theorem nb_31_18 : (PySem.Str.ofString "xx" == PySem.Str.ofString "gw") = false := by decide +kernel
@[simp] theorem ne_31_19 : (PySem.Str.ofString "xx" = PySem.Str.ofString "gg") = False := eq_false (by decide +kernel)
@[simp] theorem nb_31_19 : (PySem.Str.ofString "xx" == PySem.Str.ofString "gg") = false := by decide +kernel
@[simp] theorem ne_31_20 : (PySem.Str.ofString "xx" = PySem.Str.ofString "gf") = False := eq_false (by decide +kernel)
@[simp] theorem nb_31_20 : (PySem.Str.ofString "xx" == PySem.Str.ofString "gf") = false := by decide +kernel
@[simp] theorem ne_31_21 : (PySem.Str.ofString "xx" = PySem.Str.ofString "fr") = False := eq_false (by decide +kernel)
@[simp] theorem nb_31_21 : (PySem.Str.ofString "xx" == PySem.Str.ofString "fr") = false := by decide +kernel
@[simp] theorem ne_31_22 : (PySem.Str.ofString "xx" = PySem.Str.ofString "fw") = False := eq_false (by decide +kernel)
@[simp] theorem nb_31_22 : (PySem.Str.ofString "xx" == PySem.Str.ofString "fw") = false := by decide +kernel
@[simp] theorem ne_31_23 : (PySem.Str.ofString "xx" = PySem.Str.ofString "fg") = False := eq_false (by decide +kernel)
@[simp] theorem nb_31_23 : (PySem.Str.ofString "xx" == PySem.Str.ofString "fg") = false := by decide +kernel
@[simp] theorem ne_31_24 : (PySem.Str.ofString "xx" = PySem.Str.ofString "ff") = False := eq_false (by decide +kernel)
@[simp] theorem nb_31_24 : (PySem.Str.ofString "xx" == PySem.Str.ofString "ff") = false := by decide +kernel
@[simp] theorem ne_31_25 : (PySem.Str.ofString "xx" = PySem.Str.ofString "own") = False := eq_false (by decide +kernel)
@[simp] theorem nb_31_25 : (PySem.Str.ofString "xx" == PySem.Str.ofString "own") = false := by decide +kernel
@[simp] theorem ne_31_26 : (PySem.Str.ofString "xx" = PySem.Str.ofString "ss") = False := eq_false (by decide +kernel)
@[simp] theorem nb_31_26 : (PySem.Str.ofString "xx" == PySem.Str.ofString "ss") = false := by decide +kernel
@[simp] theorem ne_31_27 : (PySem.Str.ofString "xx" = PySem.Str.ofString "core") = False := eq_false (by decide +kernel)
@[simp] theorem nb_31_27 : (PySem.Str.ofString "xx" == PySem.Str.ofString "core") = false := by decide +kernel
@[simp] theorem ne_31_28 : (PySem.Str.ofString "xx" = PySem.Str.ofString "place") = False := eq_false (by decide +kernel)
@[simp] theorem nb_31_28 : (PySem.Str.ofString "xx" == PySem.Str.ofString "place") = false := by decide +kernel
@[simp] theorem ne_31_29 : (PySem.Str.ofString "xx" = PySem.Str.ofString "design") = False := eq_false (by decide +kernel)
@[simp] theorem nb_31_29 : (PySem.Str.ofString "xx" == PySem.Str.ofString "design") = false := by decide +kernel
@[simp] theorem ne_31_30 : (PySem.Str.ofString "xx" = PySem.Str.ofString "") = False := eq_false (by decide +kernel)
@[simp] theorem nb_31_30 : (PySem.Str.ofString "xx" == PySem.Str.ofString "") = false := by decide +kernel
@[simp] theorem add_r_r : PySem.Str.ofString "r" ++ PySem.Str.ofString "r" = PySem.Str.ofString "rr" := by decide +kernel
@[simp] theorem add_r_w : PySem.Str.ofString "r" ++ PySem.Str.ofString "w" = PySem.Str.ofString "rw" := by decide +kernel
@[simp] theorem add_r_g : PySem.Str.ofString "r" ++ PySem.Str.ofString "g" = PySem.Str.ofString "rg" := by decide +kernel
@[simp] theorem add_r_f : PySem.Str.ofString "r" ++ PySem.Str.ofString "f" = PySem.Str.ofString "rf" := by decide +kernel
@[simp] theorem add_w_r : PySem.Str.ofString "w" ++ PySem.Str.ofString "r" = PySem.Str.ofString "wr" := by decide +kernel
@[simp] theorem add_w_w : PySem.Str.ofString "w" ++ PySem.Str.ofString "w" = PySem.Str.ofString "ww" := by decide +kernel
@[simp] theorem add_w_g : PySem.Str.ofString "w" ++ PySem.Str.ofString "g" = PySem.Str.ofString "wg" := by decide +kernel
@[simp] theorem add_w_f : PySem.Str.ofString "w" ++ PySem.Str.ofString "f" = PySem.Str.ofString "wf" := by decide +kernel
@[simp] theorem add_g_r : PySem.Str.ofString "g" ++ PySem.Str.ofString "r" = PySem.Str.ofString "gr" := by decide +kernel
@[simp] theorem add_g_w : PySem.Str.ofString "g" ++ PySem.Str.ofString "w" = PySem.Str.ofString "gw" := by decide +kernel
@[simp] theorem add_g_g : PySem.Str.ofString "g" ++ PySem.Str.ofString "g" = PySem.Str.ofString "gg" := by decide +kernel
@[simp] theorem add_g_f : PySem.Str.ofString "g" ++ PySem.Str.ofString "f" = PySem.Str.ofString "gf" := by decide +kernel
@[simp] theorem add_f_r : PySem.Str.ofString "f" ++ PySem.Str.ofString "r" = PySem.Str.ofString "fr" := by decide +kernel
@[simp] theorem add_f_w : PySem.Str.ofString "f" ++ PySem.Str.ofString "w" = PySem.Str.ofString "fw" := by decide +kernel
@[simp] theorem add_f_g : PySem.Str.ofString "f" ++ PySem.Str.ofString "g" = PySem.Str.ofString "fg" := by decide +kernel
@[simp] theorem add_f_f : PySem.Str.ofString "f" ++ PySem.Str.ofString "f" = PySem.Str.ofString "ff" := by decide +kernel
end G


set_option Elab.async false
set_option linter.all false
set_option maxRecDepth 100000
set_option maxHeartbeats 4000000
namespace G
open PySem PySem.Spec L2 J
/-! ### loops of a comprehension that draws -/
theorem lcAll {t : TD} {gt : GT} {ge : GE} {ρ : J.Env} (P : S → Prop) (Q : D → Prop) : ∀ (xs : List D) (s : S), P s → (∀ x ∈ xs, ∀ s, P s → ∃ ρ1 y s2, t x ρ = some ρ1 ∧ gt ρ1 s = .ok true s ∧ ge ρ1 s = .ok y s2 ∧ Q y ∧ P s2) →
    ∃ ys s', lcLoop t gt ge ρ xs s = .ok ys s' ∧ P s' ∧ ys.length = xs.length ∧ ∀ y ∈ ys, Q y
  | [], s, hP, _ => ⟨[], s, rfl, hP, rfl, fun _ h => by cases h⟩
  | x :: xs, s, hP, h => by
    obtain ⟨ρ1, y, s2, h1, h2, h3, h4, h5⟩ := h x List.mem_cons_self s hP
    obtain ⟨ys, s', e, p, l, q⟩ := lcAll P Q xs s2 h5 fun z hz => h z (List.mem_cons_of_mem _ hz)
    refine ⟨y :: ys, s', ?_, p, by simp [l], fun z hz => ?_⟩
    · unfold lcLoop
      rw [h1]
      simp only [h2, noErr, R.bind_ok, if_true, h3, e]
    · rcases List.mem_cons.mp hz with rfl | hz
      · exact h4
      · exact q z hz
theorem lcSub {t : TD} {gt : GT} {ge : GE} {ρ : J.Env} (P : S → Prop) : ∀ (xs : List D) (s : S), P s → (∀ x ∈ xs, ∀ s, P s → ∃ ρ1 b s2, t x ρ = some ρ1 ∧ gt ρ1 s = .ok b s2 ∧ P s2 ∧ ge ρ1 s2 = .ok x s2) →
    ∃ ys s', lcLoop t gt ge ρ xs s = .ok ys s' ∧ P s' ∧ ys.Sublist xs
  | [], s, hP, _ => ⟨[], s, rfl, hP, List.Sublist.refl _⟩
  | x :: xs, s, hP, h => by
    obtain ⟨ρ1, b, s2, h1, h2, h5, h3⟩ := h x List.mem_cons_self s hP
    obtain ⟨ys, s', e, p, l⟩ := lcSub P xs s2 h5 fun z hz => h z (List.mem_cons_of_mem _ hz)
    cases b with
    | true =>
      refine ⟨x :: ys, s', ?_, p, l.cons_cons _⟩
      unfold lcLoop
      rw [h1]
      simp only [h2, noErr, R.bind_ok, if_true, h3, e]
    | false =>
      refine ⟨ys, s', ?_, p, l.cons _⟩
      unfold lcLoop
      rw [h1]
      simp only [h2, noErr, R.bind_ok, Bool.false_eq_true, if_false, e]
theorem allEx {α : Type} {f : α → D} {q : α → Prop} : ∀ ys : List D, (∀ y ∈ ys, ∃ c, y = f c ∧ q c) → ∃ cs : List α, ys = cs.map f ∧ ∀ c ∈ cs, q c
  | [], _ => ⟨[], rfl, fun _ h => by cases h⟩
  | y :: ys, h => by
    obtain ⟨c, rfl, hc⟩ := h y List.mem_cons_self
    obtain ⟨cs, rfl, hcs⟩ := allEx ys fun z hz => h z (List.mem_cons_of_mem _ hz)
    exact ⟨c :: cs, rfl, fun z hz => by rcases List.mem_cons.mp hz with rfl | hz; (· exact hc); exact hcs z hz⟩
theorem subMap {α : Type} {f : α → D} {xs : List α} {ys : List D} (h : ys.Sublist (xs.map f)) : ∃ zs : List α, ys = zs.map f ∧ zs.Sublist xs := by
  obtain ⟨zs, h1, h2⟩ := List.sublist_map_iff.mp h
  exact ⟨zs, h2, h1⟩
/-! ### the instructions drawn -/
inductive Ins where
  | read (r x : Int) | write (x n : Int) | copy (x r : Int) | fence | guard (r n : Int)
def Ins.enc : Ins → D
  | .read r x => .tup [.str (PySem.Str.ofString "read"), .int r, .int x]
  | .write x n => .tup [.str (PySem.Str.ofString "write"), .int x, .int n]
  | .copy x r => .tup [.str (PySem.Str.ofString "copy"), .int x, .int r]
  | .fence => .tup [.str (PySem.Str.ofString "fence")]
  | .guard r n => .tup [.str (PySem.Str.ofString "guard"), .int r, .int n]
def Ins.ok : Ins → Prop
  | .read r x => 0 ≤ r ∧ r < 2 ∧ 0 ≤ x ∧ x < 2
  | .write x n => 0 ≤ x ∧ x < 2 ∧ 1 ≤ n ∧ n < 4
  | .copy x r => 0 ≤ x ∧ x < 2 ∧ 0 ≤ r ∧ r < 2
  | .fence => True
  | .guard r n => 0 ≤ r ∧ r < 2 ∧ 0 ≤ n ∧ n < 2
theorem instr_ok {ns : List Int} {t s : S} (h : RowS ns t s) : ∃ (c : Ins) (s' : S), F_law_instruction [.obj 0] s = .ok c.enc s' ∧ c.ok ∧ RowS ns t s' := by
  obtain ⟨k, hk, s1, e, h1⟩ := pick_ok [.str (PySem.Str.ofString "read"), .str (PySem.Str.ofString "read"), .str (PySem.Str.ofString "read"), .str (PySem.Str.ofString "write"), .str (PySem.Str.ofString "write"), .str (PySem.Str.ofString "write"), .str (PySem.Str.ofString "copy"), .str (PySem.Str.ofString "fence"), .str (PySem.Str.ofString "guard")] (by simp) (by simp) h
  obtain ⟨r, s2, e2, hr1, hr2, h2⟩ := taken_ok 2 (by decide) (by decide) h1
  obtain ⟨q, s3, e3, hq1, hq2, h3⟩ := taken_ok 2 (by decide) (by decide) h2
  obtain ⟨n, s4, e4, hn1, hn2, h4⟩ := taken_ok 3 (by decide) (by decide) h2
  match k, hk, e with
  | 0, _, e | 1, _, e | 2, _, e => exact ⟨.read r q, s3, by simp [F_law_instruction, b_law_instruction, fitL, e, e2, e3, eqD_str, Ins.enc], ⟨hr1, hr2, hq1, hq2⟩, h3⟩
  | 3, _, e | 4, _, e | 5, _, e => exact ⟨.write r (1 + n), s4, by simp [F_law_instruction, b_law_instruction, fitL, e, e2, e4, eqD_str, Ins.enc], ⟨hr1, hr2, by omega, by omega⟩, h4⟩
  | 6, _, e => exact ⟨.copy r q, s3, by simp [F_law_instruction, b_law_instruction, fitL, e, e2, e3, eqD_str, Ins.enc], ⟨hr1, hr2, hq1, hq2⟩, h3⟩
  | 7, _, e => exact ⟨.fence, s1, by simp [F_law_instruction, b_law_instruction, fitL, e, eqD_str, Ins.enc], trivial, h1⟩
  | 8, _, e => exact ⟨.guard r q, s3, by simp [F_law_instruction, b_law_instruction, fitL, e, e2, e3, eqD_str, Ins.enc], ⟨hr1, hr2, hq1, hq2⟩, h3⟩
/-! ### the design drawn -/
def names : List Str := [PySem.Str.ofString "gr", PySem.Str.ofString "gw", PySem.Str.ofString "own", PySem.Str.ofString "rr", PySem.Str.ofString "rw", PySem.Str.ofString "ss", PySem.Str.ofString "wr", PySem.Str.ofString "ww"]
theorem names_ok : ∀ x ∈ names, PyData.strOk x = true := by decide +kernel
theorem names_lt : names.Pairwise fun a b => a.cps.toList < b.cps.toList := by decide +kernel
end G


set_option Elab.async false
set_option linter.all false
set_option maxRecDepth 100000
set_option maxHeartbeats 4000000
namespace G
open PySem PySem.Spec L2 J
theorem eqD_tup0 (s : S) : eqD s (.tup []) (.tup []) = some true := by simp [eqD, deref, D.toPy, D.toPys, SeqAt.shaped, PyData.canLay0, PyData.canLayAll0, PyData.depth, PyData.depthAll, PyData.eqv, PyData.eqvAll]
theorem isin_ok (s : S) (i a b : Int) : F_is_in [.int i, .int a, .int b] s = .ok (.bl (decide (a ≤ i) && decide (i ≤ b))) s := by
  have h1 : F_is_integer [.int i] s = .ok (.bl true) s := by
    simp [F_is_integer, b_is_integer]
  by_cases h : a ≤ i <;> simp [F_is_in, b_is_in, h1, h]
theorem is_instr {c : Ins} (hc : c.ok) (s : S) : F_is_instruction [c.enc] s = .ok (.bl true) s := by
  have hl : ∀ ds : List D, 1 ≤ ds.length → ds.length ≤ 3 → F_is_list [.tup ds, .int 1, .int 3] s = .ok (.bl true) s := fun ds h1 h3 => by
    have : (1 : Int) ≤ ds.length := by omega
    have : (ds.length : Int) ≤ 3 := by omega
    simp [F_is_list, b_is_list, *]
  have a1 : ∀ (x y z : D), atI [x, y, z] 0 = some x := fun _ _ _ => rfl
  have a2 : ∀ (x y : D), atI [x, y] 1 = some y := fun _ _ => rfl
  have k2 : ∀ (x y z : D), cutD [x, y, z] (some 1) none = [y, z] := fun _ _ _ => rfl
  have k0 : ∀ (x : D), cutD [x] (some 1) none = [] := fun _ => rfl
  cases c with
  | read r x =>
    obtain ⟨h1, h2, h3, h4⟩ := hc
    have : r ≤ 1 := by omega
    have : x ≤ 2 := by omega
    simp [F_is_instruction, b_is_instruction, Ins.enc, hl, fitL, eqD_str, isin_ok, c_REGISTERS, c_CELLS, c_WORDS, a2, k2, *]
  | write x n =>
    obtain ⟨h1, h2, h3, h4⟩ := hc
    have : x ≤ 2 := by omega
    have : n ≤ 9 := by omega
    have : 0 ≤ n := by omega
    simp [F_is_instruction, b_is_instruction, Ins.enc, hl, fitL, eqD_str, isin_ok, c_REGISTERS, c_CELLS, c_WORDS, a2, k2, *]
  | copy x r =>
    obtain ⟨h1, h2, h3, h4⟩ := hc
    have : r ≤ 1 := by omega
    have : x ≤ 2 := by omega
    simp [F_is_instruction, b_is_instruction, Ins.enc, hl, fitL, eqD_str, isin_ok, c_REGISTERS, c_CELLS, c_WORDS, a2, k2, *]
  | fence =>
    simp [F_is_instruction, b_is_instruction, Ins.enc, hl, fitL, eqD_str, isin_ok, k0, eqD_tup0]
  | guard r n =>
    obtain ⟨h1, h2, h3, h4⟩ := hc
    have : r ≤ 1 := by omega
    have : n ≤ 9 := by omega
    simp [F_is_instruction, b_is_instruction, Ins.enc, hl, fitL, eqD_str, isin_ok, c_REGISTERS, c_CELLS, c_WORDS, a2, k2, *]
theorem is_core_ok {cs : List Ins} (h : ∀ c ∈ cs, c.ok) (hl : cs.length ≤ 5) (s : S) : F_is_core [.tup (cs.map Ins.enc)] s = .ok (.bl true) s := by
  have h1 : F_is_list [.tup (cs.map Ins.enc), .int 0, .int 5] s = .ok (.bl true) s := by
    have : (cs.length : Int) ≤ 5 := by omega
    simp [F_is_list, b_is_list, this]
  have h2 : cs.length ≤ 16777216 := by omega
  simp [F_is_core, b_is_core, h1, c_MOST_CORE, fitL, h2, wipeD]
  rw [lcLoop_all _ fun x hx => by
    obtain ⟨c, hc, rfl⟩ := List.mem_map.mp hx
    exact ⟨[some (.tup (cs.map Ins.enc)), some c.enc], by simp, by simp [is_instr (h c hc)]⟩]
  simp [-List.map_map]
theorem is_design_ok {ds : List Str} (h : ds.Sublist names) (s : S) : F_is_design [.tup (ds.map D.str)] s = .ok (.bl true) s := by
  have hn : ds.length ≤ 8 := h.length_le
  have hm : ∀ x ∈ ds, x ∈ names := fun x hx => h.subset hx
  have hp := names_lt.sublist h
  have h2 : ds.length ≤ 16777216 := by omega
  have hc : c_NAMES = .tup (names.map D.str) := rfl
  simp [F_is_design, b_is_design, fitL, h2, wipeD]
  rw [lcLoop_all _ fun x hx => by
    obtain ⟨c, hc', rfl⟩ := List.mem_map.mp hx
    refine ⟨[some (.tup (ds.map D.str)), none, some (.str c)], by simp, ?_⟩
    have : names.any (· == c) = true := List.any_eq_true.mpr ⟨c, hm c hc', by simp⟩
    simp [fIsi, tyD, known, tyKnown, isT, hc, inD_tup s c names (names_ok c (hm c hc')) names_ok, this]]
  have hr : okR 1 = true := by decide
  have hr2 : okR (ds.length : Int) = true := by simp [okR]; omega
  have h4 : (rangeD 1 (ds.length : Int)).length ≤ 16777216 := by simp [rangeD]; omega
  simp [-List.map_map, hr, hr2, h4]
  rw [lcLoop_all _ fun x hx => by
    simp only [rangeD, List.mem_map, List.mem_range] at hx
    obtain ⟨k, hk, rfl⟩ := hx
    refine ⟨[some (.tup (ds.map D.str)), some (.int (1 + (k : Int))), none], by simp, ?_⟩
    have e1 : (1 + (k : Int)) - 1 = (k : Int) := by omega
    have e2 : (1 + (k : Int)) = ((k + 1 : Nat) : Int) := by omega
    have hk2 : k + 1 < ds.length := by omega
    have q1 : atI (ds.map D.str) (k : Int) = some (.str ds[k]) := by rw [atI_nat _ _ (by simp; omega)]; simp
    have q2 : atI (ds.map D.str) (1 + (k : Int)) = some (.str ds[k + 1]) := by rw [e2, atI_nat _ _ (by simp; omega)]; simp
    have lt := List.pairwise_iff_getElem.mp hp k (k + 1) (by omega) hk2 (by omega)
    simp [e1, q1, q2, fLt, lt]]
  simp [-List.map_map]
end G


set_option Elab.async false
set_option linter.all false
set_option maxRecDepth 100000
set_option maxHeartbeats 4000000
namespace G
open PySem PySem.Spec L2 J
@[simp] theorem noErr_okk {α : Type} (a : α) (s : S) : noErr (R.ok a s) = .ok a s := id rfl
@[simp] theorem lc_nil (t : TD) (gt : GT) (ge : GE) (ρ : J.Env) (s : S) : lcLoop t gt ge ρ [] s = .ok [] s := id rfl
@[simp] theorem lc_cons (t : TD) (gt : GT) (ge : GE) (ρ : J.Env) (x : D) (xs : List D) (s : S) : lcLoop t gt ge ρ (x :: xs) s = match t x ρ with
    | none => .no
    | some ρ1 => (noErr (gt ρ1 s)).bd (fun b s1 => if b then (noErr (ge ρ1 s1)).bd (fun y s2 => (lcLoop t gt ge ρ xs s2).bd (fun ys s3 => .ok (y :: ys) s3) .mk) .mk else lcLoop t gt ge ρ xs s1) .mk := id rfl
@[simp] theorem ap_M1 (f : S → Str → D → Option D) (go ge : GE) (ρ : J.Env) (s : S) : gM1 f go ge ρ s = (go ρ s).bd (fun x s1 => match x with
  | .str a => (ge ρ s1).bd (fun y s2 => R.ofO (f s2 a y) s2) .mk
  | _ => .no) .mk := id rfl
@[simp] theorem ap_signs (g : GE) (ρ : J.Env) (s : S) : gSigns g ρ s = (g ρ s).bd (fun d s1 => match d with | .str x => .ok (signs x) s1 | _ => .no) .mk := id rfl
def tl (x : Str) : List Nat := x.cps.toList
theorem S_tl' (x : Str) : SX.S (tl x) = x := SX.S_tl x
def num (i : Int) : Str := PySem.Str.ofString (toString i)
def W : Ins → List Str
  | .read r x => [PySem.Str.ofString "read", num r, num x]
  | .write x n => [PySem.Str.ofString "write", num x, num n]
  | .copy x r => [PySem.Str.ofString "copy", num x, num r]
  | .fence => [PySem.Str.ofString "fence"]
  | .guard r n => [PySem.Str.ofString "guard", num r, num n]
def T (c : Ins) : Str := Txt.join (PySem.Str.ofString " ") (W c)
def insts : List Ins := [.fence] ++ ([0, 1] : List Int).flatMap fun a => [.read a 0, .read a 1, .write a 1, .write a 2, .write a 3, .copy a 0, .copy a 1, .guard a 0, .guard a 1]
theorem ok_mem {c : Ins} (h : c.ok) : c ∈ insts := by
  cases c with
  | read r x =>
    obtain ⟨h1, h2, h3, h4⟩ := h
    have a : r = 0 ∨ r = 1 := by omega
    have b : x = 0 ∨ x = 1 := by omega
    rcases a with rfl | rfl <;> rcases b with rfl | rfl <;> simp [insts]
  | write r x =>
    obtain ⟨h1, h2, h3, h4⟩ := h
    have a : r = 0 ∨ r = 1 := by omega
    have b : x = 1 ∨ x = 2 ∨ x = 3 := by omega
    rcases a with rfl | rfl <;> rcases b with rfl | rfl | rfl <;> simp [insts]
  | copy r x =>
    obtain ⟨h1, h2, h3, h4⟩ := h
    have a : r = 0 ∨ r = 1 := by omega
    have b : x = 0 ∨ x = 1 := by omega
    rcases a with rfl | rfl <;> rcases b with rfl | rfl <;> simp [insts]
  | fence => simp [insts]
  | guard r x =>
    obtain ⟨h1, h2, h3, h4⟩ := h
    have a : r = 0 ∨ r = 1 := by omega
    have b : x = 0 ∨ x = 1 := by omega
    rcases a with rfl | rfl <;> rcases b with rfl | rfl <;> simp [insts]
def tOk (c : Ins) : Bool := decide (Txt.split (T c) (PySem.Str.ofString " ") = W c) && !(tl (T c)).contains 10 && !(tl (T c)).contains 59 && decide ((T c).length ≤ 16) && (tl (T c)).all (· < 128) && decide ((tl (T c)).head? ≠ some 45) && decide (tl (T c) ≠ [])
theorem insts_ok : insts.all tOk = true := by decide +kernel
structure TOk (c : Ins) : Prop where
  sp : Txt.split (T c) (PySem.Str.ofString " ") = W c
  n10 : 10 ∉ tl (T c)
  n59 : 59 ∉ tl (T c)
  len : (T c).length ≤ 16
  asc : ∀ a ∈ tl (T c), a < 128
  hd : (tl (T c)).head? ≠ some 45
  ne : tl (T c) ≠ []
theorem t_ok {c : Ins} (h : c.ok) : TOk c := by
  have := List.all_eq_true.mp insts_ok c (ok_mem h)
  simp only [tOk, Bool.and_eq_true, decide_eq_true_eq, Bool.not_eq_true', List.contains_eq_mem, decide_eq_false_iff_not, List.all_eq_true] at this
  obtain ⟨⟨⟨⟨⟨⟨a, b⟩, c'⟩, d⟩, e⟩, f⟩, g⟩ := this
  exact ⟨a, b, c', d, e, f, g⟩
theorem ok_S {l : List Nat} (h : ∀ a ∈ l, a < 128) : PyData.strOk (SX.S l) = true := by
  simp only [PyData.strOk, SX.S, List.all_toArray', List.size_toArray, List.all_toArray]
  exact List.all_eq_true.mpr fun a ha => decide_eq_true (by have := h a ha; omega)
theorem num_ok (s : S) {r : Int} (h0 : 0 ≤ r) (h1 : r < 4) : F_number_in [.str (num r)] s = .ok (.int r) s := by
  have key : ∀ (w : Str) (k : Int), PyData.strOk w = true → (w == PySem.Str.ofString "") = false → signs w = [.str w] → w.length = 1 → PySem.intText? w = some k → (some (!(Builtin.Str.occurrences (PySem.Str.ofString "0123456789") w 0 (PySem.Str.ofString "0123456789").length 1).isEmpty) : Option Bool) = some true →
      F_number_in [.str w] s = .ok (.int k) s := fun w k a1 a2 a3 a4 a5 a6 => by
    have a7 : inD s (.str w) c_FIGURES = some true := a6
    have a8 : eqD s (.str w) (.str (PySem.Str.ofString "")) = some false := by rw [eqD_str s _ _ a1 (by decide +kernel), a2]
    have a9 : fAll s (.lst [.bl true]) = some (.bl true) := rfl
    simp [F_number_in, b_number_in, a8, a3, a7, a9, fLen, a4, fIntS, a5]
  have hr : r = 0 ∨ r = 1 ∨ r = 2 ∨ r = 3 := by omega
  rcases hr with rfl | rfl | rfl | rfl <;> exact key _ _ (by decide +kernel) (by decide +kernel) (congrArg (fun l : List Nat => l.map fun c => D.str ⟨#[c]⟩) (by decide +kernel : _ = ([_] : List Nat))) (by decide +kernel) (by decide +kernel) (by decide +kernel)
end G


set_option Elab.async false
set_option linter.all false
set_option maxRecDepth 100000
set_option maxHeartbeats 4000000
namespace G
open PySem PySem.Spec L2 J
theorem mem_joinL {a : Nat} {sep : List Nat} : ∀ {ps : List (List Nat)}, a ∈ TL.joinL sep ps → a ∈ sep ∨ ∃ p ∈ ps, a ∈ p
  | [], h => by cases h
  | [p], h => .inr ⟨p, List.mem_cons_self, h⟩
  | p :: q :: r, h => by
    simp only [TL.joinL, List.mem_append] at h
    rcases h with h | h | h
    · exact .inr ⟨p, List.mem_cons_self, h⟩
    · exact .inl h
    · rcases mem_joinL h with h | ⟨z, hz, ha⟩
      · exact .inl h
      · exact .inr ⟨z, List.mem_cons_of_mem _ hz, ha⟩
theorem len_joinL {sep : List Nat} {k : Nat} : ∀ {ps : List (List Nat)}, (∀ p ∈ ps, p.length ≤ k) → (TL.joinL sep ps).length ≤ ps.length * (k + sep.length)
  | [], _ => by simp [TL.joinL]
  | [p], h => by have := h p List.mem_cons_self; simp [TL.joinL]; omega
  | p :: q :: r, h => by
    have h1 := h p List.mem_cons_self
    have h2 := len_joinL (sep := sep) (k := k) (ps := q :: r) fun z hz => h z (List.mem_cons_of_mem _ hz)
    simp only [TL.joinL, List.length_append, List.length_cons] at h2 ⊢
    have : (r.length + 1 + 1) * (k + sep.length) = (r.length + 1) * (k + sep.length) + (k + sep.length) := Nat.succ_mul _ _
    omega
theorem head_joinL {sep : List Nat} {p : List Nat} {ps : List (List Nat)} (hp : p ≠ []) : (TL.joinL sep (p :: ps)).head? = p.head? := by
  cases p with
  | nil => exact absurd rfl hp
  | cons a p => cases ps <;> rfl
theorem sum_le {k : Nat} : ∀ {l : List Nat}, (∀ x ∈ l, x ≤ k) → l.sum ≤ l.length * k
  | [], _ => by simp
  | x :: l, h => by
    have h1 := h x List.mem_cons_self
    have h2 := sum_le (k := k) (l := l) fun z hz => h z (List.mem_cons_of_mem _ hz)
    simp only [List.sum_cons, List.length_cons, Nat.succ_mul]
    omega
theorem join_T (cs : List (List Nat)) (sep : Str) : Txt.join sep (cs.map SX.S) = SX.S (TL.joinL (tl sep) cs) := by
  have := SX.join_S (tl sep) cs
  rwa [S_tl'] at this
theorem split_join {c : Nat} {r : List Nat} {sep : Str} (hs : tl sep = c :: r) (hk : (c :: r).all (· < 256) = true) {ps : List (List Nat)} (hne : ps ≠ []) (h : ∀ p ∈ ps, c ∉ p) : Txt.split (SX.S (TL.joinL (tl sep) ps)) sep = ps.map SX.S := by
  have e : sep = SX.S (c :: r) := by rw [← hs, S_tl']
  rw [hs]
  conv => lhs; rw [e]
  rw [SX.split_S (List.cons_ne_nil _ _) hk, SX.spl_join hne h]
def sepI : Str := PySem.Str.ofString "; "
def sepL : Str := PySem.Str.ofString "\n"
def sepW : Str := PySem.Str.ofString " "
def dash : Str := PySem.Str.ofString "-"
theorem tl_I : tl sepI = [59, 32] := by decide +kernel
theorem tl_L : tl sepL = [10] := by decide +kernel
theorem tl_W : tl sepW = [32] := by decide +kernel
theorem dash_S : dash = SX.S [45] := by decide +kernel
/-- a core's line -/
def Lc (cs : List Ins) : List Nat := if cs = [] then [45] else TL.joinL (tl sepI) (cs.map fun c => tl (T c))
structure Core (cs : List Ins) : Prop where
  ok : ∀ c ∈ cs, c.ok
  len : cs.length ≤ 5
theorem Lc_mem {cs : List Ins} (C : Core cs) {a : Nat} (h : a ∈ Lc cs) : a < 128 ∧ a ≠ 10 := by
  unfold Lc at h
  split at h
  · have : a = 45 := by simpa using h
    omega
  · rcases mem_joinL h with h | ⟨p, hp, h⟩
    · rw [tl_I] at h
      have : a = 59 ∨ a = 32 := by simpa using h
      omega
    · obtain ⟨c, hc, rfl⟩ := List.mem_map.mp hp
      have t := t_ok (C.ok c hc)
      exact ⟨t.asc a h, fun z => t.n10 (z ▸ h)⟩
theorem Lc_len {cs : List Ins} (C : Core cs) : (Lc cs).length ≤ 90 := by
  unfold Lc
  split
  · simp
  · have := len_joinL (sep := tl sepI) (k := 16) (ps := cs.map fun c => tl (T c)) fun p hp => by
      obtain ⟨c, hc, rfl⟩ := List.mem_map.mp hp
      have := (t_ok (C.ok c hc)).len
      simpa [tl, Str.length] using this
    rw [tl_I] at this
    simp only [List.length_map, List.length_cons, List.length_nil] at this
    have h5 := C.len
    rw [tl_I]
    have : cs.length * (16 + (0 + 1 + 1)) ≤ 5 * 18 := Nat.mul_le_mul h5 (by omega)
    omega
theorem Lc_dash {cs : List Ins} (C : Core cs) (hne : cs ≠ []) : (SX.S (Lc cs) == dash) = false := by
  rw [dash_S, SX.S_beq_eq]
  refine decide_eq_false fun z => ?_
  unfold Lc at z
  rw [if_neg hne] at z
  cases cs with
  | nil => exact hne rfl
  | cons c cs =>
    have t := t_ok (C.ok c List.mem_cons_self)
    have := head_joinL (sep := tl sepI) (ps := cs.map fun c => tl (T c)) t.ne
    rw [List.map_cons] at z
    rw [z] at this
    exact t.hd this.symm
theorem T_S (cs : List Ins) : cs.map T = (cs.map fun c => tl (T c)).map SX.S := by
  rw [List.map_map]
  exact List.map_congr_left fun c _ => (S_tl' (T c)).symm
/-- one instruction's text -/
theorem num_str (s : S) {r : Int} (h0 : 0 ≤ r) (h1 : r < 4) : fStr s (.int r) = some (.str (num r)) := by
  have hr : r = 0 ∨ r = 1 ∨ r = 2 ∨ r = 3 := by omega
  rcases hr with rfl | rfl | rfl | rfl <;> rfl
theorem fStr_s (s : S) (x : Str) : fStr s (.str x) = some (.str x) := rfl
def items : Ins → List D
  | .read r x => [.str (PySem.Str.ofString "read"), .int r, .int x]
  | .write x n => [.str (PySem.Str.ofString "write"), .int x, .int n]
  | .copy x r => [.str (PySem.Str.ofString "copy"), .int x, .int r]
  | .fence => [.str (PySem.Str.ofString "fence")]
  | .guard r n => [.str (PySem.Str.ofString "guard"), .int r, .int n]
theorem enc_items (c : Ins) : c.enc = .tup (items c) := by cases c <;> rfl
theorem item_str (s : S) {c : Ins} (h : c.ok) : ∃ f : D → D, (∀ x ∈ items c, fStr s x = some (f x)) ∧ (items c).map f = (W c).map D.str := by
  refine ⟨fun x => match x with | .str y => .str y | .int r => .str (num r) | x => x, fun x hx => ?_, by cases c <;> rfl⟩
  cases c <;> simp only [items, List.mem_cons, List.not_mem_nil, or_false, Ins.ok] at hx h
  · rcases hx with rfl | rfl | rfl
    · rfl
    · exact num_str s (by omega) (by omega)
    · exact num_str s (by omega) (by omega)
  · rcases hx with rfl | rfl | rfl
    · rfl
    · exact num_str s (by omega) (by omega)
    · exact num_str s (by omega) (by omega)
  · rcases hx with rfl | rfl | rfl
    · rfl
    · exact num_str s (by omega) (by omega)
    · exact num_str s (by omega) (by omega)
  · subst hx; rfl
  · rcases hx with rfl | rfl | rfl
    · rfl
    · exact num_str s (by omega) (by omega)
    · exact num_str s (by omega) (by omega)
theorem W_len {c : Ins} (h : c.ok) : ((W c).map (·.length)).sum + (W c).length * 1 ≤ 1000 := by
  have : insts.all (fun c => decide (((W c).map (·.length)).sum + (W c).length * 1 ≤ 1000)) = true := by decide +kernel
  simpa using List.all_eq_true.mp this c (ok_mem h)
end G


set_option Elab.async false
set_option linter.all false
set_option maxRecDepth 100000
set_option maxHeartbeats 4000000
namespace G
open PySem PySem.Spec L2 J
theorem lenW : (PySem.Str.ofString " ").length = 1 := by decide +kernel
theorem lenI : (PySem.Str.ofString "; ").length = 2 := by decide +kernel
theorem lenL : (PySem.Str.ofString "\n").length = 1 := by decide +kernel
theorem instr_in_ok (s : S) {c : Ins} (h : c.ok) : F_instruction_in [.str (T c)] s = .ok c.enc s := by
  have t := t_ok h
  have t1 : (T c).length + 2 ≤ 16777216 := by have := t.len; omega
  have k0 : ∀ x : D, cutD [x] none (some 1) = [x] := fun _ => rfl
  have k1 : ∀ x : D, cutD [x] (some 1) none = [] := fun _ => rfl
  have k2 : ∀ x y z : D, cutD [x, y, z] none (some 1) = [x] := fun _ _ _ => rfl
  have k3 : ∀ x y z : D, cutD [x, y, z] (some 1) none = [y, z] := fun _ _ _ => rfl
  have sp := t.sp
  cases c with
  | fence => simp [F_instruction_in, b_instruction_in, fSplit, lenW, t1, sp, W, k0, k1, fAdd, Ins.enc]
  | write x n =>
    obtain ⟨h1, h2, h3, h4⟩ := h
    have n1 := num_ok s h1 (by omega)
    have n2 := num_ok s (r := n) (by omega) h4
    simp [F_instruction_in, b_instruction_in, fSplit, lenW, t1, sp, W, k2, k3, fAdd, Ins.enc, n1, n2]
  | _ =>
    obtain ⟨h1, h2, h3, h4⟩ := h
    have n1 := num_ok s h1 (by omega)
    have n2 := num_ok s h3 (by omega)
    simp [F_instruction_in, b_instruction_in, fSplit, lenW, t1, sp, W, k2, k3, fAdd, Ins.enc, n1, n2]
theorem one_line (s : S) {c : Ins} (h : c.ok) {i j : Nat} (hij : i ≠ j) (ρ : J.Env) (hi : i < ρ.length) (hj : ρ[j]? = some (some c.enc)) :
    gM1 fJoin (gC (.str (PySem.Str.ofString " "))) (gLc [i] (gItems (gVar j)) (dName i) gYes (gF (f1 fStr) (gaCons (gVar i) gaNil))) ρ s = .ok (.str (T c)) s := by
  obtain ⟨f, hf, hm⟩ := item_str s h
  have hl : (items c).length ≤ 16777216 := by cases c <;> simp [items]
  have hw := W_len h
  have hw2 : ((W c).map (·.length)).sum + (W c).length ≤ 16777216 := by omega
  have e : lcLoop (dName i) gYes (gF (f1 fStr) (gaCons (gVar i) gaNil)) (ρ.set i none) (items c) s = .ok ((W c).map D.str) s := by
    rw [lcLoop_pure (fun _ => true) f _ fun x hx => ⟨(ρ.set i none).set i (some x), by simp, by simp, fun _ => by simp [hi, hf x hx]⟩]
    rw [List.filter_eq_self.mpr fun _ _ => rfl, hm]
  simp [hj, enc_items, hl, e, fJoin, itemsLT, itemsL, strsD_map, lenW, hw2, T]
theorem lines_ok (s : S) {i j : Nat} (hij : i ≠ j) : ∀ (cs : List Ins), (∀ c ∈ cs, c.ok) → ∀ (ρ : J.Env), i < ρ.length → j < ρ.length →
    lcLoop (dName j) gYes (gM1 fJoin (gC (.str (PySem.Str.ofString " "))) (gLc [i] (gItems (gVar j)) (dName i) gYes (gF (f1 fStr) (gaCons (gVar i) gaNil)))) ρ (cs.map Ins.enc) s = .ok ((cs.map T).map D.str) s
  | [], _, _, _, _ => rfl
  | c :: cs, h, ρ, hi, hj => by
    have e1 := one_line s (h c List.mem_cons_self) hij (ρ.set j (some c.enc)) (by simpa using hi) (by simp [hj])
    have e2 := lines_ok s hij cs (fun z hz => h z (List.mem_cons_of_mem _ hz)) ρ hi hj
    rw [List.map_cons, lc_cons]
    simp only [ap_dName, ap_yes, noErr_okk, R.bd_ok, if_true, e1, e2, List.map_cons]
theorem lcIn (s : S) : ∀ (cs : List Ins), (∀ c ∈ cs, c.ok) → ∀ (ρ : J.Env), 1 < ρ.length →
    lcLoop (dName 1) gYes (gCall 1 F_instruction_in (gaCons (gVar 1) gaNil)) ρ ((cs.map T).map D.str) s = .ok (cs.map Ins.enc) s
  | [], _, _, _ => rfl
  | c :: cs, h, ρ, hi => by
    have e1 := instr_in_ok s (h c List.mem_cons_self)
    have e2 := lcIn s cs (fun z hz => h z (List.mem_cons_of_mem _ hz)) ρ hi
    rw [List.map_cons, List.map_cons, lc_cons]
    simp [e1, hi, -List.map_map, e2]
theorem ok_dash : PyData.strOk (PySem.Str.ofString "-") = true := by decide +kernel
theorem core_in_ok (s : S) {cs : List Ins} (C : Core cs) : F_core_in [.str (SX.S (Lc cs))] s = .ok (.tup (cs.map Ins.enc)) s := by
  by_cases hne : cs = []
  · subst hne
    have e : SX.S (Lc []) = PySem.Str.ofString "-" := dash_S.symm
    rw [e]
    simp [F_core_in, b_core_in, eqD_str _ _ _ ok_dash ok_dash]
  · have e1 : eqD s (.str (SX.S (Lc cs))) (.str (PySem.Str.ofString "-")) = some false := by
      rw [eqD_str _ _ _ (ok_S fun a ha => (Lc_mem C ha).1) ok_dash]
      exact congrArg some (Lc_dash C hne)
    have e2 : (SX.S (Lc cs)).length + 2 ≤ 16777216 := by rw [SX.S_len]; have := Lc_len C; omega
    have e3 : Txt.split (SX.S (Lc cs)) (PySem.Str.ofString "; ") = cs.map T := by
      have := split_join (sep := sepI) tl_I (by decide) (ps := cs.map fun c => tl (T c)) (by simpa using hne) fun p hp => by
        obtain ⟨c, hc, rfl⟩ := List.mem_map.mp hp
        exact (t_ok (C.ok c hc)).n59
      rw [T_S, ← this]
      unfold Lc
      rw [if_neg hne]; rfl
    have e4 := lcIn s cs C.ok [some (.str (SX.S (Lc cs))), none] (by simp)
    have e5 : cs.length ≤ 16777216 := by have := C.len; omega
    have e6 := List.map_map (f := T) (g := D.str) (l := cs)
    simp [F_core_in, b_core_in, e1, fSplit, lenI, e2, e3, e5, -List.map_map, e4]
structure Prog (p : List (List Ins)) : Prop where
  c : ∀ cs ∈ p, Core cs
  l : 1 ≤ p.length
  u : p.length ≤ 3
  s : (p.map List.length).sum ≤ 10
def encC (cs : List Ins) : D := .tup (cs.map Ins.enc)
/-- a loop over what is listed, by what was done -/
theorem forAcc {α : Type} {t : TD} {b : GS} (f : α → D) (xs0 : List α) (I : List α → J.Env → S → Prop) (st : ∀ dn x rest ρ s, xs0 = dn ++ x :: rest → I dn ρ s → ∃ ρ1 ρ2 s2, t (f x) ρ = some ρ1 ∧ b ρ1 s = .ok (.nx ρ2) s2 ∧ I (dn ++ [x]) ρ2 s2) :
    ∀ (xs dn : List α) (ρ : J.Env) (s : S), xs0 = dn ++ xs → I dn ρ s → ∃ ρ' s', forLoop t b (xs.map f) ρ s = .ok (.nx ρ') s' ∧ I xs0 ρ' s'
  | [], dn, ρ, s, e, h => ⟨ρ, s, rfl, by rw [e, List.append_nil]; exact h⟩
  | x :: xs, dn, ρ, s, e, h => by
    obtain ⟨ρ1, ρ2, s2, h1, h2, h3⟩ := st dn x xs ρ s e h
    obtain ⟨ρ', s', e4, p⟩ := forAcc f xs0 I st xs (dn ++ [x]) ρ2 s2 (by rw [e]; simp) h3
    refine ⟨ρ', s', ?_, p⟩
    show (match t (f x) ρ with | none => R.no | some ρ1 => (b ρ1 s).bind _) = _
    rw [h1]
    simp only [h2, R.bind_ok, e4]
theorem lens_ok (s : S) {i : Nat} : ∀ (p : List (List Ins)) (ρ : J.Env), i < ρ.length → lcLoop (dName i) gYes (gF (f1 fLen) (gaCons (gVar i) gaNil)) ρ (p.map encC) s = .ok ((p.map fun cs => ((cs.length : Nat) : Int)).map D.int) s
  | [], _, _ => rfl
  | cs :: p, ρ, hi => by
    have e2 := lens_ok s p ρ hi
    rw [List.map_cons, lc_cons]
    simp [hi, encC, -List.map_map, e2] at e2 ⊢
theorem intsD_map : ∀ ns : List Int, intsD (ns.map D.int) = some ns
  | [] => rfl
  | n :: ns => by simp [intsD, intsD_map ns]
theorem fSum_ints (s : S) (ns : List Int) : fSum s (.lst (ns.map D.int)) = some (.int ns.sum) := by simp [fSum, itemsL, intsD_map]
theorem sum_cast : ∀ p : List (List Ins), (p.map fun cs => ((cs.length : Nat) : Int)).sum = (((p.map List.length).sum : Nat) : Int)
  | [] => rfl
  | cs :: p => by simp [sum_cast p]
theorem sum_take : ∀ (l : List Nat) (k : Nat), (l.take k).sum ≤ l.sum
  | [], k => by simp
  | x :: l, 0 => by simp
  | x :: l, k + 1 => by have := sum_take l k; simp; omega
theorem cut_to (xs : List D) (k : Nat) (h : k + 1 ≤ xs.length) : cutD xs none (some ((k : Int) + 1)) = xs.take (k + 1) := by
  have e1 : HT.sIx xs.length 0 none = 0 := rfl
  have e2 : HT.sIx xs.length xs.length (some ((k : Int) + 1)) = k + 1 := by
    unfold HT.sIx
    simp only
    rw [if_neg (by omega)]
    omega
  simp [cutD, e1, e2]
end G


set_option Elab.async false
set_option linter.all false
set_option maxRecDepth 100000
set_option maxHeartbeats 4000000
namespace G
open PySem PySem.Spec L2 J
@[simp] theorem ap_App (go ge : GE) (ρ : J.Env) (s : S) : gApp go ge ρ s = (go ρ s).bd (fun x s1 => match x with
  | .obj n => (match s1[n]? with
    | some (.lst _) => (ge ρ s1).bd (fun y s2 => (match s2[n]? with
      | some (.lst ds) => if fitL (ds.length + 1) then .ok .non (s2.set n (.lst (ds ++ [y]))) else .no
      | _ => .no)) .mk
    | _ => .no)
  | _ => .no) .mk := id rfl
@[simp] theorem ap_never (ρ : J.Env) (s : S) : sNever ρ s = .no := id rfl
@[simp] theorem ap_par3 (i j l : Nat) (gr : GA) (ρ : J.Env) (s : S) : sPar3 i j l gr ρ s = (gr ρ s).bd (fun ds s1 => match ds with | [d, e, f] => .ok (.nx (((ρ.set i (some d)).set j (some e)).set l (some f))) s1 | _ => .no) .mk := id rfl
theorem forInv {t : TD} {b : GS} (P : J.Env → S → Prop) : ∀ (xs : List D) (ρ : J.Env) (s : S), P ρ s → (∀ x ∈ xs, ∀ ρ s, P ρ s → ∃ ρ1 ρ2 s2, t x ρ = some ρ1 ∧ b ρ1 s = .ok (.nx ρ2) s2 ∧ P ρ2 s2) → ∃ ρ' s', forLoop t b xs ρ s = .ok (.nx ρ') s' ∧ P ρ' s'
  | [], ρ, s, hP, _ => ⟨ρ, s, rfl, hP⟩
  | x :: xs, ρ, s, hP, h => by
    obtain ⟨ρ1, ρ2, s2, h1, h2, h3⟩ := h x List.mem_cons_self ρ s hP
    obtain ⟨ρ', s', e, p⟩ := forInv P xs ρ2 s2 h3 fun y hy => h y (List.mem_cons_of_mem _ hy)
    refine ⟨ρ', s', ?_, p⟩
    show (match t x ρ with | none => R.no | some ρ1 => (b ρ1 s).bind _) = _
    rw [h1]
    simp only [h2, R.bind_ok, e]
theorem at_end (s0 : S) (o : IO) : (s0 ++ [o])[s0.length]? = some o := by simp
theorem set_end (s0 : S) (o o' : IO) : (s0 ++ [o]).set s0.length o' = s0 ++ [o'] := by simp
theorem is_listP (s : S) {p : List (List Ins)} (P : Prog p) : F_is_list [.tup (p.map encC), .int 1, .int 3] s = .ok (.bl true) s := by
  have h1 : (1 : Int) ≤ p.length := by have := P.l; omega
  have h2 : (p.length : Int) ≤ 3 := by have := P.u; omega
  simp [F_is_list, b_is_list, h1, h2]
theorem encC_core (s : S) {cs : List Ins} (C : Core cs) : F_is_core [encC cs] s = .ok (.bl true) s := is_core_ok C.ok C.len s
theorem need_prog_ok (s : S) {p : List (List Ins)} (P : Prog p) : F_need_program [.tup (p.map encC)] s = .ok .non s := by
  have hk : okR (p.length : Int) = true := by have := P.u; simp [okR]; omega
  have hk2 : (rangeD 0 (p.length : Int)).length ≤ 16777216 := by have := P.u; simp [rangeD]; omega
  obtain ⟨ρ', s', e, ⟨y, rfl⟩, rfl⟩ := forInv (t := dName 1) (b := sIf (gOr (gNot (gB (gCall 1 (F_is_core) (gaCons (gOp2 fIdx (gVar 0) (gVar 1)) (gaNil))))) (gB (gOp2 fGt (gF (f1 fSum) (gaCons (gLc [2] (gItems (gSl (gVar 0) (goNone) (goSome (gOp2 fAdd (gVar 1) (gC (.int 1)))))) (dName 2) (gYes) (gF (f1 fLen) (gaCons (gVar 2) (gaNil)))) (gaNil))) (gC c_MOST_PROGRAM)))) (sNever) (sNext)) (fun ρ s1 => (∃ y, ρ = [some (.tup (p.map encC)), y, none]) ∧ s1 = s) (rangeD 0 (p.length : Int)) [some (.tup (p.map encC)), none, none] s ⟨⟨none, rfl⟩, rfl⟩ fun x hx ρ s1 ⟨⟨y, eρ⟩, es⟩ => by
    subst eρ
    simp only [rangeD, List.mem_map, List.mem_range] at hx
    obtain ⟨k, hk, rfl⟩ := hx
    have hk3 : k < p.length := by omega
    have e0 : atI (p.map encC) (k : Int) = some (encC p[k]) := by rw [atI_nat _ _ (by simpa using hk3)]; simp
    have e1 := encC_core s1 (P.c p[k] (List.getElem_mem hk3))
    have e2 : cutD (p.map encC) none (some ((k : Int) + 1)) = (p.take (k + 1)).map encC := by rw [cut_to _ _ (by simp; omega), List.map_take]
    have e3 := lens_ok s1 (i := 2) (p.take (k + 1)) [some (.tup (p.map encC)), some (.int k), none] (by simp)
    have e4 : min (k + 1) p.length ≤ 16777216 := Nat.le_trans (Nat.min_le_right _ _) (by have := P.u; omega)
    have e5 := fSum_ints s1 ((p.take (k + 1)).map fun cs => ((cs.length : Nat) : Int))
    have e6 : ¬ ((10 : Int) < ((p.take (k + 1)).map fun cs => ((cs.length : Nat) : Int)).sum) := by
      rw [sum_cast]
      have := sum_take (p.map List.length) (k + 1)
      have h10 := P.s
      rw [List.map_take]
      omega
    refine ⟨_, [some (.tup (p.map encC)), some (.int k), none], s1, rfl, ?_, ⟨_, rfl⟩, es⟩
    simp [e0, e1, e2, e4, -List.map_take, -List.map_map, e3, e5, c_MOST_PROGRAM, e6]
  simp [F_need_program, b_need_program, is_listP s' P, c_MOST_CORES, hk, e]
theorem join_line {cs : List Ins} (hne : cs ≠ []) : Txt.join (PySem.Str.ofString "; ") (cs.map T) = SX.S (Lc cs) := by
  rw [T_S]
  have := join_T (cs.map fun c => tl (T c)) sepI
  unfold Lc
  rw [if_neg hne]
  exact this
theorem line_size (s : S) {cs : List Ins} (C : Core cs) : ((cs.map T).map (·.length)).sum + (cs.map T).length * 2 ≤ 16777216 := by
  have h1 := sum_le (k := 16) (l := (cs.map T).map (·.length)) fun x hx => by
    simp only [List.mem_map] at hx
    obtain ⟨y, ⟨c, hc, rfl⟩, rfl⟩ := hx
    exact (t_ok (C.ok c hc)).len
  have := C.len
  simp only [List.length_map] at h1 ⊢
  omega
def lineD (cs : List Ins) : D := .str (SX.S (Lc cs))
theorem text_join (p : List (List Ins)) : Txt.join (PySem.Str.ofString "\n") (p.map fun cs => SX.S (Lc cs)) = SX.S (TL.joinL (tl sepL) (p.map Lc)) := by
  have := join_T (p.map Lc) sepL
  rw [List.map_map] at this
  exact this
theorem text_size {p : List (List Ins)} (P : Prog p) : ((p.map fun cs => SX.S (Lc cs)).map (·.length)).sum + (p.map fun cs => SX.S (Lc cs)).length * 1 ≤ 16777216 := by
  have h1 := sum_le (k := 90) (l := (p.map fun cs => SX.S (Lc cs)).map (·.length)) fun x hx => by
    simp only [List.mem_map] at hx
    obtain ⟨y, ⟨cs, hc, rfl⟩, rfl⟩ := hx
    rw [SX.S_len]
    exact Lc_len (P.c cs hc)
  have := P.u
  simp only [List.length_map] at h1 ⊢
  omega
def textS (p : List (List Ins)) : Str := SX.S (TL.joinL (tl sepL) (p.map Lc))
theorem strs_lines (p : List (List Ins)) : strsD (p.map lineD) = some (p.map fun cs => SX.S (Lc cs)) := by
  have := strsD_map (p.map fun cs => SX.S (Lc cs))
  rw [List.map_map] at this
  exact this
theorem ne_nilS (s : S) (x : Str) (xs : List Str) (h : ∀ z ∈ x :: xs, PyData.strOk z = true) : eqD s (.lst ((x :: xs).map D.str)) (.lst []) = some false := by
  have h2 := (shaped_strs (x :: xs) h).2
  have h0 : SeqAt.shaped (.list []) = true := by simp [SeqAt.shaped, PyData.canLay0, PyData.canLayAll0, PyData.depth, PyData.depthAll]
  have h3 : (D.lst ((x :: xs).map D.str)).toPy = some (.list ((x :: xs).map PyData.str)) := by simp only [D.toPy, strs_toPys]; rfl
  have h4 : (D.lst []).toPy = some (.list []) := by simp [D.toPy, D.toPys]
  simp only [eqD, deref, h3, h4, h2, h0, Bool.and_self, if_true]
  simp [PyData.eqv, PyData.eqvAll]
theorem eq_nil (s : S) : eqD s (.lst []) (.lst []) = some true := by simp [eqD, deref, D.toPy, D.toPys, SeqAt.shaped, PyData.canLay0, PyData.canLayAll0, PyData.depth, PyData.depthAll, PyData.eqv, PyData.eqvAll]
theorem T_okS {cs : List Ins} (C : Core cs) : ∀ z ∈ cs.map T, PyData.strOk z = true := fun z hz => by
  obtain ⟨c, hc, rfl⟩ := List.mem_map.mp hz
  have := ok_S (t_ok (C.ok c hc)).asc
  rwa [S_tl'] at this
def b_wl : GS := (sSeq (sAsg (gLc [4] (gItems (gVar 2)) (dName 4) (gYes) (gM1 fJoin (gC (.str (PySem.Str.ofString " "))) (gLc [5] (gItems (gVar 4)) (dName 5) (gYes) (gF (f1 fStr) (gaCons (gVar 5) (gaNil)))))) (dName 3)) (sExpr (gApp (gVar 1) (gIf (gB (gOp2 fNe (gVar 3) (gLst (gaNil)))) (gM1 fJoin (gC (.str (PySem.Str.ofString "; "))) (gVar 3)) (gC (.str (PySem.Str.ofString "-")))))))
theorem write_ok (s : S) {p : List (List Ins)} (P : Prog p) : ∃ s', F_write_program [.tup (p.map encC)] s = .ok (.str (textS p)) s' ∧ ∃ t, s' = s ++ t := by
  obtain ⟨ρ', s', e, ⟨x, y, rfl⟩, rfl⟩ := forAcc (t := dName 2) (b := b_wl) encC p (fun dn ρ s1 => (∃ x y, ρ = [some (.tup (p.map encC)), some (.obj s.length), x, y, none, none]) ∧ s1 = s ++ [.lst (dn.map lineD)]) (fun dn cs rest ρ s1 hp ⟨⟨x, y, eρ⟩, es⟩ => by
    subst eρ es
    have C : Core cs := P.c cs (by rw [hp]; simp)
    have hd : dn.length ≤ 3 := by have := P.u; rw [hp] at this; simp at this; omega
    have h2 : cs.length ≤ 16777216 := by have := C.len; omega
    have e1 := lines_ok (s ++ [.lst (dn.map lineD)]) (i := 5) (j := 4) (by decide) cs C.ok [some (.tup (p.map encC)), some (.obj s.length), some (encC cs), y, none, none] (by simp) (by simp)
    have h3 := line_size s C
    refine ⟨_, [some (.tup (p.map encC)), some (.obj s.length), some (encC cs), some (.lst ((cs.map T).map D.str)), none, none], s ++ [.lst ((dn ++ [cs]).map lineD)], rfl, ?_, ⟨_, _, rfl⟩, rfl⟩
    by_cases hne : cs = []
    · subst hne
      have hd1 : lineD [] = .str (PySem.Str.ofString "-") := congrArg D.str dash_S.symm
      have h4 : dn.length + 1 ≤ 16777216 := by omega
      simp [encC] at e1
      simp [b_wl, encC, e1, eq_nil, at_end, set_end, hd1, h4]
    · obtain ⟨c, cs', rfl⟩ := List.exists_cons_of_ne_nil hne
      have h5 := ne_nilS (s ++ [.lst (dn.map lineD)]) (T c) (cs'.map T) (T_okS C)
      have h4 : dn.length + 1 ≤ 16777216 := by omega
      have h6 := join_line hne
      have h7 := strsD_map ((c :: cs').map T)
      simp only [encC] at e1 ⊢
      generalize hL : (c :: cs').map T = L at *
      have h5' : eqD (s ++ [.lst (dn.map lineD)]) (.lst (L.map D.str)) (.lst []) = some false := by rw [← hL]; exact h5
      have h8 : (cs'.length + 1) ≤ 16777216 := h2
      generalize hE : (c :: cs').map Ins.enc = E at *
      have hEl : E.length ≤ 16777216 := by rw [← hE]; simpa using h8
      simp [b_wl, hEl, -List.map_map, e1, h5', at_end, set_end, fJoin, itemsLT, itemsL, h7, lenI, h3, h6, lineD, h4]) p [] [some (.tup (p.map encC)), some (.obj s.length), none, none, none, none] (s ++ [.lst []]) rfl ⟨⟨none, none, rfl⟩, rfl⟩
  refine ⟨s ++ [.lst (p.map lineD)], ?_, _, rfl⟩
  have h1 := need_prog_ok s P
  unfold b_wl at e
  have h2 := text_size P
  have h3 := strs_lines p
  have h4 := text_join p
  simp [F_write_program, b_write_program, h1, e, fJoin, itemsLT, itemsL, at_end, h3, lenL]
  rw [if_pos (by simpa [lenL] using h2)]
  simp [h4, textS]
end G


set_option Elab.async false
set_option linter.all false
set_option maxRecDepth 100000
set_option maxHeartbeats 4000000
namespace G
open PySem PySem.Spec L2 J
@[simp] theorem ap_LcM (i : Nat) (gi ge : GE) (ρ : J.Env) (s : S) : gLcM i gi ge ρ s = (gi ρ s).bd (fun d s1 => match itemsL s1 d with
  | some ds => if fitL ds.length then (lcM ge i (wipeD [i] ρ) s1 ds).bd (fun ys s2 => .ok (.lst ys) s2) .mk else .no
  | none => .no) .mk := id rfl
theorem lensM_ok (s : S) {i : Nat} : ∀ (p : List (List Ins)) (ρ : J.Env), i < ρ.length → lcM (gF (f1 fLen) (gaCons (gVar i) gaNil)) i ρ s (p.map encC) = .ok ((p.map fun cs => ((cs.length : Nat) : Int)).map D.int) s
  | [], _, _ => rfl
  | cs :: p, ρ, hi => by
    have e2 := lensM_ok s p ρ hi
    have e1 : gF (f1 fLen) (gaCons (gVar i) gaNil) (ρ.set i (some (encC cs))) s = .ok (.int (cs.length : Nat)) s := by simp [hi, encC]
    show (noErr (gF (f1 fLen) (gaCons (gVar i) gaNil) (ρ.set i (some (encC cs))) s)).bind _ = _
    rw [e1, noErr_okk, R.bind_ok, e2, R.bind_ok]; rfl
theorem need_text_ok (s : S) (x : Str) : F_need_text [.str x] s = .ok .non s := by simp [F_need_text, b_need_text]
theorem text_len {p : List (List Ins)} (P : Prog p) : (textS p).length ≤ 300 := by
  unfold textS
  rw [SX.S_len]
  have := len_joinL (sep := tl sepL) (k := 90) (ps := p.map Lc) fun z hz => by
    obtain ⟨cs, hc, rfl⟩ := List.mem_map.mp hz
    exact Lc_len (P.c cs hc)
  rw [tl_L] at this ⊢
  simp only [List.length_map, List.length_cons, List.length_nil] at this
  have h3 := P.u
  have : p.length * (90 + (0 + 1)) ≤ 3 * 91 := Nat.mul_le_mul h3 (by omega)
  omega
theorem text_split {p : List (List Ins)} (P : Prog p) : Txt.split (textS p) (PySem.Str.ofString "\n") = p.map fun cs => SX.S (Lc cs) := by
  have := split_join (sep := sepL) tl_L (by decide) (ps := p.map Lc) (fun z => by have := P.l; simp at z; simp [z] at this) fun q hq => by
    obtain ⟨cs, hc, rfl⟩ := List.mem_map.mp hq
    exact fun z => (Lc_mem (P.c cs hc) z).2 rfl
  rw [List.map_map] at this
  exact this
def b_rl : GS := (sSeq (sAsg (gCall 1 (F_core_in) (gaCons (gOp2 fIdx (gVar 2) (gVar 1)) (gaNil))) (dName 4)) (sSeq (sIf (gOr (gB (gOp2 fEq (gVar 1) (gC c_MOST_CORES))) (gOr (gNot (gB (gCall 1 (F_is_core) (gaCons (gVar 4) (gaNil))))) (gB (gOp2 fGt (gOp2 fAdd (gF (f1 fSum) (gaCons (gLcM 5 (gVar 3) (gF (f1 fLen) (gaCons (gVar 5) (gaNil)))) (gaNil))) (gF (f1 fLen) (gaCons (gVar 4) (gaNil)))) (gC c_MOST_PROGRAM))))) (sRaise1 1 "line" (gOp2 fAdd (gVar 1) (gC (.int 1)))) (sNext)) (sExpr (gApp (gVar 3) (gVar 4)))))
@[simp] theorem ap_raise1 (c : Nat) (f : Str) (ge : GE) (ρ : J.Env) (s : S) : sRaise1 c f ge ρ s = (ge ρ s).bd (fun d s1 => .err ⟨c, some (f, d)⟩ s1) .mk := id rfl
/-- the length of what was read -/
theorem lens_sum (s : S) (q : List (List Ins)) (hl : q.length ≤ 100) (x1 x2 x3 x4 : Option D) : lcM (gF (f1 fLen) (gaCons (gVar 5) gaNil)) 5 [x1, x2, x3, x4, some x5, none] s (q.map fun cs => D.tup (cs.map Ins.enc)) = .ok ((q.map fun cs => ((cs.length : Nat) : Int)).map D.int) s :=
  lensM_ok s q [x1, x2, x3, x4, some x5, none] (by simp)
theorem rl_good (s : S) (txt : Option D) (xs : List Str) {q : List (List Ins)} {cs : List Ins} (hk : xs[q.length]? = some (SX.S (Lc cs))) (C : Core cs) (h3 : q.length < 3) (hs : (q.map List.length).sum + cs.length ≤ 10) (y : Option D) :
    b_rl [txt, some (.int (q.length : Nat)), some (.lst (xs.map .str)), some (.obj s.length), y, none] (s ++ [.lst (q.map encC)]) = .ok (.nx [txt, some (.int (q.length : Nat)), some (.lst (xs.map .str)), some (.obj s.length), some (encC cs), none]) (s ++ [.lst ((q ++ [cs]).map encC)]) := by
  have hlt : q.length < xs.length := (List.getElem?_eq_some_iff.mp hk).1
  have e1 : atI (xs.map D.str) ((q.length : Nat) : Int) = some (.str (SX.S (Lc cs))) := by rw [atI_nat _ _ (by simpa using hlt), List.getElem_map, (List.getElem?_eq_some_iff.mp hk).2]
  have e2 := core_in_ok (s ++ [.lst (q.map encC)]) C
  have e3 := encC_core (s ++ [.lst (q.map encC)]) C
  have e4 : (((q.length : Nat) : Int) == 3) = false := by simp; omega
  have e6 := fSum_ints (s ++ [.lst (q.map encC)]) (q.map fun cs => ((cs.length : Nat) : Int))
  have e7 : ¬ ((10 : Int) < (q.map fun cs => ((cs.length : Nat) : Int)).sum + (cs.length : Int)) := by
    rw [sum_cast]; omega
  have e8 : q.length ≤ 16777216 := by omega
  have e9 : q.length + 1 ≤ 16777216 := by omega
  have e10 : q.map encC ++ [encC cs] = (q ++ [cs]).map encC := by simp
  rw [← e10]
  simp only [encC] at e2 e3 ⊢
  generalize hA : s ++ [IO.lst (q.map encC)] = A at *
  have e6' : fSum A (.lst ((q.map fun cs => ((cs.length : Nat) : Int)).map D.int)) = some (.int (q.map fun cs => ((cs.length : Nat) : Int)).sum) := by
    have := fSum_ints A (q.map fun cs => ((cs.length : Nat) : Int))
    exact this
  have e5 := lens_sum (x5 := .tup (cs.map Ins.enc)) A q (by omega) txt (some (.int ((q.length : Nat) : Int))) (some (.lst (xs.map D.str))) (some (.obj s.length))
  have hA1 : A[s.length]? = some (.lst (q.map fun cs => D.tup (cs.map Ins.enc))) := by rw [← hA]; exact at_end _ _
  have hA2 : ∀ o, A.set s.length o = s ++ [o] := fun o => by rw [← hA]; exact set_end _ _ _
  simp [b_rl, e1, e2, c_MOST_CORES, e4, e3, itemsL, hA1, e8, -List.map_map, e5, e6', c_MOST_PROGRAM, e7, e9, hA2]
  exact fun _ _ => rfl
/-- a line that cannot stand there -/
theorem rl_bad (s : S) (txt : Option D) (xs : List Str) {q : List (List Ins)} {o : Str} {d : List D} {b : Bool} (hk : xs[q.length]? = some o) (e2 : ∀ s, F_core_in [.str o] s = .ok (.tup d) s) (e3 : ∀ s, F_is_core [.tup d] s = .ok (.bl b) s) (hd : d.length ≤ 1000) (h3 : q.length ≤ 3)
    (hbad : q.length = 3 ∨ b = false ∨ 10 < (q.map List.length).sum + d.length) (y : Option D) :
    b_rl [txt, some (.int (q.length : Nat)), some (.lst (xs.map .str)), some (.obj s.length), y, none] (s ++ [.lst (q.map encC)]) = .err ⟨1, some ("line", .int ((q.length : Nat) + 1))⟩ (s ++ [.lst (q.map encC)]) := by
  have hlt : q.length < xs.length := (List.getElem?_eq_some_iff.mp hk).1
  have e1 : atI (xs.map D.str) ((q.length : Nat) : Int) = some (.str o) := by rw [atI_nat _ _ (by simpa using hlt), List.getElem_map, (List.getElem?_eq_some_iff.mp hk).2]
  have e2 := e2 (s ++ [.lst (q.map encC)])
  have e3 := e3 (s ++ [.lst (q.map encC)])
  have e6 := fSum_ints (s ++ [.lst (q.map encC)]) (q.map fun cs => ((cs.length : Nat) : Int))
  have e8 : q.length ≤ 16777216 := by omega
  have e9 : d.length ≤ 16777216 := by omega
  generalize hA : s ++ [IO.lst (q.map encC)] = A at *
  have e6' : fSum A (.lst ((q.map fun cs => ((cs.length : Nat) : Int)).map D.int)) = some (.int (q.map fun cs => ((cs.length : Nat) : Int)).sum) := fSum_ints A _
  have e5 := lens_sum (x5 := .tup d) A q (by omega) txt (some (.int ((q.length : Nat) : Int))) (some (.lst (xs.map D.str))) (some (.obj s.length))
  have hA1 : A[s.length]? = some (.lst (q.map fun cs => D.tup (cs.map Ins.enc))) := by rw [← hA]; exact at_end _ _
  by_cases h3' : q.length = 3
  · have e4 : (((q.length : Nat) : Int) == 3) = true := by simp [h3']
    simp [b_rl, e1, e2, c_MOST_CORES, e4]
  · have e4 : (((q.length : Nat) : Int) == 3) = false := by simp; omega
    cases b with
    | false => simp [b_rl, e1, e2, c_MOST_CORES, e4, e3]
    | true =>
      have e7 : ((10 : Int) < (q.map fun cs => ((cs.length : Nat) : Int)).sum + (d.length : Int)) := by
        rw [sum_cast]
        rcases hbad with z | z | z
        · exact absurd z h3'
        · cases z
        · omega
      simp [b_rl, e1, e2, c_MOST_CORES, e4, e3, itemsL, hA1, e8, -List.map_map, e5, e6', c_MOST_PROGRAM, e7, e9]
theorem forLoop_nx {t : TD} {b : GS} {x : D} {xs : List D} {ρ ρ1 ρ2 : J.Env} {s s1 : S} (h1 : t x ρ = some ρ1) (h2 : b ρ1 s = .ok (.nx ρ2) s1) : forLoop t b (x :: xs) ρ s = forLoop t b xs ρ2 s1 := by
  show (match t x ρ with | none => R.no | some ρ1 => (b ρ1 s).bind fun f s1 => match f with | .nx ρ2 => forLoop t b xs ρ2 s1 | .ct ρ2 => forLoop t b xs ρ2 s1 | .bk ρ2 => .ok (.nx ρ2) s1 | .rt d => .ok (.rt d) s1) = _
  rw [h1]
  simp only [h2, R.bind_ok]
theorem forLoop_err {t : TD} {b : GS} {x : D} {xs : List D} {ρ ρ1 : J.Env} {s s1 : S} {e : Ex} (h1 : t x ρ = some ρ1) (h2 : b ρ1 s = .err e s1) : forLoop t b (x :: xs) ρ s = .err e s1 := by
  show (match t x ρ with | none => R.no | some ρ1 => (b ρ1 s).bind fun f s1 => match f with | .nx ρ2 => forLoop t b xs ρ2 s1 | .ct ρ2 => forLoop t b xs ρ2 s1 | .bk ρ2 => .ok (.nx ρ2) s1 | .rt d => .ok (.rt d) s1) = _
  rw [h1]
  simp only [h2, R.bind_err]
theorem rl_run (s : S) (txt : Option D) (xs : List Str) (T : List D) : ∀ (r q : List (List Ins)) (x y : Option D), (∀ i cs, r[i]? = some cs → xs[q.length + i]? = some (SX.S (Lc cs))) → (∀ cs ∈ r, Core cs) → q.length + r.length ≤ 3 → ((q ++ r).map List.length).sum ≤ 10 →
    ∃ x' y', forLoop (dName 1) b_rl ((List.range' q.length r.length).map (fun k => D.int ((k : Nat) : Int)) ++ T) [txt, x, some (.lst (xs.map .str)), some (.obj s.length), y, none] (s ++ [.lst (q.map encC)]) =
      forLoop (dName 1) b_rl T [txt, x', some (.lst (xs.map .str)), some (.obj s.length), y', none] (s ++ [.lst ((q ++ r).map encC)])
  | [], q, x, y, _, _, _, _ => ⟨x, y, by simp⟩
  | cs :: r, q, x, y, h1, h2, h3, h4 => by
    have g := rl_good s txt xs (q := q) (cs := cs) (by simpa using h1 0 cs rfl) (h2 cs List.mem_cons_self) (by simp at h3; omega) (by simp at h4; omega) y
    obtain ⟨x', y', e⟩ := rl_run s txt xs T r (q ++ [cs]) (some (.int (q.length : Nat))) (some (encC cs)) (fun i c hc => by
      have := h1 (i + 1) c (by simpa using hc)
      rw [List.length_append, List.length_singleton, Nat.add_assoc, Nat.add_comm 1 i]
      exact this) (fun c hc => h2 c (List.mem_cons_of_mem _ hc)) (by simp at h3 ⊢; omega) (by simpa using h4)
    refine ⟨x', y', ?_⟩
    rw [List.append_assoc, List.singleton_append] at e
    rw [← e, List.length_cons, List.range'_succ, List.map_cons, List.cons_append, List.length_append, List.length_singleton]
    exact forLoop_nx rfl g
theorem rangeD0 (n : Nat) : rangeD 0 (n : Int) = (List.range' 0 n).map fun k => D.int ((k : Nat) : Int) := by
  simp [rangeD, List.range_eq_range']
theorem range_cut (a b : Nat) : List.range' 0 (a + (b + 1)) = List.range' 0 a ++ a :: List.range' (a + 1) b := by
  rw [← List.range'_append_1, Nat.zero_add, List.range'_succ]
def linesS (q : List (List Ins)) (o : List Nat) (rest : List (List Nat)) : List (List Nat) := q.map Lc ++ o :: rest
theorem read_stop (s : S) {q : List (List Ins)} (hq : ∀ cs ∈ q, Core cs) (hs : (q.map List.length).sum ≤ 10) (hu : q.length ≤ 3) (o : List Nat) (rest : List (List Nat)) (hn : ∀ z ∈ linesS q o rest, 10 ∉ z) (hl : (TL.joinL (tl sepL) (linesS q o rest)).length + 2 ≤ 16777216) (hm : rest.length ≤ 100)
    {d : List D} {b : Bool} (e2 : ∀ s, F_core_in [.str (SX.S o)] s = .ok (.tup d) s) (e3 : ∀ s, F_is_core [.tup d] s = .ok (.bl b) s) (hd : d.length ≤ 1000) (hbad : q.length = 3 ∨ b = false ∨ 10 < (q.map List.length).sum + d.length) :
    F_read_program [.str (SX.S (TL.joinL (tl sepL) (linesS q o rest)))] s = .err ⟨1, some ("line", .int ((q.length : Nat) + 1))⟩ (s ++ [.lst (q.map encC)]) := by
  have h1 := split_join (sep := sepL) tl_L (by decide) (ps := linesS q o rest) (by simp [linesS]) hn
  have h1' : Txt.split (SX.S (TL.joinL (tl sepL) (linesS q o rest))) (PySem.Str.ofString "\n") = (linesS q o rest).map SX.S := h1
  have h2 : (SX.S (TL.joinL (tl sepL) (linesS q o rest))).length + 2 ≤ 16777216 := by rw [SX.S_len]; exact hl
  obtain ⟨N, hN⟩ : ∃ N, N = (linesS q o rest).map SX.S := ⟨_, rfl⟩
  have hNl : N.length = q.length + (rest.length + 1) := by rw [hN]; simp [linesS]
  have hk : okR (N.length : Int) = true := by simp [okR, hNl]; omega
  have hg : ∀ i cs, q[i]? = some cs → N[0 + i]? = some (SX.S (Lc cs)) := fun i cs h => by
    rw [hN, Nat.zero_add, List.getElem?_map, linesS, List.getElem?_append_left (by simpa using (List.getElem?_eq_some_iff.mp h).1), List.getElem?_map, h]; rfl
  have ho : N[q.length]? = some (SX.S o) := by
    rw [hN, List.getElem?_map, linesS, List.getElem?_append_right (by simp)]; simp
  generalize hX : SX.S (TL.joinL (tl sepL) (linesS q o rest)) = X at *
  obtain ⟨x', y', e⟩ := rl_run s (some (.str X)) N ((D.int ((q.length : Nat) : Int)) :: (List.range' (q.length + 1) rest.length).map fun k => D.int ((k : Nat) : Int)) q [] none none hg hq (by simpa using hu) (by simpa using hs)
  have g := rl_bad s (some (.str X)) N ho e2 e3 hd hu hbad y'
  simp only [List.length_nil, List.nil_append, List.map_nil] at e
  rw [forLoop_err rfl g] at e
  have er : rangeD 0 (N.length : Int) = (List.range' 0 q.length).map (fun k => D.int ((k : Nat) : Int)) ++ ((D.int ((q.length : Nat) : Int)) :: (List.range' (q.length + 1) rest.length).map fun k => D.int ((k : Nat) : Int)) := by
    rw [rangeD0, hNl, range_cut, List.map_append, List.map_cons]
  rw [← hN] at h1'
  rw [← er] at e
  unfold b_rl at e
  simp [F_read_program, b_read_program, need_text_ok, fSplit, lenL, h2, h1', -List.map_map, hk, e]
theorem read_good (s : S) {q : List (List Ins)} (P : Prog q) : F_read_program [.str (textS q)] s = .ok (.tup (q.map encC)) (s ++ [.lst (q.map encC)]) := by
  have h1 := text_split P
  have h2 : (textS q).length + 2 ≤ 16777216 := by have := text_len P; omega
  obtain ⟨N, hN⟩ : ∃ N, N = q.map fun cs => SX.S (Lc cs) := ⟨_, rfl⟩
  have hNl : N.length = q.length := by rw [hN]; simp
  have hk : okR (N.length : Int) = true := by have := P.u; simp [okR, hNl]; omega
  generalize hX : textS q = X at *
  obtain ⟨x', y', e⟩ := rl_run s (some (.str X)) N [] q [] none none (fun i cs h => by rw [hN, List.length_nil, Nat.zero_add, List.getElem?_map, h]; rfl) P.c (by simpa using P.u) (by simpa using P.s)
  rw [← hN] at h1
  simp only [List.length_nil, List.nil_append, List.map_nil, List.append_nil] at e
  rw [← hNl, ← rangeD0] at e
  unfold b_rl at e
  have e' : forLoop (dName 1) b_rl [] [some (.str X), x', some (.lst (N.map .str)), some (.obj s.length), y', none] (s ++ [.lst (q.map encC)]) = .ok (.nx [some (.str X), x', some (.lst (N.map .str)), some (.obj s.length), y', none]) (s ++ [.lst (q.map encC)]) := rfl
  unfold b_rl at e'
  rw [e'] at e
  have h6 : fTuple (s ++ [IO.lst (q.map encC)]) (.obj s.length) = some (.tup (q.map encC)) := by simp [fTuple, itemsL]
  simp [F_read_program, b_read_program, need_text_ok, fSplit, lenL, h2, h1, -List.map_map, hk, e, h6]
end G


set_option Elab.async false
set_option linter.all false
set_option maxRecDepth 100000
set_option maxHeartbeats 4000000
namespace G
open PySem PySem.Spec L2 J PyProof.Rows
/-! K6: the lines that cannot stand there, the designs refused. -/
def coreD (o : Str) : List D := match F_core_in [.str o] [] with | .ok (.tup d) _ => d | _ => []
structure OddOk (o : Str) : Prop where
  c : ∀ s, F_core_in [.str o] s = .ok (.tup (coreD o)) s
  b : ∀ s, F_is_core [.tup (coreD o)] s = .ok (.bl false) s
  l : (coreD o).length ≤ 1000
  n : 10 ∉ tl o
  z : (tl o).length ≤ 90
def odds : List Str := [PySem.Str.ofString "", PySem.Str.ofString "read 0", PySem.Str.ofString "read 2 0", PySem.Str.ofString "read 0 3", PySem.Str.ofString "read 00 1", PySem.Str.ofString "write 0 10", PySem.Str.ofString "write 0 01", PySem.Str.ofString "Fence", PySem.Str.ofString "fence 0", PySem.Str.ofString "fence ", PySem.Str.ofString " fence", PySem.Str.ofString "fence;fence", PySem.Str.ofString "fence; ", PySem.Str.ofString "; fence", PySem.Str.ofString "fence;  fence", PySem.Str.ofString "- ", PySem.Str.ofString "--", PySem.Str.ofString "guard 0", PySem.Str.ofString "copy 0 2", PySem.Str.ofString "fence; fence; fence; fence; fence; fence", PySem.Str.ofString "hop 0 0", PySem.Str.ofString "read 0 -1"]
theorem odds_ok : ∀ o ∈ odds, OddOk o := by
  refine List.forall_mem_cons.mpr ⟨⟨fun s => by kernel_rfl, fun s => by kernel_rfl, by decide +kernel, by decide +kernel, by decide +kernel⟩, ?_⟩
  refine List.forall_mem_cons.mpr ⟨⟨fun s => by kernel_rfl, fun s => by kernel_rfl, by decide +kernel, by decide +kernel, by decide +kernel⟩, ?_⟩
  refine List.forall_mem_cons.mpr ⟨⟨fun s => by kernel_rfl, fun s => by kernel_rfl, by decide +kernel, by decide +kernel, by decide +kernel⟩, ?_⟩
  refine List.forall_mem_cons.mpr ⟨⟨fun s => by kernel_rfl, fun s => by kernel_rfl, by decide +kernel, by decide +kernel, by decide +kernel⟩, ?_⟩
  refine List.forall_mem_cons.mpr ⟨⟨fun s => by kernel_rfl, fun s => by kernel_rfl, by decide +kernel, by decide +kernel, by decide +kernel⟩, ?_⟩
  refine List.forall_mem_cons.mpr ⟨⟨fun s => by kernel_rfl, fun s => by kernel_rfl, by decide +kernel, by decide +kernel, by decide +kernel⟩, ?_⟩
  refine List.forall_mem_cons.mpr ⟨⟨fun s => by kernel_rfl, fun s => by kernel_rfl, by decide +kernel, by decide +kernel, by decide +kernel⟩, ?_⟩
  refine List.forall_mem_cons.mpr ⟨⟨fun s => by kernel_rfl, fun s => by kernel_rfl, by decide +kernel, by decide +kernel, by decide +kernel⟩, ?_⟩
  refine List.forall_mem_cons.mpr ⟨⟨fun s => by kernel_rfl, fun s => by kernel_rfl, by decide +kernel, by decide +kernel, by decide +kernel⟩, ?_⟩
  refine List.forall_mem_cons.mpr ⟨⟨fun s => by kernel_rfl, fun s => by kernel_rfl, by decide +kernel, by decide +kernel, by decide +kernel⟩, ?_⟩
  refine List.forall_mem_cons.mpr ⟨⟨fun s => by kernel_rfl, fun s => by kernel_rfl, by decide +kernel, by decide +kernel, by decide +kernel⟩, ?_⟩
  refine List.forall_mem_cons.mpr ⟨⟨fun s => by kernel_rfl, fun s => by kernel_rfl, by decide +kernel, by decide +kernel, by decide +kernel⟩, ?_⟩
  refine List.forall_mem_cons.mpr ⟨⟨fun s => by kernel_rfl, fun s => by kernel_rfl, by decide +kernel, by decide +kernel, by decide +kernel⟩, ?_⟩
  refine List.forall_mem_cons.mpr ⟨⟨fun s => by kernel_rfl, fun s => by kernel_rfl, by decide +kernel, by decide +kernel, by decide +kernel⟩, ?_⟩
  refine List.forall_mem_cons.mpr ⟨⟨fun s => by kernel_rfl, fun s => by kernel_rfl, by decide +kernel, by decide +kernel, by decide +kernel⟩, ?_⟩
  refine List.forall_mem_cons.mpr ⟨⟨fun s => by kernel_rfl, fun s => by kernel_rfl, by decide +kernel, by decide +kernel, by decide +kernel⟩, ?_⟩
  refine List.forall_mem_cons.mpr ⟨⟨fun s => by kernel_rfl, fun s => by kernel_rfl, by decide +kernel, by decide +kernel, by decide +kernel⟩, ?_⟩
  refine List.forall_mem_cons.mpr ⟨⟨fun s => by kernel_rfl, fun s => by kernel_rfl, by decide +kernel, by decide +kernel, by decide +kernel⟩, ?_⟩
  refine List.forall_mem_cons.mpr ⟨⟨fun s => by kernel_rfl, fun s => by kernel_rfl, by decide +kernel, by decide +kernel, by decide +kernel⟩, ?_⟩
  refine List.forall_mem_cons.mpr ⟨⟨fun s => by kernel_rfl, fun s => by kernel_rfl, by decide +kernel, by decide +kernel, by decide +kernel⟩, ?_⟩
  refine List.forall_mem_cons.mpr ⟨⟨fun s => by kernel_rfl, fun s => by kernel_rfl, by decide +kernel, by decide +kernel, by decide +kernel⟩, ?_⟩
  refine List.forall_mem_cons.mpr ⟨⟨fun s => by kernel_rfl, fun s => by kernel_rfl, by decide +kernel, by decide +kernel, by decide +kernel⟩, ?_⟩
  exact fun o h => nomatch h
def dess : List Str := [PySem.Str.ofString "", PySem.Str.ofString "rr rr", PySem.Str.ofString "ww rr", PySem.Str.ofString "RR", PySem.Str.ofString "rr ", PySem.Str.ofString " rr", PySem.Str.ofString "rr  ww", PySem.Str.ofString "rr\nww", PySem.Str.ofString "- rr", PySem.Str.ofString "all"]
theorem dess_ok : ∀ o ∈ dess, ∀ s, F_read_design [.str o] s = .err ⟨1, some ("line", .int 1)⟩ s := by
  refine List.forall_mem_cons.mpr ⟨fun s => by kernel_rfl, ?_⟩
  refine List.forall_mem_cons.mpr ⟨fun s => by kernel_rfl, ?_⟩
  refine List.forall_mem_cons.mpr ⟨fun s => by kernel_rfl, ?_⟩
  refine List.forall_mem_cons.mpr ⟨fun s => by kernel_rfl, ?_⟩
  refine List.forall_mem_cons.mpr ⟨fun s => by kernel_rfl, ?_⟩
  refine List.forall_mem_cons.mpr ⟨fun s => by kernel_rfl, ?_⟩
  refine List.forall_mem_cons.mpr ⟨fun s => by kernel_rfl, ?_⟩
  refine List.forall_mem_cons.mpr ⟨fun s => by kernel_rfl, ?_⟩
  refine List.forall_mem_cons.mpr ⟨fun s => by kernel_rfl, ?_⟩
  refine List.forall_mem_cons.mpr ⟨fun s => by kernel_rfl, ?_⟩
  exact fun o h => nomatch h
theorem rd_none (s : S) : F_read_design [.non] s = .err ⟨0, none⟩ s := by kernel_rfl
theorem rd_tup (s : S) : F_read_design [.tup [.str (PySem.Str.ofString "rr")]] s = .err ⟨0, none⟩ s := by kernel_rfl
theorem rd_int (s : S) : F_read_design [.int 0] s = .err ⟨0, none⟩ s := by kernel_rfl
theorem rp_none (s : S) : F_read_program [.non] s = .err ⟨0, none⟩ s := by kernel_rfl
theorem rp_int (s : S) : F_read_program [.int 5] s = .err ⟨0, none⟩ s := by kernel_rfl
theorem rp_bl (s : S) : F_read_program [.bl true] s = .err ⟨0, none⟩ s := by kernel_rfl
theorem rp_lst (s : S) (ds : List D) : F_read_program [.lst ds] s = .err ⟨0, none⟩ s := by kernel_rfl
/-! the written texts -/
def fe5 : List Ins := [.fence, .fence, .fence, .fence, .fence]
theorem core_fe5 : Core fe5 := ⟨fun c hc => by simp [fe5] at hc; subst hc; trivial, by decide⟩
theorem core_fe1 : Core [.fence] := ⟨fun c hc => by simp at hc; subst hc; trivial, by decide⟩
theorem core_nil : Core [] := ⟨fun c hc => (nomatch hc), by decide⟩
theorem no10 (C : Core cs) : 10 ∉ Lc cs := fun z => (Lc_mem C z).2 rfl
def bad4 : Str := SX.S (TL.joinL (tl sepL) (linesS [[], [], []] (Lc []) []))
def good3 : Str := textS [[], [], []]
def bad11 : Str := SX.S (TL.joinL (tl sepL) (linesS [fe5, fe5] (Lc [.fence]) []))
def good10 : Str := textS [fe5, fe5, []]
def five : Str := SX.S (Lc fe5)
@[simp high] theorem t_bad4 (ρ : J.Env) (s : S) : gM1 fJoin (gC (.str (PySem.Str.ofString "\n"))) (gOp2 fMul (gLst (gaCons (gC (.str (PySem.Str.ofString "-"))) (gaNil))) (gC (.int 4))) ρ s = .ok (.str bad4) s := by kernel_rfl
@[simp high] theorem t_good3 (ρ : J.Env) (s : S) : gM1 fJoin (gC (.str (PySem.Str.ofString "\n"))) (gOp2 fMul (gLst (gaCons (gC (.str (PySem.Str.ofString "-"))) (gaNil))) (gC (.int 3))) ρ s = .ok (.str good3) s := by kernel_rfl
@[simp high] theorem t_five (ρ : J.Env) (s : S) : gM1 fJoin (gC (.str (PySem.Str.ofString "; "))) (gOp2 fMul (gLst (gaCons (gC (.str (PySem.Str.ofString "fence"))) (gaNil))) (gC (.int 5))) ρ s = .ok (.str five) s := by kernel_rfl
@[simp high] theorem t_bad11 (x0 x1 x2 x3 x4 x5 x6 x8 x9 : Option D) (s : S) : gM1 fJoin (gC (.str (PySem.Str.ofString "\n"))) (gLst (gaCons (gVar 7) (gaCons (gVar 7) (gaCons (gC (.str (PySem.Str.ofString "fence"))) (gaNil))))) [x0, x1, x2, x3, x4, x5, x6, some (.str five), x8, x9] s = .ok (.str bad11) s := by kernel_rfl
@[simp high] theorem t_good10 (x0 x1 x2 x3 x4 x5 x6 x8 x9 : Option D) (s : S) : gM1 fJoin (gC (.str (PySem.Str.ofString "\n"))) (gLst (gaCons (gVar 7) (gaCons (gVar 7) (gaCons (gC (.str (PySem.Str.ofString "-"))) (gaNil))))) [x0, x1, x2, x3, x4, x5, x6, some (.str five), x8, x9] s = .ok (.str good10) s := by kernel_rfl
def io4 : IO := .lst ([[], [], []].map encC)
def io11 : IO := .lst ([fe5, fe5].map encC)
def io10 : IO := .lst ([fe5, fe5, []].map encC)
theorem r_bad4 (s : S) : F_read_program [.str bad4] s = .err ⟨1, some ("line", .int 4)⟩ (s ++ [io4]) :=
  read_stop s (q := [[], [], []]) (fun cs h => by simp at h; subst h; exact core_nil) (by decide) (by decide) (Lc []) [] (fun z hz => by
    simp [linesS] at hz
    subst hz; exact no10 core_nil) (by decide +kernel) (by decide) (d := []) (b := true) (fun s => core_in_ok s core_nil) (fun s => encC_core s core_nil) (by decide) (.inl rfl)
theorem r_bad11 (s : S) : F_read_program [.str bad11] s = .err ⟨1, some ("line", .int 3)⟩ (s ++ [io11]) :=
  read_stop s (q := [fe5, fe5]) (fun cs h => by simp at h; subst h; exact core_fe5) (by decide) (by decide) (Lc [.fence]) [] (fun z hz => by
    simp [linesS] at hz
    rcases hz with rfl | rfl
    · exact no10 core_fe5
    · exact no10 core_fe1) (by decide +kernel) (by decide) (d := [Ins.fence].map Ins.enc) (b := true) (fun s => core_in_ok s core_fe1) (fun s => encC_core s core_fe1) (by decide) (.inr (.inr (by decide)))
theorem r_good3 (s : S) : F_read_program [.str good3] s = .ok (.tup [.tup [], .tup [], .tup []]) (s ++ [io4]) := read_good s (q := [[], [], []]) ⟨fun cs h => by simp at h; subst h; exact core_nil, by decide, by decide, by decide⟩
theorem r_good10 (s : S) : F_read_program [.str good10] s = .ok (.tup ([fe5, fe5, []].map encC)) (s ++ [io10]) := read_good s (q := [fe5, fe5, []]) ⟨fun cs h => by
  simp at h
  rcases h with rfl | rfl
  · exact core_fe5
  · exact core_nil, by decide, by decide, by decide⟩
@[simp high] theorem eq_t3 (s : S) : eqD s (.tup [.tup [], .tup [], .tup []]) (.tup [.tup [], .tup [], .tup []]) = some true := by kernel_rfl
end G


set_option Elab.async false
set_option linter.all false
set_option maxRecDepth 100000
set_option maxHeartbeats 4000000
namespace G
open PySem PySem.Spec L2 J
theorem range_pre {n x : Nat} {dn rest : List Nat} (h : List.range n = dn ++ x :: rest) : x = dn.length ∧ dn.length < n := by
  have h1 : (List.range n)[dn.length]? = some x := by rw [h]; simp
  obtain ⟨h3, h4⟩ := List.getElem?_eq_some_iff.mp h1
  simp at h3 h4
  exact ⟨h4.symm, h3⟩
def b_pl : GS := (sSeq (sAsg (gF (fMin) (gaCons (gVar 3) (gaCons (gCall 2 (F_law_taken) (gaCons (gVar 0) (gaCons (gC (.int 5)) (gaNil)))) (gaNil)))) (dName 5)) (sSeq (sAsg (gOp2 fAdd (gVar 4) (gTup (gaCons (gF (f1 fTuple) (gaCons (gLc [6] (gRange1 (gaCons (gVar 5) (gaNil))) (dName 6) (gYes) (gCall 1 (F_law_instruction) (gaCons (gVar 0) (gaNil)))) (gaNil))) (gaNil)))) (dName 4)) (sAsg (gOp2 fSub (gVar 3) (gVar 5)) (dName 3))))
theorem sum_snoc (p : List (List Ins)) (cs : List Ins) : ((p ++ [cs]).map List.length).sum = (p.map List.length).sum + cs.length := by simp
theorem program_ok {ns : List Int} {t s : S} (h : RowS ns t s) : ∃ (p : List (List Ins)) (s' : S), F_law_program [.obj 0, .int 6] s = .ok (.tup (p.map encC)) s' ∧ Prog p ∧ RowS ns t s' := by
  obtain ⟨k, hk, s1, e1, r1⟩ := pick_ok [.int 0, .int 1, .int 1, .int 1, .int 2] (by simp) (by simp) h
  obtain ⟨q, e1, q0, q2⟩ : ∃ q : Nat, F_law_pick [.obj 0, .lst [.int 0, .int 1, .int 1, .int 1, .int 2]] s = .ok (.int (q : Int)) s1 ∧ 0 ≤ q ∧ q ≤ 2 := by
    match k, hk, e1 with
    | 0, _, e => exact ⟨0, e, by decide, by decide⟩
    | 1, _, e => exact ⟨1, e, by decide, by decide⟩
    | 2, _, e => exact ⟨1, e, by decide, by decide⟩
    | 3, _, e => exact ⟨1, e, by decide, by decide⟩
    | 4, _, e => exact ⟨2, e, by decide, by decide⟩
  have e0 : rangeD 0 (1 + (q : Int)) = (List.range (1 + q)).map fun (k : Nat) => D.int (0 + (k : Int)) := by
    have : (1 + (q : Int) - 0).toNat = 1 + q := by omega
    simp only [rangeD, this]
  obtain ⟨ρ', s', e, p, ⟨x, y, rfl⟩, hp1, hp2, hp3, r2⟩ := forAcc (t := dName 2) (b := b_pl) (fun (k : Nat) => D.int (0 + (k : Int))) (List.range (1 + q)) (fun dn ρ s1 => ∃ p : List (List Ins), (∃ x y, ρ = [some (.obj 0), some (.int 6), x, some (.int (6 - (((p.map List.length).sum : Nat) : Int))), some (.tup (p.map encC)), y, none]) ∧ (∀ cs ∈ p, Core cs) ∧ p.length = dn.length ∧ (p.map List.length).sum ≤ 6 ∧ RowS ns t s1) (fun dn k rest ρ s1 hp ⟨p, ⟨x, y, eρ⟩, hp1, hp2, hp3, rr⟩ => by
    subst eρ
    obtain ⟨hk, hlt⟩ := range_pre hp
    obtain ⟨m, s2, e2, m0, m5, r2⟩ := taken_ok 5 (by decide) (by decide) rr
    obtain ⟨left, hleft⟩ : ∃ left : Int, left = 6 - (((p.map List.length).sum : Nat) : Int) := ⟨_, rfl⟩
    have hl0 : 0 ≤ left := by omega
    obtain ⟨mm, hmm⟩ : ∃ mm : Int, mm = if m < left then m else left := ⟨_, rfl⟩
    have hmm0 : 0 ≤ mm := by rw [hmm]; split <;> omega
    have hmm1 : mm ≤ 4 := by rw [hmm]; split <;> omega
    have hmm2 : mm ≤ left := by rw [hmm]; split <;> omega
    have hk1 : okR mm = true := by simp [okR]; omega
    have hk2 : (rangeD 0 mm).length ≤ 16777216 := by simp [rangeD]; omega
    obtain ⟨ys, s3, e3, r3, l3, q3⟩ := lcAll (t := dName 6) (gt := gYes) (ge := gCall 1 F_law_instruction (gaCons (gVar 0) gaNil)) (ρ := ([some (.obj 0), some (.int 6), some (.int (0 + (k : Int))), some (.int left), some (.tup (p.map encC)), some (.int mm), none] : J.Env)) (RowS ns t) (fun y => ∃ c : Ins, y = c.enc ∧ c.ok) (rangeD 0 mm) s2 r2 fun x _ s hs => by
      obtain ⟨c, s', e, hc, hs'⟩ := instr_ok hs
      exact ⟨_, c.enc, s', rfl, rfl, by simp [e], ⟨c, rfl, hc⟩, hs'⟩
    obtain ⟨cs, rfl, hc⟩ := allEx ys q3
    have hlen : (cs.length : Int) = mm := by simp [rangeD] at l3; omega
    have h4 : p.length + 1 ≤ 16777216 := by
      have : dn.length < 1 + q := hlt
      omega
    refine ⟨_, [some (.obj 0), some (.int 6), some (.int (0 + (k : Int))), some (.int (left - mm)), some (.tup ((p ++ [cs]).map encC)), some (.int mm), none], s3, rfl, ?_, p ++ [cs], ⟨some (.int (0 + (k : Int))), some (.int mm), ?_⟩, ?_, by simp [hp2], ?_, r3⟩
    · rw [← hleft]
      simp at e3
      simp [b_pl, e2, fMin, ← hmm, hk1, hk2, e3, fAdd, h4, encC]
    · rw [sum_snoc, hleft, ← hlen]
      have : (6 - (((p.map List.length).sum : Nat) : Int) - (cs.length : Int)) = 6 - (((p.map List.length).sum + cs.length : Nat) : Int) := by omega
      rw [this]
    · intro z hz
      rcases List.mem_append.mp hz with hz | hz
      · exact hp1 z hz
      · have : z = cs := by simpa using hz
        subst this
        exact ⟨hc, by omega⟩
    · rw [sum_snoc]; omega) (List.range (1 + q)) [] [some (.obj 0), some (.int 6), none, some (.int 6), some (.tup []), none, none] s1 rfl ⟨[], ⟨none, none, rfl⟩, fun _ h => by (cases h), rfl, by decide, r1⟩
  refine ⟨p, s', ?_, ⟨hp1, ?_, ?_, Nat.le_trans hp3 (by decide)⟩, r2⟩
  · have hk : okR (1 + (q : Int)) = true := by simp [okR]; omega
    rw [← e0] at e
    unfold b_pl at e
    simp [F_law_program, b_law_program, e1, hk, e]
  · rw [hp2, List.length_range]; omega
  · rw [hp2, List.length_range]; omega

/-! ### the law -/
def wrF (z : D) (hd : Ex → S → R D) (r : R D) : R D := match r with
  | .ok _ s1 => .ok z s1
  | .err e s1 => (match hd e s1 with | .ok d s2 => .ok d s2 | _ => .no)
  | .no => .no
@[simp] theorem ap_wrong (z : D) (hd : Ex → S → R D) (gl : GE) (ρ : J.Env) (s : S) : gWrong z hd gl ρ s = wrF z hd (gl ρ s) := id rfl
@[simp] theorem ap_wrongL (z : D) (hd : Ex → S → R D) (gls : Nat → GE) (ge : GE) (ρ : J.Env) (s : S) : gWrongL z hd gls ge ρ s = (ge ρ s).bd (fun d s1 => match d with
  | .obj n => (match s1[n]? with | some (.lam k) => wrF z hd (gls k ρ s1) | _ => .no)
  | _ => .no) .mk := id rfl
@[simp] theorem ap_lam (k : Nat) (ρ : J.Env) (s : S) : gLam k ρ s = .ok (.obj s.length) (s ++ [.lam k]) := id rfl
@[simp] theorem wr_line (z : D) (n : Int) (s : S) : wrF z hd_law_wrong (.err ⟨1, some ("line", .int n)⟩ s) = .ok (.int n) s := id rfl
@[simp] theorem wr_text (z : D) (s : S) : wrF z hd_law_wrong (.err ⟨0, none⟩ s) = .ok (.str (PySem.Str.ofString "text")) s := id rfl
theorem cut_take (xs : List D) {k : Nat} (h : k ≤ xs.length) : cutD xs none (some (k : Int)) = xs.take k := by
  have e1 : HT.sIx xs.length 0 none = 0 := rfl
  have e2 : HT.sIx xs.length xs.length (some (k : Int)) = k := by
    unfold HT.sIx
    simp only
    rw [if_neg (by omega)]
    omega
  simp [cutD, e1, e2]
theorem cut_drop (xs : List D) {k : Nat} (h : k ≤ xs.length) : cutD xs (some (k : Int)) none = xs.drop k := by
  have e1 : HT.sIx xs.length xs.length none = xs.length := rfl
  have e2 : HT.sIx xs.length 0 (some (k : Int)) = k := by
    unfold HT.sIx
    simp only
    rw [if_neg (by omega)]
    omega
  simp only [cutD, e1, e2]
  rw [List.take_of_length_le (by simp)]
theorem odd_tl (o : Str) : SX.S (tl o) = o := SX.S_tl o
/-- the text with the odd line -/
theorem bad_text (s : S) {p : List (List Ins)} (P : Prog p) {at_ : Nat} (ha : at_ < p.length) {o : Str} (ho : OddOk o) :
    fJoin s (PySem.Str.ofString "\n") (.lst ((p.map lineD).take at_ ++ [.str o] ++ (p.map lineD).drop (at_ + 1))) = some (.str (SX.S (TL.joinL (tl sepL) (linesS (p.take at_) (tl o) ((p.drop (at_ + 1)).map Lc))))) ∧
    F_read_program [.str (SX.S (TL.joinL (tl sepL) (linesS (p.take at_) (tl o) ((p.drop (at_ + 1)).map Lc))))] s = .err ⟨1, some ("line", .int ((at_ : Nat) + 1))⟩ (s ++ [.lst ((p.take at_).map encC)]) := by
  have hu := P.u
  have hlen : (p.take at_).length = at_ := by rw [List.length_take]; omega
  have e0 : (p.map lineD).take at_ ++ [.str o] ++ (p.map lineD).drop (at_ + 1) = ((linesS (p.take at_) (tl o) ((p.drop (at_ + 1)).map Lc)).map SX.S).map D.str := by
    simp only [linesS, List.map_append, List.map_cons, odd_tl, List.map_map, ← List.map_take, ← List.map_drop, List.append_assoc, List.singleton_append]
    rfl
  have hz : ∀ z ∈ linesS (p.take at_) (tl o) ((p.drop (at_ + 1)).map Lc), 10 ∉ z ∧ z.length ≤ 90 := fun z h => by
    simp only [linesS, List.mem_append, List.mem_map, List.mem_cons] at h
    rcases h with ⟨cs, h, rfl⟩ | rfl | ⟨cs, h, rfl⟩
    · have C := P.c cs (List.mem_of_mem_take h)
      exact ⟨no10 C, Lc_len C⟩
    · exact ⟨ho.n, ho.z⟩
    · have C := P.c cs (List.mem_of_mem_drop h)
      exact ⟨no10 C, Lc_len C⟩
  have hL : (linesS (p.take at_) (tl o) ((p.drop (at_ + 1)).map Lc)).length ≤ 3 := by simp [linesS]; omega
  have hj := len_joinL (sep := tl sepL) (k := 90) (ps := linesS (p.take at_) (tl o) ((p.drop (at_ + 1)).map Lc)) fun z h => (hz z h).2
  have hj2 : (TL.joinL (tl sepL) (linesS (p.take at_) (tl o) ((p.drop (at_ + 1)).map Lc))).length ≤ 300 := by
    rw [tl_L] at hj ⊢
    have : (linesS (p.take at_) (tl o) ((p.drop (at_ + 1)).map Lc)).length * (90 + [10].length) ≤ 3 * 91 := Nat.mul_le_mul hL (by simp)
    omega
  refine ⟨?_, ?_⟩
  · rw [e0]
    generalize linesS (p.take at_) (tl o) ((p.drop (at_ + 1)).map Lc) = M at *
    have hs : ((M.map SX.S).map (·.length)).sum ≤ (M.map SX.S).length * 90 := by
      have := sum_le (k := 90) (l := (M.map SX.S).map (·.length)) fun x hx => by
        simp only [List.mem_map] at hx
        obtain ⟨_, ⟨z, h, rfl⟩, rfl⟩ := hx
        rw [SX.S_len]; exact (hz z h).2
      simpa using this
    have h1 := strsD_map (M.map SX.S)
    have h2 : ((M.map SX.S).map (·.length)).sum + (M.map SX.S).length * 1 ≤ 16777216 := by
      have : (M.map SX.S).length = M.length := by simp
      omega
    simp only [fJoin, itemsLT, itemsL, h1, Option.bind_some, lenL]
    rw [if_pos (by simpa [fitL] using h2), join_T]
    rfl
  · have := read_stop s (q := p.take at_) (fun cs h => P.c cs (List.mem_of_mem_take h)) (by
      have h1 := sum_take (p.map List.length) at_
      have h2 := P.s
      rw [← List.map_take] at h1
      omega) (by omega) (tl o) ((p.drop (at_ + 1)).map Lc) (fun z h => (hz z h).1) (by omega) (by simp; omega) (d := coreD o) (b := false) (fun s => by rw [odd_tl]; exact ho.c s) ho.b ho.l (.inr (.inl rfl))
    rw [hlen] at this
    exact this
end G


set_option Elab.async false
set_option linter.all false
set_option maxRecDepth 100000
set_option maxHeartbeats 4000000
namespace G
open PySem PySem.Spec L2 J
theorem odd_at {j : Nat} (hj : j < 22) : ∃ o, OddOk o ∧ atI (odds.map D.str) (j : Int) = some (.str o) := by
  have hl : odds.length = 22 := rfl
  refine ⟨odds[j]'(by omega), odds_ok _ (List.getElem_mem _), ?_⟩
  rw [atI_nat _ _ (by simpa [hl] using hj), List.getElem_map]
theorem ok_text : PyData.strOk (PySem.Str.ofString "text") = true := by decide +kernel
theorem plain (ns : List Int) (h : ns.length ≤ 63) : ∃ s', F_law [.frz (ns.map D.int)] [] = .ok (.bl true) s' := by
  have r0 : RowS ns [] (rowL ns 0 14251 0 :: []) := ⟨0, 14251, 0, by decide, by decide, rfl⟩
  obtain ⟨p, s1, e1, P, r1⟩ := program_ok r0
  obtain ⟨i1, a1, b1, ha1, hb1, rfl⟩ := r1
  obtain ⟨s2, e2, t, rfl⟩ := write_ok [rowL ns i1 a1 b1] P
  have pl := P.l
  have pu := P.u
  have e3 := text_split P
  have e3l : (textS p).length + 2 ≤ 16777216 := by have := text_len P; omega
  have r2 : RowS ns t ([rowL ns i1 a1 b1] ++ t) := ⟨i1, a1, b1, ha1, hb1, rfl⟩
  obtain ⟨k, s3, e4, k0, k1, r3⟩ := taken_ok (p.length : Int) (by omega) (by omega) r2
  obtain ⟨at_, rfl⟩ := Int.eq_ofNat_of_zero_le k0
  obtain ⟨j, s4, e5, j0, j1, r4⟩ := taken_ok 22 (by decide) (by decide) r3
  obtain ⟨j, rfl⟩ := Int.eq_ofNat_of_zero_le j0
  obtain ⟨o, ho, e6⟩ := odd_at (j := j) (by omega)
  have hat : at_ < p.length := by omega
  obtain ⟨e7, e8⟩ := bad_text s4 P hat ho
  have c1 := cut_take (p.map lineD) (k := at_) (by simp; omega)
  have c2 := cut_drop (p.map lineD) (k := at_ + 1) (by simp; omega)
  have h4 : (p.map fun cs => SX.S (Lc cs)).map D.str = p.map lineD := by rw [List.map_map]; rfl
  obtain ⟨i4, a4, b4, ha4, hb4, rfl⟩ := r4
  obtain ⟨io1, hio⟩ : ∃ x, x = IO.lst ((p.take at_).map encC) := ⟨_, rfl⟩
  rw [← hio] at e8
  generalize hL : p.map lineD = L at *
  have hLl : L.length = p.length := by rw [← hL]; simp
  generalize SX.S (TL.joinL (tl sepL) (linesS (p.take at_) (tl o) ((p.drop (at_ + 1)).map Lc))) = bt at e7 e8
  obtain ⟨T, hT⟩ : ∃ T, T = t ++ [io1, io4, io4, io11, io10] := ⟨_, rfl⟩
  have r5 : RowS ns T (rowL ns i4 a4 b4 :: T) := ⟨i4, a4, b4, ha4, hb4, rfl⟩
  obtain ⟨kw, hkw, s6, e9, r6⟩ := pick_ok (dess.map .str) (by decide) (by decide) r5
  have e10 : ∀ s, F_read_design [(dess.map D.str)[kw]] s = .err ⟨1, some ("line", .int 1)⟩ s := fun s => by
    rw [List.getElem_map]
    exact dess_ok _ (List.getElem_mem _) s
  generalize (dess.map D.str)[kw] = w at e9 e10
  obtain ⟨i6, a6, b6, ha6, hb6, rfl⟩ := r6
  have r7 : RowS ns (T ++ [.lam 1, .lam 0]) (rowL ns i6 a6 b6 :: (T ++ [.lam 1, .lam 0])) := ⟨i6, a6, b6, ha6, hb6, rfl⟩
  obtain ⟨l, s8, e11, l0, l1, r8⟩ := taken_ok 2 (by decide) (by decide) r7
  obtain ⟨i8, a8, b8, ha8, hb8, rfl⟩ := r8
  have fin : ∃ s', gOp2 fEq (gWrongL (.str (PySem.Str.ofString "")) hd_law_wrong gl_law (gOp2 fIdx (gVar 9) (gCall 2 (F_law_taken) (gaCons (gVar 1) (gaCons (gC (.int 2)) (gaNil)))))) (gC (.str (PySem.Str.ofString "text")))
      [some (.frz (ns.map .int)), some (.obj 0), some (.tup (p.map encC)), some (.lst L), some (.int at_), some (.lst (odds.map .str)), some (.lst (L.take at_ ++ [.str o] ++ L.drop (at_ + 1))), some (.str five), some w, some (.lst [.obj (T.length + 1), .obj ((rowL ns i6 a6 b6 :: (T ++ [IO.lam 1])).length)])] (rowL ns i6 a6 b6 :: (T ++ [.lam 1, .lam 0])) = .ok (.bl true) s' := by
    have r8 : RowS ns (T ++ [.lam 1, .lam 0]) (rowL ns i8 a8 b8 :: (T ++ [.lam 1, .lam 0])) := ⟨i8, a8, b8, ha8, hb8, rfl⟩
    have hl : l = 0 ∨ l = 1 := by omega
    rcases hl with rfl | rfl
    · obtain ⟨k, hk, s9, e13, r9⟩ := pick_ok [.non, .int 5, .lst L, .bl true] (by simp) (by simp) r8
      have e14 : F_read_program [[D.non, .int 5, .lst L, .bl true][k]] s9 = .err ⟨0, none⟩ s9 := by
        match k, hk with
        | 0, _ => exact rp_none s9
        | 1, _ => exact rp_int s9
        | 2, _ => exact rp_lst s9 L
        | 3, _ => exact rp_bl s9
      generalize [D.non, .int 5, .lst L, .bl true][k] = x at e13 e14
      have g1 : atI [D.obj (T.length + 1), D.obj ((rowL ns i6 a6 b6 :: (T ++ [IO.lam 1])).length)] 0 = some (D.obj (T.length + 1)) := rfl
      refine ⟨s9, ?_⟩
      simp at g1
      simp [e11, g1, gl_law, g_lam1, e13, e14, eqD_str _ _ _ ok_text ok_text]
    · obtain ⟨k, hk, s9, e13, r9⟩ := pick_ok [.non, .tup [.str (PySem.Str.ofString "rr")], .int 0] (by simp) (by simp) r8
      have e14 : F_read_design [[D.non, .tup [.str (PySem.Str.ofString "rr")], .int 0][k]] s9 = .err ⟨0, none⟩ s9 := by
        match k, hk with
        | 0, _ => exact rd_none s9
        | 1, _ => exact rd_tup s9
        | 2, _ => exact rd_int s9
      generalize [D.non, .tup [.str (PySem.Str.ofString "rr")], .int 0][k] = x at e13 e14
      have g1 : atI [D.obj (T.length + 1), D.obj ((rowL ns i6 a6 b6 :: (T ++ [IO.lam 1])).length)] 1 = some (D.obj ((rowL ns i6 a6 b6 :: (T ++ [IO.lam 1])).length)) := rfl
      refine ⟨s9, ?_⟩
      simp at g1
      simp [e11, g1, gl_law, g_lam0, e13, e14, eqD_str _ _ _ ok_text ok_text]
  obtain ⟨s', fin⟩ := fin
  refine ⟨s', ?_⟩
  have e1' : F_law_program [.obj 0, .int 6] [IO.lst [.frz (ns.map D.int), .int 0, .int 14251, .int 0]] = _ := e1
  have hodd : odds.map D.str = [D.str (PySem.Str.ofString ""), D.str (PySem.Str.ofString "read 0"), D.str (PySem.Str.ofString "read 2 0"), D.str (PySem.Str.ofString "read 0 3"), D.str (PySem.Str.ofString "read 00 1"), D.str (PySem.Str.ofString "write 0 10"), D.str (PySem.Str.ofString "write 0 01"), D.str (PySem.Str.ofString "Fence"), D.str (PySem.Str.ofString "fence 0"), D.str (PySem.Str.ofString "fence "), D.str (PySem.Str.ofString " fence"), D.str (PySem.Str.ofString "fence;fence"), D.str (PySem.Str.ofString "fence; "), D.str (PySem.Str.ofString "; fence"), D.str (PySem.Str.ofString "fence;  fence"), D.str (PySem.Str.ofString "- "), D.str (PySem.Str.ofString "--"), D.str (PySem.Str.ofString "guard 0"), D.str (PySem.Str.ofString "copy 0 2"), D.str (PySem.Str.ofString "fence; fence; fence; fence; fence; fence"), D.str (PySem.Str.ofString "hop 0 0"), D.str (PySem.Str.ofString "read 0 -1")] := rfl
  rw [hodd] at fin e6
  have hdes : dess.map D.str = [D.str (PySem.Str.ofString ""), D.str (PySem.Str.ofString "rr rr"), D.str (PySem.Str.ofString "ww rr"), D.str (PySem.Str.ofString "RR"), D.str (PySem.Str.ofString "rr "), D.str (PySem.Str.ofString " rr"), D.str (PySem.Str.ofString "rr  ww"), D.str (PySem.Str.ofString "rr\nww"), D.str (PySem.Str.ofString "- rr"), D.str (PySem.Str.ofString "all")] := rfl
  rw [hdes] at e9
  subst hT
  simp only [List.singleton_append] at e4 e2
  simp only [List.cons_append] at e8
  have c2' : cutD L (some ((at_ : Int) + 1)) none = L.drop (at_ + 1) := c2
  have bm1 : min at_ p.length ≤ 16777215 := by omega
  have bm2 : min at_ p.length + 1 + (p.length - (at_ + 1)) ≤ 16777216 := by omega
  have b3 : (List.take at_ L ++ (D.str o :: List.drop (at_ + 1) L)) = L.take at_ ++ [.str o] ++ L.drop (at_ + 1) := by simp
  rw [← b3] at e7 fin
  simp [-ap_if, F_law, b_law, e1', e2, fSplit, lenL, e3, e3l, h4, hLl, e4, e5, e6, fAdd, c1, c2', e7, e8, bm1, bm2, r_bad4, r_good3, r_bad11, r_good10, e9, e10]
  simp at fin
  rw [fin]
  rfl
end G


set_option Elab.async false
set_option linter.all false
set_option maxRecDepth 100000
set_option maxHeartbeats 0
namespace G
open PySem PySem.Spec PyProof.Rows L2 J
def ct (P : Program) (w : World) (K : PySem.W.Frag) (Pt : Addr) : Ct := { c := fun i => match i with | 0 => He.ga K "NotText" | 1 => He.ga K "InvalidText" | _ => 0, T := [(Pt, (("law" : Str) ++ ".<locals>.") ++ "<lambda>")], P := P, w := w }
theorem fx {w : World} {K : PySem.W.Frag} {h : Heap} {mg : Str → Option Value} {Pt : Addr} (X : K.In h) (Gh : h.Ns mainGlobals mg) (c : He.SaysX hfa hfn [] [("law", none)] hex w h K) : Fx (PySem.Challenge.rw_pairskept_k11_whole_texts_refused).prog w K mg (ct (PySem.Challenge.rw_pairskept_k11_whole_texts_refused).prog w K Pt) := by
  have m := c.more
  simp only [hex, Bool.and_eq_true] at m
  obtain ⟨⟨er_InvalidText, xn_InvalidText⟩, m⟩ := m
  exact {
    pP := rfl,
    pw := rfl,
    bi_all := He.free_ok X Gh (c.t.d.fact 0 (f := .free "all") rfl),
    bi_bool := He.free_ok X Gh (c.t.d.fact 1 (f := .free "bool") rfl),
    bi_int := He.free_ok X Gh (c.t.d.fact 2 (f := .free "int") rfl),
    bi_isinstance := He.free_ok X Gh (c.t.d.fact 3 (f := .free "isinstance") rfl),
    bi_len := He.free_ok X Gh (c.t.d.fact 4 (f := .free "len") rfl),
    bi_min := He.free_ok X Gh (c.t.d.fact 5 (f := .free "min") rfl),
    bi_range := He.free_ok X Gh (c.t.d.fact 6 (f := .free "range") rfl),
    bi_str := He.free_ok X Gh (c.t.d.fact 7 (f := .free "str") rfl),
    bi_sum := He.free_ok X Gh (c.t.d.fact 8 (f := .free "sum") rfl),
    bi_tuple := He.free_ok X Gh (c.t.d.fact 9 (f := .free "tuple") rfl),
    c_REGISTERS := const_ok X Gh m.1,
    c_CELLS := const_ok X Gh m.2.1,
    c_WORDS := const_ok X Gh m.2.2.1,
    c_MOST_CORES := const_ok X Gh m.2.2.2.1,
    c_MOST_CORE := const_ok X Gh m.2.2.2.2.1,
    c_MOST_PROGRAM := const_ok X Gh m.2.2.2.2.2.1,
    c_NAMES := const_ok X Gh m.2.2.2.2.2.2.1,
    c_FIGURES := const_ok X Gh m.2.2.2.2.2.2.2.1,
    x_NotText := excJ_ok X Gh (c.t.d.fact 31 (f := .exc "NotText") rfl) (c.t.d.fact 30 (f := .glo "NotText") rfl) rfl,
    e_InvalidText := errJ_ok X Gh er_InvalidText (c.t.d.fact 32 (f := .glo "InvalidText") rfl) rfl (by decide) (by decide) bind_line,
    xn_InvalidText := (of_decide_eq_true xn_InvalidText),
    xb := ⟨_, He.glo_ok X Gh (c.t.d.fact 34 (f := .glo "PairError") rfl), fun i hi => by
      simp only [List.mem_cons, List.not_mem_nil, or_false] at hi
      rcases hi with rfl | rfl
      · exact He.exm_ok (c.t.d.fact 35 (f := .exm "NotText" "PairError" true) rfl)
      · exact He.exm_ok (c.t.d.fact 36 (f := .exm "InvalidText" "PairError" true) rfl)⟩,
    xc := fun i hi => by
      simp only [List.mem_cons, List.not_mem_nil, or_false] at hi
      rcases hi with rfl | rfl
      · exact excCB_ok m.2.2.2.2.2.2.2.2.1
      · exact excCB_ok m.2.2.2.2.2.2.2.2.2.2.2.1,
    xk := fun i j hi hj => by
      simp only [List.mem_cons, List.not_mem_nil, or_false] at hi hj
      rcases hi with rfl | rfl <;> rcases hj with rfl | rfl
      · exact of_decide_eq_true m.2.2.2.2.2.2.2.2.2.1
      · exact of_decide_eq_true m.2.2.2.2.2.2.2.2.2.2.1
      · exact of_decide_eq_true m.2.2.2.2.2.2.2.2.2.2.2.2.1
      · exact of_decide_eq_true m.2.2.2.2.2.2.2.2.2.2.2.2.2.1,
    d_is_integer := ⟨_, (c.t.d.def_ 0 (d := d0) rfl).choose, He.glo_ok X Gh (c.t.d.fact 10 (f := .glo "is_integer") rfl), (c.t.d.def_ 0 (d := d0) rfl).choose_spec⟩,
    d_is_in := ⟨_, (c.t.d.def_ 1 (d := d1) rfl).choose, He.glo_ok X Gh (c.t.d.fact 11 (f := .glo "is_in") rfl), (c.t.d.def_ 1 (d := d1) rfl).choose_spec⟩,
    d_is_list := ⟨_, (c.t.d.def_ 2 (d := d2) rfl).choose, He.glo_ok X Gh (c.t.d.fact 12 (f := .glo "is_list") rfl), (c.t.d.def_ 2 (d := d2) rfl).choose_spec⟩,
    d_is_instruction := ⟨_, (c.t.d.def_ 3 (d := d3) rfl).choose, He.glo_ok X Gh (c.t.d.fact 13 (f := .glo "is_instruction") rfl), (c.t.d.def_ 3 (d := d3) rfl).choose_spec⟩,
    d_is_core := ⟨_, (c.t.d.def_ 4 (d := d4) rfl).choose, He.glo_ok X Gh (c.t.d.fact 14 (f := .glo "is_core") rfl), (c.t.d.def_ 4 (d := d4) rfl).choose_spec⟩,
    d_need_program := ⟨_, (c.t.d.def_ 5 (d := d5) rfl).choose, He.glo_ok X Gh (c.t.d.fact 15 (f := .glo "need_program") rfl), (c.t.d.def_ 5 (d := d5) rfl).choose_spec⟩,
    d_is_design := ⟨_, (c.t.d.def_ 6 (d := d6) rfl).choose, He.glo_ok X Gh (c.t.d.fact 16 (f := .glo "is_design") rfl), (c.t.d.def_ 6 (d := d6) rfl).choose_spec⟩,
    d_need_text := ⟨_, (c.t.d.def_ 7 (d := d7) rfl).choose, He.glo_ok X Gh (c.t.d.fact 17 (f := .glo "need_text") rfl), (c.t.d.def_ 7 (d := d7) rfl).choose_spec⟩,
    d_number_in := ⟨_, (c.t.d.def_ 8 (d := d8) rfl).choose, He.glo_ok X Gh (c.t.d.fact 18 (f := .glo "number_in") rfl), (c.t.d.def_ 8 (d := d8) rfl).choose_spec⟩,
    d_instruction_in := ⟨_, (c.t.d.def_ 9 (d := d9) rfl).choose, He.glo_ok X Gh (c.t.d.fact 19 (f := .glo "instruction_in") rfl), (c.t.d.def_ 9 (d := d9) rfl).choose_spec⟩,
    d_core_in := ⟨_, (c.t.d.def_ 10 (d := d10) rfl).choose, He.glo_ok X Gh (c.t.d.fact 20 (f := .glo "core_in") rfl), (c.t.d.def_ 10 (d := d10) rfl).choose_spec⟩,
    d_write_program := ⟨_, (c.t.d.def_ 11 (d := d11) rfl).choose, He.glo_ok X Gh (c.t.d.fact 21 (f := .glo "write_program") rfl), (c.t.d.def_ 11 (d := d11) rfl).choose_spec⟩,
    d_read_program := ⟨_, (c.t.d.def_ 12 (d := d12) rfl).choose, He.glo_ok X Gh (c.t.d.fact 22 (f := .glo "read_program") rfl), (c.t.d.def_ 12 (d := d12) rfl).choose_spec⟩,
    d_read_design := ⟨_, (c.t.d.def_ 13 (d := d13) rfl).choose, He.glo_ok X Gh (c.t.d.fact 23 (f := .glo "read_design") rfl), (c.t.d.def_ 13 (d := d13) rfl).choose_spec⟩,
    d_law_taken := ⟨_, (c.t.d.def_ 14 (d := d14) rfl).choose, He.glo_ok X Gh (c.t.d.fact 24 (f := .glo "_law_taken") rfl), (c.t.d.def_ 14 (d := d14) rfl).choose_spec⟩,
    d_law_pick := ⟨_, (c.t.d.def_ 15 (d := d15) rfl).choose, He.glo_ok X Gh (c.t.d.fact 25 (f := .glo "_law_pick") rfl), (c.t.d.def_ 15 (d := d15) rfl).choose_spec⟩,
    d_law_instruction := ⟨_, (c.t.d.def_ 16 (d := d16) rfl).choose, He.glo_ok X Gh (c.t.d.fact 26 (f := .glo "_law_instruction") rfl), (c.t.d.def_ 16 (d := d16) rfl).choose_spec⟩,
    d_law_program := ⟨_, (c.t.d.def_ 17 (d := d17) rfl).choose, He.glo_ok X Gh (c.t.d.fact 27 (f := .glo "_law_program") rfl), (c.t.d.def_ 17 (d := d17) rfl).choose_spec⟩,
    d_law_wrong := ⟨_, (c.t.d.def_ 18 (d := d18) rfl).choose, He.glo_ok X Gh (c.t.d.fact 28 (f := .glo "_law_wrong") rfl), (c.t.d.def_ 18 (d := d18) rfl).choose_spec⟩ }
end G
open PySem PySem.W PySem.Calls PyProof.Rows
set_option maxRecDepth 100000 in
set_option maxHeartbeats 0 in
theorem PySem.Challenge.cw_pairskept_k11_whole_texts_refused_holds : PySem.Challenge.rw_pairskept_k11_whole_texts_refused.Holds := by
  w_on; o_law
  refine HandSHeadRun.head_any (r := OpenLaw.row PySem.Challenge.rw_pairskept_k11_whole_texts_refused) (q := view (OpenLaw.row PySem.Challenge.rw_pairskept_k11_whole_texts_refused).prog [37]) (H := G.hk) (ob := G.ob) (M := 8000) (loose := G.loose) (d := HandSHeadRun.topDef (OpenLaw.row PySem.Challenge.rw_pairskept_k11_whole_texts_refused).prog 37) (kwd := []) G.ob_eq
    (by kernel_rfl) (fun s => by kernel_rfl) G.run (by kernel_rfl) (by kernel_rfl) (by kernel_rfl) (by rfl) (by first | assumption | decide +kernel) (by decide +kernel) ⟨rfl, rfl, rfl, rfl, rfl, by decide +kernel⟩ ?hw ?hc
  case hw => w_witness2
  case hc =>
    refine LamX.walk_ofTsE (l := PySem.Challenge.rw_pairskept_k11_whole_texts_refused) (n := 63) (k := 8) (x := "_law_script") (CX := fun w => L2.CX (PySem.Challenge.rw_pairskept_k11_whole_texts_refused).prog w) rfl (by decide) (by kernel_rfl) ⟨rfl, by decide, by decide⟩ ?F (fun _ _ _ _ _ z => J.pass_none z)
    intro w mg fa h Y Gh hmg0
    obtain ⟨K, KX, c⟩ := Y
    have hmg : mg ("law" : PySem.Str) = some (.ref fa) := by
      have e : (HandSHeadRun.topDef (OpenLaw.row PySem.Challenge.rw_pairskept_k11_whole_texts_refused).prog 37).name = ("law" : PySem.Str) := by kernel_rfl
      rw [← e]
      exact hmg0
    have e := hmg.symm.trans (He.glo_ok KX Gh (c.t.d.fact 29 (f := .glo "law") rfl))
    cases e
    obtain ⟨fd, F⟩ := c.t.d.def_ 19 (d := G.d19) rfl
    have hcT : (("law" : PySem.Str), (none : Option PySem.Str)) ∈ ([("law", none)] : List He.Defn) := List.mem_cons_self
    refine ⟨K, KX, fd, [He.cT K ("law", none)], J.spL K (G.ct (PySem.Challenge.rw_pairskept_k11_whole_texts_refused).prog w K (He.cT K ("law", none)).2) 1 G.F_law, fun p hp => ?_, fun p hp => ?_, fun p hp => ?_, fun s v => (F.bindsA (ps := ["_law_script"]) fun _ _ _ _ _ _ us hl => match us, hl with | [_], _ => rfl) s [v] rfl, fun H a ns hl _ hT hS => ?_, fun base kb nb hb => ?_⟩
    · rw [List.mem_singleton.mp hp]; exact c.empty _ hcT
    · rw [List.mem_singleton.mp hp]; exact c.out _ hcT
    · rw [List.mem_singleton.mp hp]; exact PySem.W.codeHd_of_K KX (c.hd _ hcT)
    · exact J.spL_law (fun p hp => by
        have ep : p = ((He.cT K ("law", none)).2, (("law" : PySem.Str) ++ ".<locals>.") ++ "<lambda>") := List.mem_singleton.mp hp
        rw [ep]; exact hT _ List.mem_cons_self) rfl hS (G.plain ns hl)
    · exact G.j_law (G.fx KX Gh c) rfl F rfl rfl (hb _ List.mem_cons_self) rfl

