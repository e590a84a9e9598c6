import PyProof.Rows.All
import Wide.All
import OpenK.AllK
import Wide.FinOn
import HandS.ForMost
import HandS.Exc
import HandS.ExcOwn
import HandS.WordsExc
import HandS.IsInst
import HandS.TupAny
import HandS.TupMul
import HandS.TupLe
import HandS.Lambda
import HandS.Deep
import HandS.ExcIs
import HandS.HeadHook4
import HandS.HeadEnd
import HandS.HeadWalk
import HandS.Style
import HandS.RaiseMore
import HandS.Iter
import HandS.Strs
import HandS.SetFor
import HandS.Set
import HandS.More
import PySem.Challenge.RW_pairskept_k03_whole_rows
import HandS.Head0
import HandS.Head1
import HandS.Head2
set_option Elab.async false
set_option linter.all false
set_option maxRecDepth 100000
set_option maxHeartbeats 4000000
/-! J0: data, mutable objects by number, how they lie in the layer's heap. -/
namespace J
open PySem PySem.Spec L2

/-- a value -/
inductive D where
  | non | bl (b : Bool) | int (i : Int) | str (x : Str) | ty (n : String) | tup (ds : List D) | lst (ds : List D) | frz (ds : List D) | obj (n : Nat) | raw (a : Addr)

/-- a mutable object: a list, a dict with int and text keys, an instance -/
inductive IO where
  | lst (ds : List D) | dic (kvs : List (Key × D)) | ins (c : Nat) (fs : List (Str × D))

abbrev S := List IO
abbrev Env := List (Option D)
/-- an exception: its class, a field -/
structure Ex where
  cls : Nat
  arg : Option (Str × D) := none
inductive R (α : Type) where
  | ok (a : α) (s : S) | err (e : Ex) (s : S) | no
def R.bind {α β : Type} (r : R α) (k : α → S → R β) : R β := match r with
  | .ok a s => k a s
  | .err e s => .err e s
  | .no => .no
inductive Fl where
  | nx (ρ : Env) | rt (d : D) | bk (ρ : Env) | ct (ρ : Env)
abbrev GE := Env → S → R D
abbrev GT := Env → S → R Bool
abbrev GA := Env → S → R (List D)
abbrev GS := Env → S → R Fl

/-- the own classes by number; the tables of code objects of defs that make lambdas -/
structure Ct where
  c : Nat → Addr
  T : List (Addr × Str)
/-- the mutable objects' addresses by number; all addresses whose lists may change -/
structure Wd where
  ι : List Addr
  M : List Addr

/-- a tuple stands at a: in the heap, or in the written part -/
def TupAt (K : PySem.W.Frag) (H : Hp) (a : Addr) (vs : List V) : Prop := H a = some (.tup vs) ∨
  ∃ (o : Obj) (its : Array Value) (n : Nat), K.lookup a = some o ∧ o.cls = .type "tuple" ∧ o.data = .seq its n ∧ its.size ≤ sizeLine ∧ Vals vs its.toList
theorem TupAt.sq {K : PySem.W.Frag} {H : Hp} {a : Addr} {vs : List V} (h : TupAt K H a vs) : SqT K H a vs := h.elim (fun h => SqT.of h) .inr

/-- a list that is never changed stands at a: locked, or in the written part -/
def FrzAt (K : PySem.W.Frag) (H : Hp) (a : Addr) (vs : List V) : Prop := (∃ o, H a = some (.frz o (.lst vs))) ∨
  ∃ (o : Obj) (its : Array Value) (n : Nat), K.lookup a = some o ∧ o.cls = .type "list" ∧ o.dict = none ∧ o.data = .seq its n ∧ its.size ≤ sizeLine ∧ Vals vs its.toList
theorem FrzAt.sq {K : PySem.W.Frag} {H : Hp} {a : Addr} {vs : List V} (h : FrzAt K H a vs) : SqL K H a vs := h.elim (fun ⟨o, h⟩ => .inl (.inr ⟨o, h⟩)) .inr

mutual
inductive Rep (K : PySem.W.Frag) (ι : Wd) (H : Hp) : D → V → Prop
  | non : Rep K ι H .non .non
  | bl (b : Bool) : Rep K ι H (.bl b) (.bl b)
  | int (i : Int) : Rep K ι H (.int i) (.int i)
  | str (x : Str) : Rep K ι H (.str x) (.str x)
  | ty (n : String) : Rep K ι H (.ty n) (.ty n)
  | tup {a : Addr} {vs : List V} {ds : List D} : TupAt K H a vs → Reps K ι H ds vs → Rep K ι H (.tup ds) (.ref a)
  | lst {a : Addr} {vs : List V} {ds : List D} : H a = some (.lst vs) → a ∉ ι.M → Reps K ι H ds vs → Rep K ι H (.lst ds) (.ref a)
  | frz {a : Addr} {vs : List V} {ds : List D} : FrzAt K H a vs → Reps K ι H ds vs → Rep K ι H (.frz ds) (.ref a)
  | frz2 {a : Addr} {vs : List V} {ds : List D} : H a = some (.lst vs) → a ∉ ι.M → Reps K ι H ds vs → Rep K ι H (.frz ds) (.ref a)
  | obj {a : Addr} {n : Nat} : ι.ι[n]? = some a → Rep K ι H (.obj n) (.ref a)
  | raw (a : Addr) : Rep K ι H (.raw a) (.ref a)
inductive Reps (K : PySem.W.Frag) (ι : Wd) (H : Hp) : List D → List V → Prop
  | nil : Reps K ι H [] []
  | cons {d : D} {ds : List D} {v : V} {vs : List V} : Rep K ι H d v → Reps K ι H ds vs → Reps K ι H (d :: ds) (v :: vs)
end

/-- not a table of code objects -/
def NoTab (o : HO) : Prop := ∀ ps, o ≠ .tbl ps
theorem noTab_lst {xs : List V} : NoTab (.lst xs) := fun _ z => by cases z
/-- what a value's form leans on is kept -/
structure Ke (ι : Wd) (H : Hp) (ι' : Wd) (H' : Hp) : Prop where
  pre : ι.ι <+: ι'.ι
  keep : ∀ a o, H a = some o → NoTab o → a ∉ ι.M → H' a = some o ∧ a ∉ ι'.M
  tup : ∀ a xs, H a = some (.tup xs) → H' a = some (.tup xs)
  frz : ∀ a o u, H a = some (.frz o u) → H' a = some (.frz o u)
/-- all but the mutable objects is kept -/
structure Le (ι : Wd) (H : Hp) (ι' : Wd) (H' : Hp) : Prop extends Ke ι H ι' H' where
  stay : ∀ a o, H a = some o → NoTab o → a ∉ ι.ι → H' a = some o ∧ a ∉ ι'.ι
  sub : ∀ a ∈ ι.M, a ∈ ι'.M

theorem Ke.refl {ι : Wd} {H : Hp} : Ke ι H ι H := ⟨List.prefix_rfl, fun _ _ h _ n => ⟨h, n⟩, fun _ _ h => h, fun _ _ _ h => h⟩
theorem Le.refl {ι : Wd} {H : Hp} : Le ι H ι H := ⟨.refl, fun _ _ h _ n => ⟨h, n⟩, fun _ h => h⟩
theorem Ke.trans {ι ι1 ι2 : Wd} {H H1 H2 : Hp} (a : Ke ι H ι1 H1) (b : Ke ι1 H1 ι2 H2) : Ke ι H ι2 H2 :=
  ⟨a.pre.trans b.pre, fun c o h t n => let q := a.keep c o h t n; b.keep c o q.1 t q.2, fun c xs h => b.tup c xs (a.tup c xs h), fun c o u h => b.frz c o u (a.frz c o u h)⟩
theorem Le.trans {ι ι1 ι2 : Wd} {H H1 H2 : Hp} (a : Le ι H ι1 H1) (b : Le ι1 H1 ι2 H2) : Le ι H ι2 H2 :=
  ⟨a.toKe.trans b.toKe, fun c o h t n => let q := a.stay c o h t n; b.stay c o q.1 t q.2, fun c h => b.sub c (a.sub c h)⟩
theorem Ke.get {ι ι' : Wd} {H H' : Hp} (l : Ke ι H ι' H') {n : Nat} {a : Addr} (h : ι.ι[n]? = some a) : ι'.ι[n]? = some a := by
  obtain ⟨t, e⟩ := l.pre
  rw [← e, List.getElem?_append_left (List.getElem?_eq_some_iff.mp h).1]; exact h
theorem Ke.tupAt {K : PySem.W.Frag} {ι ι' : Wd} {H H' : Hp} {a : Addr} {vs : List V} (l : Ke ι H ι' H') (h : TupAt K H a vs) : TupAt K H' a vs := h.elim (fun h => .inl (l.tup _ _ h)) .inr

theorem Ke.frzAt {K : PySem.W.Frag} {ι ι' : Wd} {H H' : Hp} {a : Addr} {vs : List V} (l : Ke ι H ι' H') (h : FrzAt K H a vs) : FrzAt K H' a vs := h.elim (fun ⟨o, h⟩ => .inl ⟨o, l.frz _ _ _ h⟩) .inr

mutual
theorem Rep.monoK {K : PySem.W.Frag} {ι ι' : Wd} {H H' : Hp} (l : Ke ι H ι' H') : ∀ {d : D} {v : V}, Rep K ι H d v → Rep K ι' H' d v
  | _, _, .non => .non
  | _, _, .bl b => .bl b
  | _, _, .int i => .int i
  | _, _, .str x => .str x
  | _, _, .ty n => .ty n
  | _, _, .tup h r => .tup (l.tupAt h) (Reps.monoK l r)
  | _, _, .lst h n r => .lst (l.keep _ _ h noTab_lst n).1 (l.keep _ _ h noTab_lst n).2 (Reps.monoK l r)
  | _, _, .frz h r => .frz (l.frzAt h) (Reps.monoK l r)
  | _, _, .frz2 h n r => .frz2 (l.keep _ _ h noTab_lst n).1 (l.keep _ _ h noTab_lst n).2 (Reps.monoK l r)
  | _, _, .obj h => .obj (l.get h)
  | _, _, .raw a => .raw a
theorem Reps.monoK {K : PySem.W.Frag} {ι ι' : Wd} {H H' : Hp} (l : Ke ι H ι' H') : ∀ {ds : List D} {vs : List V}, Reps K ι H ds vs → Reps K ι' H' ds vs
  | _, _, .nil => .nil
  | _, _, .cons r t => .cons (Rep.monoK l r) (Reps.monoK l t)
end
theorem Rep.mono {K : PySem.W.Frag} {ι ι' : Wd} {H H' : Hp} {d : D} {v : V} (r : Rep K ι H d v) (l : Le ι H ι' H') : Rep K ι' H' d v := Rep.monoK l.toKe r
theorem Reps.mono {K : PySem.W.Frag} {ι ι' : Wd} {H H' : Hp} {d : List D} {v : List V} (r : Reps K ι H d v) (l : Le ι H ι' H') : Reps K ι' H' d v := Reps.monoK l.toKe r
section
variable {K : PySem.W.Frag} {ι : Wd} {H : Hp}
theorem Reps.length : ∀ {ds : List D} {vs : List V}, Reps K ι H ds vs → ds.length = vs.length
  | _, _, .nil => rfl
  | _, _, .cons _ t => congrArg (· + 1) (Reps.length t)
theorem Reps.get : ∀ {ds : List D} {vs : List V} {i : Nat} {d : D}, Reps K ι H ds vs → ds[i]? = some d → ∃ v, vs[i]? = some v ∧ Rep K ι H d v
  | _, _, _, _, .nil, e => by simp at e
  | _, _, 0, _, .cons r _, e => by simp at e; subst e; exact ⟨_, rfl, r⟩
  | _, _, i + 1, _, .cons _ t, e => by
    obtain ⟨v, h1, h2⟩ := Reps.get (i := i) t (by simpa using e)
    exact ⟨v, by simpa using h1, h2⟩
theorem Reps.getV : ∀ {ds : List D} {vs : List V} {i : Nat} {v : V}, Reps K ι H ds vs → vs[i]? = some v → ∃ d, ds[i]? = some d ∧ Rep K ι H d v
  | _, _, _, _, .nil, e => by simp at e
  | _, _, 0, _, .cons r _, e => by simp at e; subst e; exact ⟨_, rfl, r⟩
  | _, _, i + 1, _, .cons _ t, e => by
    obtain ⟨v, h1, h2⟩ := Reps.getV (i := i) t (by simpa using e)
    exact ⟨v, by simpa using h1, h2⟩
theorem Reps.append : ∀ {ds es : List D} {vs ws : List V}, Reps K ι H ds vs → Reps K ι H es ws → Reps K ι H (ds ++ es) (vs ++ ws)
  | _, _, _, _, .nil, s => s
  | _, _, _, _, .cons r t, s => .cons r (Reps.append t s)
theorem Reps.take : ∀ {ds : List D} {vs : List V} (n : Nat), Reps K ι H ds vs → Reps K ι H (ds.take n) (vs.take n)
  | _, _, 0, _ => .nil
  | _, _, _ + 1, .nil => .nil
  | _, _, n + 1, .cons r t => .cons r (Reps.take n t)
theorem Reps.drop : ∀ {ds : List D} {vs : List V} (n : Nat), Reps K ι H ds vs → Reps K ι H (ds.drop n) (vs.drop n)
  | _, _, 0, r => r
  | _, _, _ + 1, .nil => .nil
  | _, _, n + 1, .cons _ t => Reps.drop n t
theorem Reps.set {d : D} {v : V} (r : Rep K ι H d v) : ∀ {ds : List D} {vs : List V} (i : Nat), Reps K ι H ds vs → Reps K ι H (ds.set i d) (vs.set i v)
  | _, _, _, .nil => .nil
  | _, _, 0, .cons _ t => .cons r t
  | _, _, i + 1, .cons q t => .cons q (Reps.set r i t)
theorem Reps.rep {d : D} {v : V} (r : Rep K ι H d v) : ∀ n : Nat, Reps K ι H (List.replicate n d) (List.replicate n v)
  | 0 => .nil
  | n + 1 => .cons r (Reps.rep r n)
theorem Reps.flat {ds : List D} {vs : List V} (r : Reps K ι H ds vs) : ∀ k : Nat, Reps K ι H (List.replicate k ds).flatten (List.replicate k vs).flatten
  | 0 => .nil
  | k + 1 => by rw [List.replicate_succ, List.replicate_succ, List.flatten_cons, List.flatten_cons]; exact r.append (Reps.flat r k)
theorem Reps.ints : ∀ {ns : List Int} {vs : List V}, Reps K ι H (ns.map D.int) vs → vs = ns.map V.int
  | [], _, h => by cases h; rfl
  | n :: ns, _, h => by
    cases h with
    | cons r t => cases r; rw [Reps.ints t]; rfl
theorem Reps.bls : ∀ {ns : List Bool} {vs : List V}, Reps K ι H (ns.map D.bl) vs → vs = ns.map V.bl
  | [], _, h => by cases h; rfl
  | n :: ns, _, h => by
    cases h with
    | cons r t => cases r; rw [Reps.bls t]; rfl
theorem Reps.strs : ∀ {ns : List Str} {vs : List V}, Reps K ι H (ns.map D.str) vs → vs = ns.map V.str
  | [], _, h => by cases h; rfl
  | n :: ns, _, h => by
    cases h with
    | cons r t => cases r; rw [Reps.strs t]; rfl
end

/-- what may change -/
def MutJ : HO → Prop
  | .lst _ => True
  | .dK _ => True
  | .ins _ _ _ => True
  | _ => False
theorem MutJ.mut {o : HO} (h : MutJ o) : Mut (some o) := by
  cases o <;> first | trivial | exact h.elim
theorem MutJ.noTab {o : HO} (h : MutJ o) : NoTab o := fun ps z => by rw [z] at h; exact h
theorem MutJ.noExt {o : HO} (h : MutJ o) (φ : Heap → Prop) : o ≠ .ext φ := fun z => by rw [z] at h; exact h
/-- the tables of code objects stand -/
def TabsJ (T : List (Addr × Str)) (ι : Wd) (H : Hp) : Prop := ∀ p ∈ T, ∃ ps : Array Value, H p.1 = some (.tbl ps) ∧ p.1 ∉ ι.M ∧ TriplesOk ps.toList ∧ ∀ (pos : Pos) (cv : Value), codeAmong pos ps.toList = some cv → ∃ c, cv = .ref c ∧ H c = some (LamX.CodeO c p.2) ∧ c ∉ ι.M
theorem TabsJ.keep {T : List (Addr × Str)} {ι ι' : Wd} {H H' : Hp} (t : TabsJ T ι H) (k : ∀ a o, H a = some o → a ∉ ι.M → H' a = some o ∧ a ∉ ι'.M) : TabsJ T ι' H' := fun p hp => by
  obtain ⟨ps, h1, h2, h3, h4⟩ := t p hp
  refine ⟨ps, (k _ _ h1 h2).1, (k _ _ h1 h2).2, h3, fun pos cv hc => ?_⟩
  obtain ⟨c, e, h5, h6⟩ := h4 pos cv hc
  exact ⟨c, e, (k _ _ h5 h6).1, (k _ _ h5 h6).2⟩
theorem TabsJ.tabs {T : List (Addr × Str)} {ι : Wd} {H : Hp} (t : TabsJ T ι H) : LamX.Tabs T H := fun p hp => by
  obtain ⟨ps, h1, h2, h3, h4⟩ := t p hp
  exact ⟨ps, h1, h3, fun pos cv hc => let ⟨c, e, h5, _⟩ := h4 pos cv hc; ⟨c, e, h5⟩⟩
/-- keyed values, pair by pair -/
def RepF {κ : Type} (K : PySem.W.Frag) (ι : Wd) (H : Hp) : List (κ × D) → List (κ × V) → Prop := Paired fun p q => p.1 = q.1 ∧ Rep K ι H p.2 q.2
def RepO (K : PySem.W.Frag) (ca : Ct) (ι : Wd) (H : Hp) (a : Addr) : IO → Prop
  | .lst ds => ∃ vs, H a = some (.lst vs) ∧ Reps K ι H ds vs
  | .dic kvs => ∃ ws, H a = some (.dK ws) ∧ RepF K ι H kvs ws
  | .ins c fs => ∃ dx ws, H a = some (.ins (ca.c c) dx ws) ∧ RepF K ι H fs ws
theorem RepF.monoK {κ : Type} {K : PySem.W.Frag} {ι ι' : Wd} {H H' : Hp} (l : Ke ι H ι' H') {xs : List (κ × D)} {ys : List (κ × V)} (r : RepF K ι H xs ys) : RepF K ι' H' xs ys :=
  Paired.mapP r fun _ _ q => ⟨q.1, Rep.monoK l q.2⟩
theorem RepF.mono {κ : Type} {K : PySem.W.Frag} {ι ι' : Wd} {H H' : Hp} (l : Le ι H ι' H') {xs : List (κ × D)} {ys : List (κ × V)} (r : RepF K ι H xs ys) : RepF K ι' H' xs ys := RepF.monoK l.toKe r
structure Sim (K : PySem.W.Frag) (ca : Ct) (ι : Wd) (s : S) (H : Hp) : Prop where
  len : ι.ι.length = s.length
  nd : ι.ι.Nodup
  sub : ∀ a ∈ ι.ι, a ∈ ι.M
  tr : ∀ a ∈ ι.M, ∃ o, H a = some o ∧ MutJ o
  tab : TabsJ ca.T ι H
  ob : ∀ (n : Nat) (a : Addr) (o : IO), ι.ι[n]? = some a → s[n]? = some o → RepO K ca ι H a o
/-- the names' values -/
structure RelS (K : PySem.W.Frag) (ι : Wd) (H : Hp) (ρ : Env) (σ : L2.St) : Prop where
  len : ρ.length = σ.length
  at_ : ∀ (i : Nat) (d : D), ρ[i]? = some (some d) → ∃ v, σ[i]? = some (some v) ∧ Rep K ι H d v
def RepX (K : PySem.W.Frag) (ca : Ct) (ι : Wd) (H : Hp) (e : Ex) (cv : Value) (d : Option Addr) : Prop :=
  cv = .ref (ca.c e.cls) ∧ (e.arg = none → d = none) ∧ ∀ f x, e.arg = some (f, x) → ∃ dd fs v, d = some dd ∧ H dd = some (.xd fs) ∧ fs.lookup f = some v ∧ Rep K ι H x v
section
variable {K : PySem.W.Frag} {ca : Ct} {ι ι' : Wd} {H H' : Hp} {ρ : Env} {σ : L2.St} {s : S}
theorem RelS.mono (r : RelS K ι H ρ σ) (l : Le ι H ι' H') : RelS K ι' H' ρ σ := ⟨r.len, fun i d h => let ⟨v, a, b⟩ := r.at_ i d h; ⟨v, a, b.mono l⟩⟩
theorem RelS.set (r : RelS K ι H ρ σ) {d : D} {v : V} (q : Rep K ι H d v) (i : Nat) : RelS K ι H (ρ.set i (some d)) (σ.set i (some v)) := by
  refine ⟨by simp [r.len], fun j e h => ?_⟩
  by_cases hj : i = j
  · subst hj
    have hl : i < ρ.length := by
      have := (List.getElem?_eq_some_iff.mp h).1
      simpa using this
    rw [List.getElem?_set_self hl] at h
    cases h
    exact ⟨v, List.getElem?_set_self (by rw [← r.len]; exact hl), q⟩
  · rw [List.getElem?_set_ne hj] at h
    rw [List.getElem?_set_ne hj]
    exact r.at_ j e h
theorem RelS.wipe (r : RelS K ι H ρ σ) : ∀ vs : List Nat, RelS K ι H (vs.foldr (fun v l => l.set v none) ρ) (L2.wipe σ vs)
  | [] => r
  | v :: vs => by
    have q := RelS.wipe r vs
    refine ⟨by simp [L2.wipe, q.len], fun j e h => ?_⟩
    simp only [List.foldr_cons] at h
    unfold L2.wipe
    by_cases hj : v = j
    · subst hj
      rw [List.getElem?_set] at h
      simp at h
    · rw [List.getElem?_set_ne hj] at h
      rw [List.getElem?_set_ne hj]
      exact q.at_ j e h
theorem RepO.monoK (l : Ke ι H ι' H') {a : Addr} {u : IO} (e : H' a = H a) (q : RepO K ca ι H a u) : RepO K ca ι' H' a u := by
  cases u with
  | lst ds => obtain ⟨vs, h, r⟩ := q; exact ⟨vs, by rw [e]; exact h, Reps.monoK l r⟩
  | dic kvs => obtain ⟨vs, h, r⟩ := q; exact ⟨vs, by rw [e]; exact h, RepF.monoK l r⟩
  | ins c fs => obtain ⟨dx, ws, h, r⟩ := q; exact ⟨dx, ws, by rw [e]; exact h, RepF.monoK l r⟩
theorem RepO.mono (l : Le ι H ι' H') {a : Addr} {u : IO} (q : RepO K ca ι H a u) (e : H' a = H a) : RepO K ca ι' H' a u := RepO.monoK l.toKe e q
theorem Sim.tracked (m : Sim K ca ι s H) {a : Addr} (h : a ∈ ι.ι) : ∃ o, H a = some o ∧ MutJ o := m.tr a (m.sub a h)
theorem Sim.ne (m : Sim K ca ι s H) {p : Addr} (h : H p = none) : p ∉ ι.M := fun hp => by
  obtain ⟨o, q, _⟩ := m.tr p hp
  rw [h] at q; cases q
/-- a new object -/
theorem Le.new {p : Addr} {o : HO} (h : H p = none) : Le ι H ι (upd H p o) :=
  ⟨⟨List.prefix_rfl, fun a u q _ n => ⟨by rw [upd_ne (ne_of_none q h)]; exact q, n⟩, fun a xs q => by rw [upd_ne (ne_of_none q h)]; exact q, fun a xs u q => by rw [upd_ne (ne_of_none q h)]; exact q⟩,
    fun a u q _ n => ⟨by rw [upd_ne (ne_of_none q h)]; exact q, n⟩, fun _ h => h⟩
/-- a heap that changed nowhere but at what may change, apart from the objects by number -/
theorem Sim.grow (m : Sim K ca ι s H) (l : Le ι H ι H') (k : ∀ a ∈ ι.M, H' a = H a) (kt : ∀ a o, H a = some o → a ∉ ι.M → H' a = some o) : Sim K ca ι s H' :=
  ⟨m.len, m.nd, m.sub, fun a h => by rw [k a h]; exact m.tr a h, m.tab.keep fun a o h n => ⟨kt a o h n, n⟩, fun n a u hn hs => (m.ob n a u hn hs).mono l (k a (m.sub a (List.mem_of_getElem? hn)))⟩
/-- a new object that is never changed -/
theorem Sim.new (m : Sim K ca ι s H) {p : Addr} {o : HO} (h : H p = none) : Le ι H ι (upd H p o) ∧ Sim K ca ι s (upd H p o) :=
  ⟨Le.new h, m.grow (Le.new h) (fun a ha => upd_ne fun z => m.ne h (z ▸ ha)) fun a u q _ => by rw [upd_ne (ne_of_none q h)]; exact q⟩
/-- a new mutable object -/
theorem Sim.alloc (m : Sim K ca ι s H) {p : Addr} {o : HO} {u : IO} (h : H p = none) (mu : MutJ o) (hr : Le ι H ⟨ι.ι ++ [p], p :: ι.M⟩ (upd H p o) → RepO K ca ⟨ι.ι ++ [p], p :: ι.M⟩ (upd H p o) p u) :
    Le ι H ⟨ι.ι ++ [p], p :: ι.M⟩ (upd H p o) ∧ Sim K ca ⟨ι.ι ++ [p], p :: ι.M⟩ (s ++ [u]) (upd H p o) := by
  have l : Le ι H ⟨ι.ι ++ [p], p :: ι.M⟩ (upd H p o) := ⟨⟨List.prefix_append _ _, fun a x q _ n => ⟨by rw [upd_ne (ne_of_none q h)]; exact q, fun z => by
      rcases List.mem_cons.mp z with z | z
      · exact ne_of_none q h z
      · exact n z⟩, fun a xs q => by rw [upd_ne (ne_of_none q h)]; exact q, fun a xs u q => by rw [upd_ne (ne_of_none q h)]; exact q⟩,
    fun a x q _ n => ⟨by rw [upd_ne (ne_of_none q h)]; exact q, fun z => by
      rcases List.mem_append.mp z with z | z
      · exact n z
      · exact ne_of_none q h (by simpa using z)⟩, fun a ha => List.mem_cons_of_mem _ ha⟩
  refine ⟨l, by simp [m.len], ?_, fun a ha => ?_, fun a ha => ?_, m.tab.keep fun a x q n => ⟨by rw [upd_ne (ne_of_none q h)]; exact q, fun z => by
      rcases List.mem_cons.mp z with z | z
      · exact ne_of_none q h z
      · exact n z⟩, fun n a x hn hs => ?_⟩
  · refine List.nodup_append.mpr ⟨m.nd, by simp, fun a ha b hb => ?_⟩
    have : b = p := by simpa using hb
    subst this
    exact fun z => m.ne h (z ▸ m.sub a ha)
  · rcases List.mem_append.mp ha with z | z
    · exact List.mem_cons_of_mem _ (m.sub a z)
    · rw [show a = p by simpa using z]; exact List.mem_cons_self
  · rcases List.mem_cons.mp ha with z | z
    · subst z; exact ⟨o, upd_same, mu⟩
    · rw [upd_ne (show a ≠ p from fun e => m.ne h (by rw [← e]; exact z))]; exact m.tr a z
  · by_cases hlt : n < ι.ι.length
    · have hn' : ι.ι[n]? = some a := by rw [← hn]; exact (List.getElem?_append_left hlt).symm
      rw [List.getElem?_append_left (by rw [← m.len]; exact hlt)] at hs
      exact (m.ob n a x hn' hs).mono l (upd_ne fun z => m.ne h (z ▸ m.sub a (List.mem_of_getElem? hn')))
    · have hn2 : n = ι.ι.length := by
        have := (List.getElem?_eq_some_iff.mp hn).1
        simp at this; omega
      subst hn2
      have hn' : some p = some a := by rw [← hn]; simp
      rw [List.getElem?_append_right (by rw [m.len]; exact Nat.le_refl _)] at hs
      simp [m.len] at hs
      cases hn'
      subst hs
      exact hr l
/-- what may change is changed -/
theorem Ke.write (m : Sim K ca ι s H) {a : Addr} {o : HO} (ha : a ∈ ι.M) : Ke ι H ι (upd H a o) := by
  obtain ⟨x, hx, mu⟩ := m.tr a ha
  exact ⟨List.prefix_rfl, fun b y q _ nb => ⟨by rw [upd_ne (fun z : b = a => nb (by rw [z]; exact ha))]; exact q, nb⟩, fun b xs q => by
      rw [upd_ne (fun z : b = a => by rw [z, hx] at q; cases q; exact mu)]; exact q, fun b ob y q => by
      rw [upd_ne (fun z : b = a => by rw [z, hx] at q; cases q; exact mu)]; exact q⟩
theorem Le.write (m : Sim K ca ι s H) {a : Addr} {o : HO} (ha : a ∈ ι.ι) : Le ι H ι (upd H a o) :=
  ⟨Ke.write m (m.sub a ha), fun b y q _ nb => ⟨by rw [upd_ne (fun z : b = a => nb (by rw [z]; exact ha))]; exact q, nb⟩, fun _ h => h⟩
theorem Sim.idx (m : Sim K ca ι s H) {n j : Nat} {a : Addr} (hn : ι.ι[n]? = some a) (hj : ι.ι[j]? = some a) : n = j := by
  obtain ⟨h1, e1⟩ := List.getElem?_eq_some_iff.mp hn
  obtain ⟨h2, e2⟩ := List.getElem?_eq_some_iff.mp hj
  exact (List.getElem_inj m.nd).mp (e1.trans e2.symm)
/-- a mutable object is changed -/
theorem Sim.write (m : Sim K ca ι s H) {n : Nat} {a : Addr} {o : HO} {u : IO} (hn : ι.ι[n]? = some a) (mu : MutJ o) (hr : Le ι H ι (upd H a o) → RepO K ca ι (upd H a o) a u) :
    Le ι H ι (upd H a o) ∧ Sim K ca ι (s.set n u) (upd H a o) := by
  have l : Le ι H ι (upd H a o) := Le.write m (List.mem_of_getElem? hn)
  refine ⟨l, by simp [m.len], m.nd, m.sub, fun b hb => ?_, m.tab.keep fun b y q nb => ⟨by rw [upd_ne (fun z : b = a => nb (by rw [z]; exact m.sub a (List.mem_of_getElem? hn)))]; exact q, nb⟩, fun j b y hj hs => ?_⟩
  · by_cases e : b = a
    · subst e; exact ⟨o, upd_same, mu⟩
    · rw [upd_ne e]; exact m.tr b hb
  · by_cases e : n = j
    · subst e
      rw [hn] at hj; cases hj
      have hl : n < s.length := by rw [← m.len]; exact (List.getElem?_eq_some_iff.mp hn).1
      rw [List.getElem?_set_self hl] at hs
      cases hs
      exact hr l
    · rw [List.getElem?_set_ne e] at hs
      exact (m.ob j b y hj hs).mono l (upd_ne fun z => e (m.idx hn (z ▸ hj)))
/-- a list that is being filled (not by number) is changed -/
theorem Sim.fill (m : Sim K ca ι s H) {a : Addr} {o : HO} (ha : a ∈ ι.M) (hn : a ∉ ι.ι) (mu : MutJ o) : Ke ι H ι (upd H a o) ∧ Sim K ca ι s (upd H a o) := by
  have l : Ke ι H ι (upd H a o) := Ke.write m ha
  refine ⟨l, m.len, m.nd, m.sub, fun b hb => ?_, m.tab.keep fun b y q nb => ⟨by rw [upd_ne (fun z : b = a => nb (by rw [z]; exact ha))]; exact q, nb⟩, fun j b y hj hs => ?_⟩
  · by_cases e : b = a
    · subst e; exact ⟨o, upd_same, mu⟩
    · rw [upd_ne e]; exact m.tr b hb
  · exact (m.ob j b y hj hs).monoK l (upd_ne fun z => hn (z ▸ List.mem_of_getElem? hj))
/-- a list to be filled comes -/
theorem Sim.open (m : Sim K ca ι s H) {p : Addr} {o : HO} (h : H p = none) (mu : MutJ o) : Le ι H ⟨ι.ι, p :: ι.M⟩ (upd H p o) ∧ Sim K ca ⟨ι.ι, p :: ι.M⟩ s (upd H p o) := by
  have l : Le ι H ⟨ι.ι, p :: ι.M⟩ (upd H p o) := ⟨⟨List.prefix_rfl, fun a x q _ n => ⟨by rw [upd_ne (ne_of_none q h)]; exact q, fun z => by
      rcases List.mem_cons.mp z with z | z
      · exact ne_of_none q h z
      · exact n z⟩, fun a xs q => by rw [upd_ne (ne_of_none q h)]; exact q, fun a xs u q => by rw [upd_ne (ne_of_none q h)]; exact q⟩,
    fun a x q _ n => ⟨by rw [upd_ne (ne_of_none q h)]; exact q, n⟩, fun a ha => List.mem_cons_of_mem _ ha⟩
  refine ⟨l, m.len, m.nd, fun a ha => List.mem_cons_of_mem _ (m.sub a ha), fun a ha => ?_, m.tab.keep fun a x q n => ⟨by rw [upd_ne (ne_of_none q h)]; exact q, fun z => by
      rcases List.mem_cons.mp z with z | z
      · exact ne_of_none q h z
      · exact n z⟩, fun n a x hn hs => ?_⟩
  · rcases List.mem_cons.mp ha with z | z
    · subst z; exact ⟨o, upd_same, mu⟩
    · rw [upd_ne (show a ≠ p from fun e => m.ne h (by rw [← e]; exact z))]; exact m.tr a z
  · exact (m.ob n a x hn hs).mono l (upd_ne fun z => m.ne h (z ▸ m.sub a (List.mem_of_getElem? hn)))
/-- it is filled: from now on it never changes -/
theorem Sim.shut (m : Sim K ca ι s H) {p : Addr} (hn : p ∉ ι.ι) : Ke ι H ⟨ι.ι, ι.M.filter (· ≠ p)⟩ H ∧ Sim K ca ⟨ι.ι, ι.M.filter (· ≠ p)⟩ s H := by
  have l : Ke ι H ⟨ι.ι, ι.M.filter (· ≠ p)⟩ H := ⟨List.prefix_rfl, fun a o h _ n => ⟨h, fun z => n (List.mem_filter.mp z).1⟩, fun _ _ h => h, fun _ _ _ h => h⟩
  refine ⟨l, m.len, m.nd, fun a ha => List.mem_filter.mpr ⟨m.sub a ha, ?_⟩, fun a ha => m.tr a (List.mem_filter.mp ha).1, m.tab.keep fun a o h n => ⟨h, fun z => n (List.mem_filter.mp z).1⟩, fun n a x hn hs => (m.ob n a x hn hs).monoK l rfl⟩
  simp only [ne_eq, decide_not, Bool.not_eq_true', decide_eq_false_iff_not]
  exact fun z => hn (z ▸ ha)
end

/-! ### readings of mirrors -/
def PostE (K : PySem.W.Frag) (ca : Ct) (ι : Wd) (H : Hp) (r : R D) (Q : VK) (E : XK) : Prop := match r with
  | .ok d s' => ∀ ι' v H', Le ι H ι' H' → Sim K ca ι' s' H' → Rep K ι' H' d v → Q v H'
  | .err e s' => ∀ ι' cv dd H', Le ι H ι' H' → Sim K ca ι' s' H' → RepX K ca ι' H' e cv dd → E cv dd H'
  | .no => False
def tG (K : PySem.W.Frag) (ca : Ct) (W : WX) (g : GE) : TE := fun σ H Q => ∃ ι ρ s, RelS K ι H ρ σ ∧ Sim K ca ι s H ∧ PostE K ca ι H (g ρ s) Q (fun cv dd H' => W cv dd σ H')
def PostT (K : PySem.W.Frag) (ca : Ct) (ι : Wd) (H : Hp) (r : R Bool) (Q : Bool → Hp → Prop) (E : XK) : Prop := match r with
  | .ok b s' => ∀ ι' H', Le ι H ι' H' → Sim K ca ι' s' H' → Q b H'
  | .err e s' => ∀ ι' cv dd H', Le ι H ι' H' → Sim K ca ι' s' H' → RepX K ca ι' H' e cv dd → E cv dd H'
  | .no => False
def tT (K : PySem.W.Frag) (ca : Ct) (W : WX) (g : GT) : TT := fun σ H Q => ∃ ι ρ s, RelS K ι H ρ σ ∧ Sim K ca ι s H ∧ PostT K ca ι H (g ρ s) Q (fun cv dd H' => W cv dd σ H')
def PostA (K : PySem.W.Frag) (ca : Ct) (ι : Wd) (H : Hp) (r : R (List D)) (Q : List V → Hp → Prop) (E : XK) : Prop := match r with
  | .ok ds s' => ∀ ι' vs H', Le ι H ι' H' → Sim K ca ι' s' H' → Reps K ι' H' ds vs → Q vs H'
  | .err e s' => ∀ ι' cv dd H', Le ι H ι' H' → Sim K ca ι' s' H' → RepX K ca ι' H' e cv dd → E cv dd H'
  | .no => False
def tA (K : PySem.W.Frag) (ca : Ct) (W : WX) (g : GA) : TA := fun σ H Q => ∃ ι ρ s, RelS K ι H ρ σ ∧ Sim K ca ι s H ∧ PostA K ca ι H (g ρ s) Q (fun cv dd H' => W cv dd σ H')
def PostS (K : PySem.W.Frag) (ca : Ct) (ι : Wd) (H : Hp) (W : WX) (r : R Fl) (D : Ends) : Prop := match r with
  | .ok (.nx ρ') s' => ∀ ι' σ' H', Le ι H ι' H' → Sim K ca ι' s' H' → RelS K ι' H' ρ' σ' → D.nx σ' H'
  | .ok (.bk ρ') s' => ∀ ι' σ' H', Le ι H ι' H' → Sim K ca ι' s' H' → RelS K ι' H' ρ' σ' → D.bk σ' H'
  | .ok (.ct ρ') s' => ∀ ι' σ' H', Le ι H ι' H' → Sim K ca ι' s' H' → RelS K ι' H' ρ' σ' → D.ct σ' H'
  | .ok (.rt d) s' => ∀ ι' v H', Le ι H ι' H' → Sim K ca ι' s' H' → Rep K ι' H' d v → D.rt v H'
  | .err e s' => ∀ ι' cv dd H' σ', Le ι H ι' H' → Sim K ca ι' s' H' → RepX K ca ι' H' e cv dd → W cv dd σ' H'
  | .no => False
def tS (K : PySem.W.Frag) (ca : Ct) (W : WX) (g : GS) : TS := fun D σ H => ∃ ι ρ s, RelS K ι H ρ σ ∧ Sim K ca ι s H ∧ PostS K ca ι H W (g ρ s) D

section
variable {K : PySem.W.Frag} {ca : Ct} {ι ι' : Wd} {H H' : Hp} {r : R D} {Q Q' : VK} {E E' : XK}
theorem PostE.mono (p : PostE K ca ι H r Q E) (l : Le ι H ι' H') : PostE K ca ι' H' r Q E := by
  cases r with
  | ok d s => exact fun ι2 v H2 l2 m q => p ι2 v H2 (l.trans l2) m q
  | err e s => exact fun ι2 cv dd H2 l2 m q => p ι2 cv dd H2 (l.trans l2) m q
  | no => exact p
theorem PostT.mono {r : R Bool} {Q : Bool → Hp → Prop} (p : PostT K ca ι H r Q E) (l : Le ι H ι' H') : PostT K ca ι' H' r Q E := by
  cases r with
  | ok d s => exact fun ι2 H2 l2 m => p ι2 H2 (l.trans l2) m
  | err e s => exact fun ι2 cv dd H2 l2 m q => p ι2 cv dd H2 (l.trans l2) m q
  | no => exact p
theorem PostA.mono {r : R (List D)} {Q : List V → Hp → Prop} (p : PostA K ca ι H r Q E) (l : Le ι H ι' H') : PostA K ca ι' H' r Q E := by
  cases r with
  | ok d s => exact fun ι2 v H2 l2 m q => p ι2 v H2 (l.trans l2) m q
  | err e s => exact fun ι2 cv dd H2 l2 m q => p ι2 cv dd H2 (l.trans l2) m q
  | no => exact p
theorem PostS.mono {W : WX} {r : R Fl} {D : Ends} (p : PostS K ca ι H W r D) (l : Le ι H ι' H') : PostS K ca ι' H' W r D := by
  cases r with
  | ok f s => cases f with
    | nx ρ => exact fun ι2 v H2 l2 m q => p ι2 v H2 (l.trans l2) m q
    | bk ρ => exact fun ι2 v H2 l2 m q => p ι2 v H2 (l.trans l2) m q
    | ct ρ => exact fun ι2 v H2 l2 m q => p ι2 v H2 (l.trans l2) m q
    | rt d => exact fun ι2 v H2 l2 m q => p ι2 v H2 (l.trans l2) m q
  | err e s => exact fun ι2 cv dd H2 σ' l2 m q => p ι2 cv dd H2 σ' (l.trans l2) m q
  | no => exact p
end
end J


set_option Elab.async false
set_option linter.all false
set_option maxRecDepth 100000
set_option maxHeartbeats 4000000
/-! J1: operations on data; the judgements; names, constants, operators, comparisons, tests, displays. -/
namespace J
open PySem PySem.Spec L2

/-! ### operations on data -/
mutual
def D.toPy : D → Option PyData
  | .non => some .none
  | .bl b => some (.bool b)
  | .int i => some (.int i)
  | .str x => some (.str x)
  | .tup ds => (D.toPys ds).map PyData.tuple
  | .lst ds => (D.toPys ds).map PyData.list
  | .frz ds => (D.toPys ds).map PyData.list
  | .ty _ => none
  | .obj _ => none
  | .raw _ => none
def D.toPys : List D → Option (List PyData)
  | [] => some []
  | d :: ds => match D.toPy d, D.toPys ds with
    | some p, some ps => some (p :: ps)
    | _, _ => none
end
/-- the items of a list (of a mutable one: as they stand) -/
def itemsL (s : S) : D → Option (List D)
  | .lst ds => some ds
  | .frz ds => some ds
  | .obj n => match s[n]? with | some (.lst ds) => some ds | _ => none
  | _ => none
def itemsT : D → Option (List D)
  | .tup ds => some ds
  | _ => none
/-- a mutable list as a value for reading -/
def deref (s : S) : D → D
  | .obj n => match s[n]? with | some (.lst ds) => .lst ds | _ => .obj n
  | d => d
def eqD (s : S) (x y : D) : Option Bool := match (deref s x).toPy, (deref s y).toPy with
  | some a, some b => if SeqAt.shaped a && SeqAt.shaped b then some (PyData.eqv a b) else none
  | _, _ => none
def fEq (s : S) (x y : D) : Option D := (eqD s x y).map .bl
def fNe (s : S) (x y : D) : Option D := (eqD s x y).map fun b => .bl !b
def fitL (n : Nat) : Bool := n ≤ 16777216
def fAdd (_ : S) : D → D → Option D
  | .int i, .int j => some (.int (i + j))
  | .str x, .str y => if fitL (x.length + y.length) then some (.str (x ++ y)) else none
  | .tup x, .tup y => if fitL (x.length + y.length) then some (.tup (x ++ y)) else none
  | .lst x, .lst y => if fitL (x.length + y.length) then some (.lst (x ++ y)) else none
  | _, _ => none
def fSub (_ : S) : D → D → Option D
  | .int i, .int j => some (.int (i - j))
  | _, _ => none
def small64 (i : Int) : Bool := decide (-(2 ^ 64) < i) && decide (i < 2 ^ 64)
def fMul (_ : S) : D → D → Option D
  | .int i, .int j => if small64 i || small64 j then some (.int (i * j)) else none
  | .lst x, .int j => if decide (-(2 ^ 63) ≤ j) && decide (j < 2 ^ 63) && fitL (x.length * j.toNat) then some (.lst (List.replicate j.toNat x).flatten) else none
  | .tup x, .int j => if !x.isEmpty && decide (2 ≤ j) && decide (j ≤ 1000) && decide (x.length ≤ 1000) then some (.tup (List.replicate j.toNat x).flatten) else none
  | _, _ => none
def fDiv (_ : S) : D → D → Option D
  | .int i, .int j => if decide (0 < j) && decide (j < 1073741824) then some (.int (i / j)) else none
  | _, _ => none
def fMod (_ : S) : D → D → Option D
  | .int i, .int j => if decide (0 < j) then some (.int (i % j)) else none
  | _, _ => none
def fPow (_ : S) : D → D → Option D
  | .int i, .int j => if decide (0 ≤ j) && decide (j ≤ 1000000) && decide (i.natAbs < 2 ^ 64) then some (.int (i ^ j.toNat)) else none
  | _, _ => none
def fLt (_ : S) : D → D → Option D
  | .int i, .int j => some (.bl (decide (i < j)))
  | .str i, .str j => some (.bl (decide (i.cps.toList < j.cps.toList)))
  | _, _ => none
def fLe (_ : S) : D → D → Option D
  | .int i, .int j => some (.bl (decide (i ≤ j)))
  | _, _ => none
def fGt (_ : S) : D → D → Option D
  | .int i, .int j => some (.bl (decide (j < i)))
  | _, _ => none
def fGe (_ : S) : D → D → Option D
  | .int i, .int j => some (.bl (decide (j ≤ i)))
  | _, _ => none
/-- x is y, y None, True or False -/
def isD : D → D → Option Bool
  | .non, .non => some true
  | .bl a, .bl b => some (decide (a = b))
  | _, .non => some false
  | _, _ => none
def fIs (_ : S) (x y : D) : Option D := (isD x y).map .bl
def fIsN (_ : S) (x y : D) : Option D := (isD x y).map fun b => .bl !b
/-- x in y -/
def inD (s : S) (x y : D) : Option Bool := match y with
  | .str j => match x with | .str i => some (!(Builtin.Str.occurrences j i 0 j.length 1).isEmpty) | _ => none
  | .tup ds => match D.toPy x, D.toPys ds with
    | some p, some ps => if SeqAt.shaped p && SeqAt.shaped (.tuple ps) then some (ps.any fun z => PyData.eqv z p) else none
    | _, _ => none
  | y => match itemsL s y with
    | some ds => match D.toPy x, D.toPys ds with
      | some p, some ps => if SeqAt.shaped p && SeqAt.shaped (.list ps) then some (ps.any fun z => PyData.eqv z p) else none
      | _, _ => none
    | none => none
def fIn (s : S) (x y : D) : Option D := (inD s x y).map .bl
def fNotIn (s : S) (x y : D) : Option D := (inD s x y).map fun b => .bl !b
/-- x[i] -/
def fIdx (s : S) (x i : D) : Option D := match i with
  | .int i => match x with
    | .str z => if fitL z.length then (atI z.cps.toList i).map fun c => .str ⟨#[c]⟩ else none
    | .tup ds => atI ds i
    | x => (itemsL s x).bind fun ds => atI ds i
  | _ => none
def fLen (s : S) (x : D) : Option D := match x with
  | .str z => if fitL z.length then some (.int z.length) else none
  | .tup ds => some (.int ds.length)
  | x => (itemsL s x).map fun ds => .int ds.length

/-! ### data in the heap -/
section
variable {K : PySem.W.Frag} {ca : Ct} {ι ι' : Wd} {H H' : Hp} {s : S}
theorem Sim.items (m : Sim K ca ι s H) {d : D} {v : V} {ds : List D} (r : Rep K ι H d v) (h : itemsL s d = some ds) : ∃ a vs, v = .ref a ∧ SqL K H a vs ∧ Reps K ι H ds vs := by
  cases r with
  | lst h1 h2 h3 => cases h; exact ⟨_, _, rfl, SqL.of h1, h3⟩
  | frz h1 h3 => cases h; exact ⟨_, _, rfl, h1.sq, h3⟩
  | frz2 h1 h2 h3 => cases h; exact ⟨_, _, rfl, SqL.of h1, h3⟩
  | @obj a n h1 =>
    simp only [itemsL] at h
    split at h
    · rename_i e
      cases h
      obtain ⟨vs, h2, h3⟩ := m.ob n a _ h1 e
      exact ⟨_, _, rfl, SqL.of h2, h3⟩
    · cases h
  | _ => cases h
theorem Rep.tupOf {ds : List D} {v : V} (r : Rep K ι H (.tup ds) v) : ∃ a vs, v = .ref a ∧ TupAt K H a vs ∧ Reps K ι H ds vs := by
  cases r with
  | tup h r => exact ⟨_, _, rfl, h, r⟩
mutual
theorem Rep.dp : ∀ {d : D} {v : V} {p : PyData}, Rep K ι H d v → d.toPy = some p → Dp K H v p
  | _, _, _, .non, h => by cases h; exact .non
  | _, _, _, .bl b, h => by cases h; exact .bl b
  | _, _, _, .int i, h => by cases h; exact .int i
  | _, _, _, .str x, h => by cases h; exact .str x
  | _, _, _, .ty _, h => by simp [D.toPy] at h
  | _, _, _, .obj _, h => by simp [D.toPy] at h
  | _, _, _, .raw _, h => by simp [D.toPy] at h
  | _, _, _, .tup h1 r, h => by
    simp only [D.toPy, Option.map_eq_some_iff] at h
    obtain ⟨ps, e, rfl⟩ := h
    exact .tup h1.sq (Reps.dp r e)
  | _, _, _, .lst h1 _ r, h => by
    simp only [D.toPy, Option.map_eq_some_iff] at h
    obtain ⟨ps, e, rfl⟩ := h
    exact .lst (SqL.of h1) (Reps.dp r e)
  | _, _, _, .frz h1 r, h => by
    simp only [D.toPy, Option.map_eq_some_iff] at h
    obtain ⟨ps, e, rfl⟩ := h
    exact .lst h1.sq (Reps.dp r e)
  | _, _, _, .frz2 h1 _ r, h => by
    simp only [D.toPy, Option.map_eq_some_iff] at h
    obtain ⟨ps, e, rfl⟩ := h
    exact .lst (SqL.of h1) (Reps.dp r e)
theorem Reps.dp : ∀ {ds : List D} {vs : List V} {ps : List PyData}, Reps K ι H ds vs → D.toPys ds = some ps → DpAll K H vs ps
  | _, _, _, .nil, h => by cases h; exact .nil
  | _, _, _, .cons r t, h => by
    simp only [D.toPys] at h
    split at h
    · rename_i e1 e2
      cases h
      exact .cons (Rep.dp r e1) (Reps.dp t e2)
    · cases h
end
theorem Sim.dp (m : Sim K ca ι s H) {d : D} {v : V} {p : PyData} (r : Rep K ι H d v) (h : (deref s d).toPy = some p) : Dp K H v p := by
  cases r with
  | @obj a n h1 =>
    simp only [deref] at h
    split at h
    · rename_i ds e
      obtain ⟨vs, h2, h3⟩ := m.ob n a _ h1 e
      simp only [D.toPy, Option.map_eq_some_iff] at h
      obtain ⟨ps, e, rfl⟩ := h
      exact .lst (SqL.of h2) (Reps.dp h3 e)
    · simp [D.toPy] at h
  | non => exact Rep.dp (ι := ι) .non h
  | bl b => exact Rep.dp (ι := ι) (.bl b) h
  | int i => exact Rep.dp (ι := ι) (.int i) h
  | str x => exact Rep.dp (ι := ι) (.str x) h
  | ty n => simp [deref, D.toPy] at h
  | raw n => simp [deref, D.toPy] at h
  | tup a b => exact Rep.dp (.tup a b) h
  | lst a b c => exact Rep.dp (.lst a b c) h
  | frz a b => exact Rep.dp (.frz a b) h
  | frz2 a b c => exact Rep.dp (.frz2 a b c) h
end
theorem fitL_le {n : Nat} (h : fitL n = true) : n ≤ sizeLine := by
  rw [sizeLine_eq]
  simpa [fitL] using h

/-! ### two values to one -/
def OpJ (K : PySem.W.Frag) (ca : Ct) (r : R2) (f : S → D → D → Option D) : Prop :=
  ∀ (ι : Wd) (s : S) (H : Hp) (d e : D) (v u : V) (x : D) (Q : VK), Sim K ca ι s H → Rep K ι H d v → Rep K ι H e u → f s d e = some x →
    (∀ ι' v' H', Le ι H ι' H' → Sim K ca ι' s H' → Rep K ι' H' x v' → Q v' H') → r v u H Q
section
variable {X : Cx} {ca : Ct}
theorem OpR.imp {f : Value → Value → Sem Value} {r r' : R2} (h : OpR X f r) (i : ∀ x y H Q, r' x y H Q → r x y H Q) : OpR X f r' := fun pins s σ H x y v u Q I rx ry q => h pins s σ H x y v u Q I rx ry (i _ _ _ _ q)

/-- the reading: some mirror value, and what follows of it -/
def rJ (K : PySem.W.Frag) (ca : Ct) (f : S → D → D → Option D) : R2 := fun v u H Q => ∃ ι s d e x, Sim K ca ι s H ∧ Rep K ι H d v ∧ Rep K ι H e u ∧ f s d e = some x ∧
  ∀ ι' v' H', Le ι H ι' H' → Sim K ca ι' s H' → Rep K ι' H' x v' → Q v' H'
theorem oj_add : OpR X (binaryOp .Add) (rJ X.K ca fAdd) := by
  refine OpR.imp (((op_add.or op_add_str).or op_catA).or op_cat) fun v u H Q ⟨ι, s, d, e, x, m, rd, re, hf, q⟩ => ?_
  cases rd <;> cases re <;> simp only [fAdd] at hf <;> first | cases hf | skip
  · exact .inl (.inl (.inl ⟨_, _, rfl, rfl, q _ _ _ .refl m (.int _)⟩))
  · split at hf
    · rename_i hl
      cases hf
      exact .inl (.inl (.inr ⟨_, _, rfl, rfl, fitL_le hl, q _ _ _ .refl m (.str _)⟩))
    · cases hf
  · rename_i a vs ds h1 h2 b ws es h3 h4 _
    split at hf
    · rename_i hl
      cases hf
      refine .inl (.inr ⟨_, _, _, _, rfl, rfl, h1.sq, h3.sq, by rw [← h2.length, ← h4.length]; exact fitL_le hl, fun e => ?_, fun _ e => ?_, fun _ _ p hp => ?_⟩)
      · subst e
        cases h2
        exact q _ _ _ .refl m (.tup h3 h4)
      · subst e
        cases h4
        rw [List.append_nil] at q
        exact q _ _ _ .refl m (.tup h1 h2)
      · obtain ⟨l, m'⟩ := m.new (o := .tup (vs ++ ws)) hp
        exact q _ _ _ l m' (.tup (.inl upd_same) ((h2.append h4).mono l))
    · cases hf
  · rename_i a vs ds h1 n1 h2 b ws es h3 n3 h4 _
    split at hf
    · rename_i hl
      cases hf
      refine .inr ⟨_, _, _, _, rfl, rfl, h1, h3, by rw [← h2.length, ← h4.length]; exact fitL_le hl, fun p hp => ?_⟩
      obtain ⟨l, m'⟩ := m.new (o := .lst (vs ++ ws)) hp
      exact q _ _ _ l m' (.lst upd_same (m.ne hp) ((h2.append h4).mono l))
    · cases hf
theorem oj_sub : OpR X (binaryOp .Sub) (rJ X.K ca fSub) := by
  refine OpR.imp op_sub fun v u H Q ⟨ι, s, d, e, x, m, rd, re, hf, q⟩ => ?_
  cases rd <;> cases re <;> simp only [fSub] at hf <;> first | cases hf | skip
  exact ⟨_, _, rfl, rfl, q _ _ _ .refl m (.int _)⟩
theorem oj_mul : OpR X (binaryOp .Mult) (rJ X.K ca fMul) := by
  refine OpR.imp ((op_mul.or op_rep).or op_repT) fun v u H Q ⟨ι, s, d, e, x, m, rd, re, hf, q⟩ => ?_
  cases rd <;> cases re <;> simp only [fMul] at hf <;> first | cases hf | skip
  · split at hf
    · rename_i hl
      cases hf
      refine .inl (.inl ⟨_, _, rfl, rfl, ?_, q _ _ _ .refl m (.int _)⟩)
      simp only [small64, Bool.or_eq_true, Bool.and_eq_true, decide_eq_true_eq] at hl
      exact hl
    · cases hf
  · rename_i a vs ds h1 h2 j _
    split at hf
    · rename_i hl
      cases hf
      simp only [Bool.and_eq_true, decide_eq_true_eq, Bool.not_eq_true'] at hl
      obtain ⟨⟨⟨l1, l2⟩, l3⟩, l4⟩ := hl
      refine .inr ⟨_, _, _, rfl, rfl, h1.sq, fun z => ?_, l2, l3, by rw [← h2.length]; exact l4, fun p hp => ?_⟩
      · subst z
        cases h2
        simp at l1
      · obtain ⟨l, m'⟩ := m.new (o := .tup (List.replicate j.toNat vs).flatten) hp
        exact q _ _ _ l m' (.tup (.inl upd_same) ((h2.flat _).mono l))
    · cases hf
  · rename_i a vs ds h1 n1 h2 j _
    split at hf
    · rename_i hl
      cases hf
      simp only [Bool.and_eq_true, decide_eq_true_eq] at hl
      obtain ⟨⟨l1, l2⟩, l3⟩ := hl
      refine .inl (.inr ⟨_, _, _, rfl, rfl, h1, l1, l2, by rw [← h2.length]; exact fitL_le l3, fun p hp => ?_⟩)
      obtain ⟨l, m'⟩ := m.new (o := .lst (List.replicate j.toNat vs).flatten) hp
      exact q _ _ _ l m' (.lst upd_same (m.ne hp) ((h2.flat _).mono l))
    · cases hf
theorem oj_div : OpR X (binaryOp .FloorDiv) (rJ X.K ca fDiv) := by
  refine OpR.imp op_fdiv fun v u H Q ⟨ι, s, d, e, x, m, rd, re, hf, q⟩ => ?_
  cases rd <;> cases re <;> simp only [fDiv] at hf <;> first | cases hf | skip
  split at hf
  · rename_i hl
    cases hf
    simp only [Bool.and_eq_true, decide_eq_true_eq] at hl
    exact ⟨_, _, rfl, rfl, hl, q _ _ _ .refl m (.int _)⟩
  · cases hf
theorem oj_mod : OpR X (binaryOp .Mod) (rJ X.K ca fMod) := by
  refine OpR.imp op_mod fun v u H Q ⟨ι, s, d, e, x, m, rd, re, hf, q⟩ => ?_
  cases rd <;> cases re <;> simp only [fMod] at hf <;> first | cases hf | skip
  split at hf
  · rename_i hl
    cases hf
    simp only [decide_eq_true_eq] at hl
    exact ⟨_, _, rfl, rfl, hl, q _ _ _ .refl m (.int _)⟩
  · cases hf
theorem oj_pow : OpR X (binaryOp .Pow) (rJ X.K ca fPow) := by
  refine OpR.imp op_pow fun v u H Q ⟨ι, s, d, e, x, m, rd, re, hf, q⟩ => ?_
  cases rd <;> cases re <;> simp only [fPow] at hf <;> first | cases hf | skip
  split at hf
  · rename_i hl
    cases hf
    simp only [Bool.and_eq_true, decide_eq_true_eq] at hl
    exact ⟨_, _, rfl, rfl, ⟨hl.1.1, hl.1.2, hl.2⟩, q _ _ _ .refl m (.int _)⟩
  · cases hf
theorem oj_lt : OpR X (compareOp .Lt) (rJ X.K ca fLt) := by
  refine OpR.imp (op_lt.or op_lt_str) fun v u H Q ⟨ι, s, d, e, x, m, rd, re, hf, q⟩ => ?_
  cases rd <;> cases re <;> simp only [fLt] at hf <;> first | cases hf | skip
  · exact .inl ⟨_, _, rfl, rfl, q _ _ _ .refl m (.bl _)⟩
  · exact .inr ⟨_, _, rfl, rfl, q _ _ _ .refl m (.bl _)⟩
theorem oj_le : OpR X (compareOp .LtE) (rJ X.K ca fLe) := by
  refine OpR.imp op_le fun v u H Q ⟨ι, s, d, e, x, m, rd, re, hf, q⟩ => ?_
  cases rd <;> cases re <;> simp only [fLe] at hf <;> first | cases hf | skip
  exact ⟨_, _, rfl, rfl, q _ _ _ .refl m (.bl _)⟩
theorem oj_gt : OpR X (compareOp .Gt) (rJ X.K ca fGt) := by
  refine OpR.imp op_gt fun v u H Q ⟨ι, s, d, e, x, m, rd, re, hf, q⟩ => ?_
  cases rd <;> cases re <;> simp only [fGt] at hf <;> first | cases hf | skip
  exact ⟨_, _, rfl, rfl, q _ _ _ .refl m (.bl _)⟩
theorem oj_ge : OpR X (compareOp .GtE) (rJ X.K ca fGe) := by
  refine OpR.imp op_ge fun v u H Q ⟨ι, s, d, e, x, m, rd, re, hf, q⟩ => ?_
  cases rd <;> cases re <;> simp only [fGe] at hf <;> first | cases hf | skip
  exact ⟨_, _, rfl, rfl, q _ _ _ .refl m (.bl _)⟩
theorem oj_eq (hu : X.A.units + 64 < cLine) : OpR X (compareOp .Eq) (rJ X.K ca fEq) := by
  refine OpR.imp (op_eqD hu) fun v u H Q ⟨ι, s, d, e, x, m, rd, re, hf, q⟩ => ?_
  simp only [fEq, Option.map_eq_some_iff] at hf
  obtain ⟨b, hb, rfl⟩ := hf
  unfold eqD at hb
  split at hb
  · rename_i p1 p2 e1 e2
    split at hb
    · rename_i hs
      cases hb
      simp only [Bool.and_eq_true] at hs
      exact ⟨_, _, m.dp rd e1, m.dp re e2, hs.1, hs.2, q _ _ _ .refl m (.bl _)⟩
    · cases hb
  · cases hb
theorem oj_ne (hu : X.A.units + 64 < cLine) : OpR X (compareOp .NotEq) (rJ X.K ca fNe) := by
  refine OpR.imp (op_neD hu) fun v u H Q ⟨ι, s, d, e, x, m, rd, re, hf, q⟩ => ?_
  simp only [fNe, Option.map_eq_some_iff] at hf
  obtain ⟨b, hb, rfl⟩ := hf
  unfold eqD at hb
  split at hb
  · rename_i p1 p2 e1 e2
    split at hb
    · rename_i hs
      cases hb
      simp only [Bool.and_eq_true] at hs
      exact ⟨_, _, m.dp rd e1, m.dp re e2, hs.1, hs.2, q _ _ _ .refl m (.bl _)⟩
    · cases hb
  · cases hb
theorem isD_none {K : PySem.W.Frag} {ι : Wd} {H : Hp} {d : D} {v : V} {b : Bool} (r : Rep K ι H d v) (h : isD d .non = some b) : decide (v = V.non) = b := by
  cases r <;> simp only [isD] at h <;> cases h <;> rfl
theorem oj_is : OpR X (compareOp .Is) (rJ X.K ca fIs) := by
  refine OpR.imp (op_isN.or op_is_bl) fun v u H Q ⟨ι, s, d, e, x, m, rd, re, hf, q⟩ => ?_
  simp only [fIs, Option.map_eq_some_iff] at hf
  obtain ⟨b, hb, rfl⟩ := hf
  cases re with
  | non => exact .inl ⟨rfl, by rw [isD_none rd hb]; exact q _ _ _ .refl m (.bl _)⟩
  | bl c =>
    cases rd <;> simp only [isD] at hb <;> first | cases hb | skip
    exact .inr ⟨_, _, rfl, rfl, q _ _ _ .refl m (.bl _)⟩
  | _ => cases rd <;> simp only [isD] at hb <;> cases hb
theorem oj_isnot : OpR X (compareOp .IsNot) (rJ X.K ca fIsN) := by
  refine OpR.imp (op_notN.or op_isnot_bl) fun v u H Q ⟨ι, s, d, e, x, m, rd, re, hf, q⟩ => ?_
  simp only [fIsN, Option.map_eq_some_iff] at hf
  obtain ⟨b, hb, rfl⟩ := hf
  cases re with
  | non => exact .inl ⟨rfl, by rw [isD_none rd hb]; exact q _ _ _ .refl m (.bl _)⟩
  | bl c =>
    cases rd <;> simp only [isD] at hb <;> first | cases hb | skip
    exact .inr ⟨_, _, rfl, rfl, q _ _ _ .refl m (.bl _)⟩
  | _ => cases rd <;> simp only [isD] at hb <;> cases hb
/-- x in a tuple of data -/
theorem op_inTD (hu : X.A.units + 65 < cLine) : OpR X (compareOp .In) (fun x y H Q => ∃ d ds, Dp X.K H x d ∧ Dp X.K H y (.tuple ds) ∧ SeqAt.shaped d = true ∧ SeqAt.shaped (.tuple ds) = true ∧ Q (.bl (ds.any fun z => PyData.eqv z d)) H) := by
  intro pins s σ H x y v u Q I rx ry h
  obtain ⟨d, ds, hd, he, sd, se, q⟩ := h
  obtain ⟨as, r1⟩ := Dp.reads I d x v hd rx
  obtain ⟨bs, r2⟩ := Dp.reads I (.tuple ds) y u he ry
  exact SeqAt.in_tuple_reads r2 r1 (SeqAt.canLay_of_shaped se) (SeqAt.canLay_of_shaped sd) (PyProof.Rows.room_in_shaped sd hu) ⟨.bl _, H, I, rfl, q⟩
theorem op_notInTD (hu : X.A.units + 65 < cLine) : OpR X (compareOp .NotIn) (fun x y H Q => ∃ d ds, Dp X.K H x d ∧ Dp X.K H y (.tuple ds) ∧ SeqAt.shaped d = true ∧ SeqAt.shaped (.tuple ds) = true ∧ Q (.bl (!ds.any fun z => PyData.eqv z d)) H) := by
  intro pins s σ H x y v u Q I rx ry h
  obtain ⟨d, ds, hd, he, sd, se, q⟩ := h
  obtain ⟨as, r1⟩ := Dp.reads I d x v hd rx
  obtain ⟨bs, r2⟩ := Dp.reads I (.tuple ds) y u he ry
  exact SeqAt.notIn_tuple_reads r2 r1 (SeqAt.canLay_of_shaped se) (SeqAt.canLay_of_shaped sd) (PyProof.Rows.room_in_shaped sd hu) ⟨.bl _, H, I, rfl, q⟩
theorem inD_cases {K : PySem.W.Frag} {ι : Wd} {H : Hp} {s : S} {x y : D} {v u : V} {b : Bool} (m : Sim K ca ι s H) (rd : Rep K ι H x v) (re : Rep K ι H y u) (h : inD s x y = some b) :
    (∃ i j, v = .str i ∧ u = .str j ∧ b = !(Builtin.Str.occurrences j i 0 j.length 1).isEmpty) ∨
    (∃ d ds, Dp K H v d ∧ Dp K H u (.tuple ds) ∧ SeqAt.shaped d = true ∧ SeqAt.shaped (.tuple ds) = true ∧ b = ds.any fun z => PyData.eqv z d) ∨
    (∃ d ds, Dp K H v d ∧ Dp K H u (.list ds) ∧ SeqAt.shaped d = true ∧ SeqAt.shaped (.list ds) = true ∧ b = ds.any fun z => PyData.eqv z d) := by
  have lists : ∀ {ds : List D}, itemsL s y = some ds → (match D.toPy x, D.toPys ds with
      | some p, some ps => if SeqAt.shaped p && SeqAt.shaped (.list ps) then some (ps.any fun z => PyData.eqv z p) else none
      | _, _ => none) = some b → ∃ d ds, Dp K H v d ∧ Dp K H u (.list ds) ∧ SeqAt.shaped d = true ∧ SeqAt.shaped (.list ds) = true ∧ b = ds.any fun z => PyData.eqv z d := fun {ds} hi hb => by
    obtain ⟨a, vs, rfl, h1, h2⟩ := m.items re hi
    split at hb
    · rename_i p ps e1 e2
      split at hb
      · rename_i hs
        cases hb
        simp only [Bool.and_eq_true] at hs
        exact ⟨_, _, Rep.dp rd e1, .lst h1 (Reps.dp h2 e2), hs.1, hs.2, rfl⟩
      · cases hb
    · cases hb
  cases re with
  | str j =>
    simp only [inD] at h
    cases rd <;> simp only at h <;> cases h
    exact .inl ⟨_, _, rfl, rfl, rfl⟩
  | @tup a vs ds h1 h2 =>
    simp only [inD] at h
    split at h
    · rename_i p ps e1 e2
      split at h
      · rename_i hs
        cases h
        simp only [Bool.and_eq_true] at hs
        exact .inr (.inl ⟨_, _, Rep.dp rd e1, .tup h1.sq (Reps.dp h2 e2), hs.1, hs.2, rfl⟩)
      · cases h
    · cases h
  | non => simp [inD, itemsL] at h
  | bl _ => simp [inD, itemsL] at h
  | int _ => simp [inD, itemsL] at h
  | ty _ => simp [inD, itemsL] at h
  | raw _ => simp [inD, itemsL] at h
  | @lst a vs ds _ _ _ => exact .inr (.inr (lists (ds := ds) rfl h))
  | @frz a vs ds _ _ => exact .inr (.inr (lists (ds := ds) rfl h))
  | @frz2 a vs ds _ _ _ => exact .inr (.inr (lists (ds := ds) rfl h))
  | @obj a n _ =>
    cases e : itemsL s (.obj n) with
    | none => simp only [inD, e] at h; cases h
    | some ds => simp only [inD, e] at h; exact .inr (.inr (lists e h))
theorem oj_in (hu : X.A.units + 65 < cLine) : OpR X (compareOp .In) (rJ X.K ca fIn) := by
  refine OpR.imp (op_in_str.or ((op_inTD hu).or (op_inD hu))) fun v u H Q ⟨ι, s, d, e, x, m, rd, re, hf, q⟩ => ?_
  simp only [fIn, Option.map_eq_some_iff] at hf
  obtain ⟨b, hb, rfl⟩ := hf
  rcases inD_cases m rd re hb with ⟨i, j, rfl, rfl, rfl⟩ | ⟨p, ps, h1, h2, h3, h4, rfl⟩ | ⟨p, ps, h1, h2, h3, h4, rfl⟩
  · exact .inl ⟨_, _, rfl, rfl, q _ _ _ .refl m (.bl _)⟩
  · exact .inr (.inl ⟨_, _, h1, h2, h3, h4, q _ _ _ .refl m (.bl _)⟩)
  · exact .inr (.inr ⟨_, _, h1, h2, h3, h4, q _ _ _ .refl m (.bl _)⟩)
theorem oj_notin (hu : X.A.units + 65 < cLine) : OpR X (compareOp .NotIn) (rJ X.K ca fNotIn) := by
  refine OpR.imp (op_notin_str.or ((op_notInTD hu).or (op_notInD hu))) fun v u H Q ⟨ι, s, d, e, x, m, rd, re, hf, q⟩ => ?_
  simp only [fNotIn, Option.map_eq_some_iff] at hf
  obtain ⟨b, hb, rfl⟩ := hf
  rcases inD_cases m rd re hb with ⟨i, j, rfl, rfl, rfl⟩ | ⟨p, ps, h1, h2, h3, h4, rfl⟩ | ⟨p, ps, h1, h2, h3, h4, rfl⟩
  · exact .inl ⟨_, _, rfl, rfl, q _ _ _ .refl m (.bl _)⟩
  · exact .inr (.inl ⟨_, _, h1, h2, h3, h4, q _ _ _ .refl m (.bl _)⟩)
  · exact .inr (.inr ⟨_, _, h1, h2, h3, h4, q _ _ _ .refl m (.bl _)⟩)
theorem IxR.imp {r r' : R2} (h : IxR X r) (i : ∀ x y H Q, r' x y H Q → r x y H Q) : IxR X r' := fun value slice pins s σ H x y v u Q I rx ry q hs => h value slice pins s σ H x y v u Q I rx ry (i _ _ _ _ q) hs
theorem Reps.atI {K : PySem.W.Frag} {ι : Wd} {H : Hp} {ds : List D} {vs : List V} {i : Int} {d : D} (r : Reps K ι H ds vs) (h : L2.atI ds i = some d) : ∃ v, L2.atI vs i = some v ∧ Rep K ι H d v := by
  unfold L2.atI at h ⊢
  rw [← r.length]
  cases e : ixN ds.length i with
  | none => rw [e] at h; cases h
  | some j =>
    rw [e] at h
    exact r.get h
theorem ij_ix : IxR X (rJ X.K ca fIdx) := by
  refine IxR.imp ix_seq fun v u H Q ⟨ι, s, d, e, x, m, rd, re, hf, q⟩ => ?_
  have lists : ∀ {ds : List D} {i : Int}, u = .int i → itemsL s d = some ds → L2.atI ds i = some x → rIx X.K v u H Q := fun {ds i} hu hi ha => by
    subst hu
    obtain ⟨a, vs, rfl, h1, h2⟩ := m.items rd hi
    obtain ⟨v', h3, h4⟩ := h2.atI ha
    exact .inl ⟨_, _, _, _, rfl, rfl, h1, h3, q _ _ _ .refl m h4⟩
  cases re <;> simp only [fIdx] at hf <;> first | cases hf | skip
  rename_i i
  cases rd with
  | str z =>
    simp only at hf
    split at hf
    · rename_i hl
      simp only [Option.map_eq_some_iff] at hf
      obtain ⟨c, hc, rfl⟩ := hf
      exact .inr (.inr ⟨_, _, _, rfl, rfl, fitL_le hl, hc, q _ _ _ .refl m (.str _)⟩)
    · cases hf
  | @tup a vs ds h1 h2 =>
    obtain ⟨v', h3, h4⟩ := h2.atI hf
    exact .inr (.inl ⟨_, _, _, _, rfl, rfl, h1.sq, h3, q _ _ _ .refl m h4⟩)
  | non => simp [itemsL] at hf
  | bl _ => simp [itemsL] at hf
  | int _ => simp [itemsL] at hf
  | ty _ => simp [itemsL] at hf
  | raw _ => simp [itemsL] at hf
  | @lst a vs ds _ _ _ => exact lists (ds := ds) rfl rfl hf
  | @frz a vs ds _ _ => exact lists (ds := ds) rfl rfl hf
  | @frz2 a vs ds _ _ _ => exact lists (ds := ds) rfl rfl hf
  | @obj a n _ =>
    cases e : itemsL s (.obj n) with
    | none => simp only [e] at hf; cases hf
    | some ds => simp only [e] at hf; exact lists rfl e hf
end
end J


set_option Elab.async false
set_option linter.all false
set_option maxRecDepth 100000
set_option maxHeartbeats 4000000
/-! J2: the judgements; names, constants, operators, comparisons, tests, displays, calls of built-ins. -/
namespace J
open PySem PySem.Spec L2

def R.ofO {α : Type} (o : Option α) (s : S) : R α := match o with | some a => .ok a s | none => .no
@[simp] theorem R.ofO_some {α : Type} (a : α) (s : S) : R.ofO (some a) s = .ok a s := rfl
@[simp] theorem R.ofO_none {α : Type} (s : S) : R.ofO (none : Option α) s = .no := rfl
@[simp] theorem R.bind_ok {α β : Type} (a : α) (s : S) (k : α → S → R β) : (R.ok a s).bind k = k a s := rfl
@[simp] theorem R.bind_err {α β : Type} (e : Ex) (s : S) (k : α → S → R β) : (R.err e s).bind k = .err e s := rfl
@[simp] theorem R.bind_no {α β : Type} (k : α → S → R β) : (R.no : R α).bind k = .no := rfl

def JE (X : Cx) (ca : Ct) (W : WX) (e : Expr) (g : GE) : Prop := PE X e (tG X.K ca W g)
def JT (X : Cx) (ca : Ct) (W : WX) (e : Expr) (g : GT) : Prop := PT X e (tT X.K ca W g)
def JW (X : Cx) (ca : Ct) (W : WX) (e : Expr) (g : GT) : Prop := PW X e (tT X.K ca W g)
def JA (X : Cx) (ca : Ct) (W : WX) (es : List Expr) (g : GA) : Prop := PA X es (tA X.K ca W g)

structure Fam (K : PySem.W.Frag) (ca : Ct) (E : XK) {β : Type} (Φ : Wd → Hp → R β → Prop) : Prop where
  mono : ∀ {ι H ι' H' r}, Φ ι H r → Le ι H ι' H' → Φ ι' H' r
  err : ∀ {ι H e s}, Φ ι H (.err e s) → ∀ ι' cv dd H', Le ι H ι' H' → Sim K ca ι' s H' → RepX K ca ι' H' e cv dd → E cv dd H'
  no : ∀ {ι H}, ¬ Φ ι H .no
section
variable {K : PySem.W.Frag} {ca : Ct} {ι : Wd} {H : Hp} {ρ : Env} {σ : L2.St} {s : S} {W : WX}
theorem famE {E : XK} {Q : VK} : Fam K ca E (fun ι H r => PostE K ca ι H r Q E) := ⟨fun h l => h.mono l, fun h => h, fun h => h⟩
theorem famT {E : XK} {Q : Bool → Hp → Prop} : Fam K ca E (fun ι H r => PostT K ca ι H r Q E) := ⟨fun h l => h.mono l, fun h => h, fun h => h⟩
theorem famA {E : XK} {Q : List V → Hp → Prop} : Fam K ca E (fun ι H r => PostA K ca ι H r Q E) := ⟨fun h l => h.mono l, fun h => h, fun h => h⟩
theorem famS {D : Ends} : Fam K ca (fun cv dd H' => W cv dd σ H') (fun ι H r => PostS K ca ι H W r D) := ⟨fun h l => h.mono l, fun h ι' cv dd H' l m x => h ι' cv dd H' σ l m x, fun h => h⟩
variable {β : Type} {Φ : Wd → Hp → R β → Prop}
theorem bindE {g : GE} {k : D → S → R β} {Rr : VK} (F : Fam K ca (fun cv dd H' => W cv dd σ H') Φ) (hr : RelS K ι H ρ σ) (hm : Sim K ca ι s H) (h : Φ ι H ((g ρ s).bind k))
    (step : ∀ ι' s' d v H', Le ι H ι' H' → RelS K ι' H' ρ σ → Sim K ca ι' s' H' → Rep K ι' H' d v → Φ ι' H' (k d s') → Rr v H') : tG K ca W g σ H Rr := by
  refine ⟨ι, ρ, s, hr, hm, ?_⟩
  cases e : g ρ s with
  | ok d s' =>
    rw [e] at h
    exact fun ι' v H' l m q => step ι' s' d v H' l (hr.mono l) m q (F.mono h l)
  | err x s' =>
    rw [e] at h
    exact F.err h
  | no =>
    rw [e] at h
    exact F.no h
theorem bindT {g : GT} {k : Bool → S → R β} {Rr : Bool → Hp → Prop} (F : Fam K ca (fun cv dd H' => W cv dd σ H') Φ) (hr : RelS K ι H ρ σ) (hm : Sim K ca ι s H) (h : Φ ι H ((g ρ s).bind k))
    (step : ∀ ι' s' b H', Le ι H ι' H' → RelS K ι' H' ρ σ → Sim K ca ι' s' H' → Φ ι' H' (k b s') → Rr b H') : tT K ca W g σ H Rr := by
  refine ⟨ι, ρ, s, hr, hm, ?_⟩
  cases e : g ρ s with
  | ok d s' =>
    rw [e] at h
    exact fun ι' H' l m => step ι' s' d H' l (hr.mono l) m (F.mono h l)
  | err x s' =>
    rw [e] at h
    exact F.err h
  | no =>
    rw [e] at h
    exact F.no h
theorem bindA {g : GA} {k : List D → S → R β} {Rr : List V → Hp → Prop} (F : Fam K ca (fun cv dd H' => W cv dd σ H') Φ) (hr : RelS K ι H ρ σ) (hm : Sim K ca ι s H) (h : Φ ι H ((g ρ s).bind k))
    (step : ∀ ι' s' ds vs H', Le ι H ι' H' → RelS K ι' H' ρ σ → Sim K ca ι' s' H' → Reps K ι' H' ds vs → Φ ι' H' (k ds s') → Rr vs H') : tA K ca W g σ H Rr := by
  refine ⟨ι, ρ, s, hr, hm, ?_⟩
  cases e : g ρ s with
  | ok d s' =>
    rw [e] at h
    exact fun ι' v H' l m q => step ι' s' d v H' l (hr.mono l) m q (F.mono h l)
  | err x s' =>
    rw [e] at h
    exact F.err h
  | no =>
    rw [e] at h
    exact F.no h
end
section
variable {X : Cx} {ca : Ct} {W : WX} {e a b c : Expr} {es : List Expr} {pos : Pos} {g ga gb gc : GE} {t ta tb : GT}
theorem PE.imp {t t' : TE} (h : PE X e t) (i : ∀ σ H Q, t' σ H Q → t σ H Q) : PE X e t' := ⟨fun pins s σ H Q I q => h.run pins s σ H Q I (i _ _ _ q)⟩
theorem PT.imp {t t' : TT} (h : PT X e t) (i : ∀ σ H Q, t' σ H Q → t σ H Q) : PT X e t' := ⟨fun pins s σ H Q I q => h.run pins s σ H Q I (i _ _ _ q)⟩
theorem PW.imp {t t' : TT} (h : PW X e t) (i : ∀ σ H Q, t' σ H Q → t σ H Q) : PW X e t' := ⟨fun wh pins s σ H Q I q => h.run wh pins s σ H Q I (i _ _ _ q)⟩
theorem PA.imp {t t' : TA} (h : PA X es t) (i : ∀ σ H Q, t' σ H Q → t σ H Q) : PA X es t' := ⟨fun p pins s σ H Q I q => h.run p pins s σ H Q I (i _ _ _ q)⟩

/-! ### names, constants -/
def gVar (i : Nat) : GE := fun ρ s => match ρ[i]? with | some (some d) => .ok d s | _ => .no
def gC (d : D) : GE := fun _ s => .ok d s
theorem je_var (i : Nat) {x : Str} (hN : X.N[i]? = some x := by rfl) (hv : Vis X.env.scope x := by first | exact Or.inl rfl | exact Or.inr (Or.inl rfl) | exact Or.inr (Or.inr rfl)) (hd : (x == ("__debug__" : Str)) = false := by decide)
    (hcd : (x == ("__classdict__" : Str)) = false := by decide) : JE X ca W (.Name x pos) (gVar i) := by
  refine PE.imp (pe_var hN hv hd hcd) fun σ H Q ⟨ι, ρ, s, hr, hm, h⟩ => ?_
  unfold gVar at h
  split at h
  · rename_i d e
    obtain ⟨v, h1, h2⟩ := hr.at_ i d e
    exact ⟨v, h1, h ι v H .refl hm h2⟩
  · exact h.elim
theorem je_c {d : D} {v : V} (h : PE X e (tC v)) (r : ∀ ι H, Rep X.K ι H d v) : JE X ca W e (gC d) := PE.imp h fun σ H Q ⟨ι, ρ, s, hr, hm, h⟩ => h ι v H .refl hm (r ι H)
theorem je_int {i j} : JE X ca W (.Constant (.int i) j pos) (gC (.int i)) := je_c pe_int fun _ _ => .int i
theorem je_bl {b j} : JE X ca W (.Constant (.bool b) j pos) (gC (.bl b)) := je_c pe_bl fun _ _ => .bl b
theorem je_non {j} : JE X ca W (.Constant .none j pos) (gC .non) := je_c pe_non fun _ _ => .non
theorem je_str {x j} : JE X ca W (.Constant (.str x) j pos) (gC (.str x)) := je_c pe_str fun _ _ => .str x
/-- a constant of the module -/
theorem je_glob {x : Str} {d : D} {v : V} {u : Value} (hm : X.mg x = some u) (r : RelV v u) (q : ∀ ι H, Rep X.K ι H d v) (hg : Gl X x := by rfl) (hd : (x == ("__debug__" : Str)) = false := by decide) : JE X ca W (.Name x pos) (gC d) := je_c (pe_glob hg hm r hd) q
/-- a built-in class as a value -/
theorem je_ty {x : Str} {n : String} (hm : X.mg x = none) (hv : bootBuiltins x = some (.type n)) (hg : Gl X x := by rfl) (hn : x ≠ "__name__" := by decide) (hd : (x == ("__debug__" : Str)) = false := by decide) : JE X ca W (.Name x pos) (gC (.ty n)) :=
  je_c (v := .ty n) (pe_bltn hg hm hv rfl hn hd) fun _ _ => .ty n

/-! ### operators -/
def gOp2 (f : S → D → D → Option D) (ga gb : GE) : GE := fun ρ s => (ga ρ s).bind fun x s1 => (gb ρ s1).bind fun y s2 => R.ofO (f s2 x y) s2
theorem tG_op2 {f : S → D → D → Option D} {σ : L2.St} {H : Hp} {Q : VK} (h : tG X.K ca W (gOp2 f ga gb) σ H Q) : tOp (rJ X.K ca f) (tG X.K ca W ga) (tG X.K ca W gb) σ H Q := by
  obtain ⟨ι, ρ, s, hr, hm, h⟩ := h
  refine bindE famE hr hm h fun ι1 s1 x v H1 l1 hr1 hm1 rx h1 => bindE famE hr1 hm1 h1 fun ι2 s2 y u H2 l2 hr2 hm2 ry h2 => ?_
  cases e : f s2 x y with
  | none => rw [e] at h2; exact h2.elim
  | some z =>
    rw [e] at h2
    exact ⟨ι2, s2, x, y, z, hm2, rx.mono l2, ry, e, fun ι' v' H' l m r => h2 ι' v' H' l m r⟩
theorem je_op {op : Operator} {f : S → D → D → Option D} (ho : OpR X (binaryOp op) (rJ X.K ca f)) (ha : JE X ca W a ga) (hb : JE X ca W b gb) : JE X ca W (.BinOp a op b pos) (gOp2 f ga gb) := PE.imp (pe_op ho ha hb) fun _ _ _ h => tG_op2 h
theorem je_cmp {op : CmpOp} {f : S → D → D → Option D} (ho : OpR X (compareOp op) (rJ X.K ca f)) (ha : JE X ca W a ga) (hb : JE X ca W b gb) (hm : behindInMarks op b = false := by first | exact nomark _ | rfl) : JE X ca W (.Compare a [op] [b] pos) (gOp2 f ga gb) :=
  PE.imp (pe_cmpR ho ha hb hm) fun _ _ _ h => tG_op2 h
theorem je_ix (ha : JE X ca W a ga) (hb : JE X ca W b gb) (hs : PlainIx b := by exact fun _ _ => rfl) : JE X ca W (.Subscript a b pos) (gOp2 fIdx ga gb) := PE.imp (pe_ix ij_ix ha hb hs) fun _ _ _ h => tG_op2 h
/-- a bool's value -/
def gB (g : GE) : GT := fun ρ s => (g ρ s).bind fun d s1 => match d with | .bl b => .ok b s1 | _ => .no
theorem tT_gB {σ : L2.St} {H : Hp} {Q : Bool → Hp → Prop} (h : tT X.K ca W (gB g) σ H Q) : tG X.K ca W g σ H fun v H' => ∃ k, v = .bl k ∧ Q k H' := by
  obtain ⟨ι, ρ, s, hr, hm, h⟩ := h
  refine bindE famT hr hm h fun ι1 s1 x v H1 l1 hr1 hm1 rx h1 => ?_
  cases rx with
  | bl b => exact ⟨b, rfl, h1 ι1 H1 .refl hm1⟩
  | _ => exact h1.elim
theorem jt_cmp {op : CmpOp} {f : S → D → D → Option D} (ho : OpR X (compareOp op) (rJ X.K ca f)) (ha : JE X ca W a ga) (hb : JE X ca W b gb) (hm : behindInMarks op b = false := by first | exact nomark _ | rfl) : JT X ca W (.Compare a [op] [b] pos) (gB (gOp2 f ga gb)) := by
  refine PT.imp (pt_cmpR ho ha hb hm) fun σ H Q h => ?_
  have h := tT_gB h
  exact tG_op2 h
theorem jt_val (h : JE X ca W e g) (he : ∀ whole, isTrue e X.env whole = (do let v ← whole; standAt e.pos; holding [v] (truthy v)) := by intro _; rfl) : JT X ca W e (gB g) := PT.imp (pt_val h he) fun _ _ _ h => tT_gB h
/-- a < b < c -/
def gChain (f f' : S → D → D → Option D) (ga gb gc : GE) : GE := fun ρ s => (ga ρ s).bind fun x s1 => (gb ρ s1).bind fun y s2 => (R.ofO (f s2 x y) s2).bind fun z s3 => match z with
  | .bl true => (gc ρ s3).bind fun w s4 => R.ofO (f' s4 y w) s4
  | .bl false => .ok (.bl false) s3
  | _ => .no
theorem je_chain {op op' : CmpOp} {f f' : S → D → D → Option D} (ho : OpR X (compareOp op) (rJ X.K ca f)) (ho' : OpR X (compareOp op') (rJ X.K ca f')) (ha : JE X ca W a ga) (hb : JE X ca W b gb) (hc : JE X ca W c gc)
    (h1 : lastMarks [op, op'] [b, c] = false := by rfl) : JE X ca W (.Compare a [op, op'] [b, c] pos) (gChain f f' ga gb gc) := by
  refine PE.imp (pe_chain ho ho' ha hb hc (by exact h1)) fun σ H Q ⟨ι, ρ, s, hr, hm, h⟩ => ?_
  refine bindE famE hr hm h fun ι1 s1 x v H1 l1 hr1 hm1 rx h1 => bindE famE hr1 hm1 h1 fun ι2 s2 y u H2 l2 hr2 hm2 ry h2 => ?_
  cases e : f s2 x y with
  | none => rw [e] at h2; exact h2.elim
  | some z =>
    rw [e] at h2
    refine ⟨ι2, s2, x, y, z, hm2, rx.mono l2, ry, e, fun ι3 v3 H3 l3 m3 r3 => ?_⟩
    have h3 := PostE.mono h2 l3
    cases r3 with
    | bl k =>
      refine ⟨k, rfl, ?_⟩
      cases k with
      | true =>
        rw [if_pos rfl]
        refine bindE famE (hr2.mono l3) m3 h3 fun ι4 s4 w q H4 l4 hr4 hm4 rw' h4 => ?_
        cases e' : f' s4 y w with
        | none => rw [e'] at h4; exact h4.elim
        | some z' =>
          rw [e'] at h4
          exact ⟨ι4, s4, y, w, z', hm4, (ry.mono l3).mono l4, rw', e', fun ι' v' H' l m r => h4 ι' v' H' l m r⟩
      | false =>
        rw [if_neg Bool.false_ne_true]
        exact h3 ι3 _ H3 .refl m3 (.bl false)
    | _ => exact h3.elim

/-! ### tests -/
def gNot (t : GT) : GT := fun ρ s => (t ρ s).bind fun b s1 => .ok (!b) s1
def gAnd (t u : GT) : GT := fun ρ s => (t ρ s).bind fun b s1 => if b then u ρ s1 else .ok false s1
def gOr (t u : GT) : GT := fun ρ s => (t ρ s).bind fun b s1 => if b then .ok true s1 else u ρ s1
def gV (t : GT) : GE := fun ρ s => (t ρ s).bind fun b s1 => .ok (.bl b) s1
def gAndV (ga gb : GE) : GE := fun ρ s => (ga ρ s).bind fun d s1 => match d with | .bl true => gb ρ s1 | .bl false => .ok (.bl false) s1 | _ => .no
def gOrV (ga gb : GE) : GE := fun ρ s => (ga ρ s).bind fun d s1 => match d with | .bl true => .ok (.bl true) s1 | .bl false => gb ρ s1 | _ => .no
def gNotV (ga : GE) : GE := fun ρ s => (ga ρ s).bind fun d s1 => match d with | .bl b => .ok (.bl !b) s1 | _ => .no
def gIf (t : GT) (ga gb : GE) : GE := fun ρ s => (t ρ s).bind fun b s1 => if b then ga ρ s1 else gb ρ s1
theorem jt_not (h : JT X ca W a ta) : JT X ca W (.UnaryOp .Not a pos) (gNot ta) := PT.imp (pt_not h) fun σ H Q ⟨ι, ρ, s, hr, hm, h⟩ => bindT famT hr hm h fun ι1 s1 b H1 l1 hr1 hm1 h1 => h1 ι1 H1 .refl hm1
theorem jw_and1 (h : JT X ca W a ta) : JW X ca W (.BoolOp .And [a] pos) ta := pw_and1 h
theorem jw_or1 (h : JT X ca W a ta) : JW X ca W (.BoolOp .Or [a] pos) ta := pw_or1 h
theorem jw_and (ha : JT X ca W a ta) (hb : JW X ca W (.BoolOp .And (b :: es) pos) tb) : JW X ca W (.BoolOp .And (a :: b :: es) pos) (gAnd ta tb) := by
  refine PW.imp (pw_and ha hb) fun σ H Q ⟨ι, ρ, s, hr, hm, h⟩ => bindT famT hr hm h fun ι1 s1 k H1 l1 hr1 hm1 h1 => ?_
  cases k with
  | true => rw [if_pos rfl]; exact ⟨ι1, ρ, s1, hr1, hm1, h1⟩
  | false => rw [if_neg Bool.false_ne_true]; exact h1 ι1 H1 .refl hm1
theorem jw_or (ha : JT X ca W a ta) (hb : JW X ca W (.BoolOp .Or (b :: es) pos) tb) : JW X ca W (.BoolOp .Or (a :: b :: es) pos) (gOr ta tb) := by
  refine PW.imp (pw_or ha hb) fun σ H Q ⟨ι, ρ, s, hr, hm, h⟩ => bindT famT hr hm h fun ι1 s1 k H1 l1 hr1 hm1 h1 => ?_
  cases k with
  | true => rw [if_pos rfl]; exact h1 ι1 H1 .refl hm1
  | false => rw [if_neg Bool.false_ne_true]; exact ⟨ι1, ρ, s1, hr1, hm1, h1⟩
theorem jw_t (h : JW X ca W e t) : JT X ca W e t := PW.pt h
theorem je_one {op} (h : JE X ca W a g) : JE X ca W (.BoolOp op [a] pos) g := pe_one h
theorem je_and (ha : JE X ca W a ga) (hb : JE X ca W (.BoolOp .And (b :: es) pos) gb) : JE X ca W (.BoolOp .And (a :: b :: es) pos) (gAndV ga gb) := by
  refine PE.imp (pe_and ha hb) fun σ H Q ⟨ι, ρ, s, hr, hm, h⟩ => bindE famE hr hm h fun ι1 s1 d v H1 l1 hr1 hm1 rd h1 => ?_
  cases rd with
  | bl k =>
    refine ⟨k, rfl, ?_⟩
    cases k with
    | true => rw [if_pos rfl]; exact ⟨ι1, ρ, s1, hr1, hm1, h1⟩
    | false => rw [if_neg Bool.false_ne_true]; exact h1 ι1 _ H1 .refl hm1 (.bl false)
  | _ => exact h1.elim
theorem je_or (ha : JE X ca W a ga) (hb : JE X ca W (.BoolOp .Or (b :: es) pos) gb) : JE X ca W (.BoolOp .Or (a :: b :: es) pos) (gOrV ga gb) := by
  refine PE.imp (pe_or ha hb) fun σ H Q ⟨ι, ρ, s, hr, hm, h⟩ => bindE famE hr hm h fun ι1 s1 d v H1 l1 hr1 hm1 rd h1 => ?_
  cases rd with
  | bl k =>
    refine ⟨k, rfl, ?_⟩
    cases k with
    | true => rw [if_pos rfl]; exact h1 ι1 _ H1 .refl hm1 (.bl true)
    | false => rw [if_neg Bool.false_ne_true]; exact ⟨ι1, ρ, s1, hr1, hm1, h1⟩
  | _ => exact h1.elim
theorem je_not (ha : JE X ca W a ga) : JE X ca W (.UnaryOp .Not a pos) (gNotV ga) := by
  refine PE.imp (pe_not ha) fun σ H Q ⟨ι, ρ, s, hr, hm, h⟩ => bindE famE hr hm h fun ι1 s1 d v H1 l1 hr1 hm1 rd h1 => ?_
  cases rd with
  | bl k => exact ⟨k, rfl, h1 ι1 _ H1 .refl hm1 (.bl _)⟩
  | _ => exact h1.elim
theorem je_if (hc : JT X ca W c t) (ha : JE X ca W a ga) (hb : JE X ca W b gb) : JE X ca W (.IfExp c a b pos) (gIf t ga gb) := by
  refine PE.imp (pe_ifExp hc ha hb) fun σ H Q ⟨ι, ρ, s, hr, hm, h⟩ => bindT famE hr hm h fun ι1 s1 k H1 l1 hr1 hm1 h1 => ?_
  cases k with
  | true => rw [if_pos rfl]; exact ⟨ι1, ρ, s1, hr1, hm1, h1⟩
  | false => rw [if_neg Bool.false_ne_true]; exact ⟨ι1, ρ, s1, hr1, hm1, h1⟩
def gNeg (ga : GE) : GE := fun ρ s => (ga ρ s).bind fun d s1 => match d with | .int i => .ok (.int (-i)) s1 | _ => .no
theorem je_neg (ha : JE X ca W a ga) : JE X ca W (.UnaryOp .USub a pos) (gNeg ga) := by
  refine PE.imp (pe_un un_neg ha) fun σ H Q ⟨ι, ρ, s, hr, hm, h⟩ => bindE famE hr hm h fun ι1 s1 d v H1 l1 hr1 hm1 rd h1 => ?_
  cases rd with
  | int k => exact ⟨k, rfl, h1 ι1 _ H1 .refl hm1 (.int _)⟩
  | _ => exact h1.elim

/-! ### arguments, displays -/
def gaNil : GA := fun _ s => .ok [] s
def gaCons (g : GE) (r : GA) : GA := fun ρ s => (g ρ s).bind fun d s1 => (r ρ s1).bind fun ds s2 => .ok (d :: ds) s2
theorem ja_nil : JA X ca W [] gaNil := PA.imp pa_nil fun σ H Q ⟨ι, ρ, s, hr, hm, h⟩ => h ι [] H .refl hm .nil
theorem ja_cons {gr : GA} (h : JE X ca W e g) (hr : JA X ca W es gr) (hs : starEach (e :: es) X.env = (false, eval e X.env) :: starEach es X.env := by rfl) : JA X ca W (e :: es) (gaCons g gr) := by
  refine PA.imp (pa_cons h hr hs) fun σ H Q ⟨ι, ρ, s, hr, hm, h⟩ => bindE famA hr hm h fun ι1 s1 d v H1 l1 hr1 hm1 rd h1 => bindA famA hr1 hm1 h1 fun ι2 s2 ds vs H2 l2 hr2 hm2 rs h2 => ?_
  exact h2 ι2 _ H2 .refl hm2 (.cons (rd.mono l2) rs)
def gTup (g : GA) : GE := fun ρ s => (g ρ s).bind fun ds s1 => if fitL ds.length then .ok (.tup ds) s1 else .no
def gLst (g : GA) : GE := fun ρ s => (g ρ s).bind fun ds s1 => if fitL ds.length then .ok (.lst ds) s1 else .no
/-- a list that may change -/
def gLstM (g : GA) : GE := fun ρ s => (g ρ s).bind fun ds s1 => if fitL ds.length then .ok (.obj s1.length) (s1 ++ [.lst ds]) else .no
theorem je_tup {x1} {gr : GA} (h : JA X ca W es gr) : JE X ca W (.Tuple es x1 pos) (gTup gr) := by
  refine PE.imp (pe_tup h) fun σ H Q ⟨ι, ρ, s, hr, hm, h⟩ => bindA famE hr hm h fun ι1 s1 ds vs H1 l1 hr1 hm1 rs h1 => ?_
  split at h1
  · rename_i hf
    refine ⟨by rw [← rs.length]; exact fitL_le hf, fun p hp => ?_⟩
    obtain ⟨l, m⟩ := hm1.new (o := .tup vs) hp
    exact h1 _ _ _ l m (.tup (.inl upd_same) (rs.mono l))
  · exact h1.elim
theorem je_lst {gr : GA} (h : JA X ca W es gr) : JE X ca W (.List es pos) (gLst gr) := by
  refine PE.imp (pe_lst h) fun σ H Q ⟨ι, ρ, s, hr, hm, h⟩ => bindA famE hr hm h fun ι1 s1 ds vs H1 l1 hr1 hm1 rs h1 => ?_
  split at h1
  · rename_i hf
    refine ⟨by rw [← rs.length]; exact fitL_le hf, fun p hp => ?_⟩
    obtain ⟨l, m⟩ := hm1.new (o := .lst vs) hp
    exact h1 _ _ _ l m (.lst upd_same (hm1.ne hp) (rs.mono l))
  · exact h1.elim
theorem je_lstM {gr : GA} (h : JA X ca W es gr) : JE X ca W (.List es pos) (gLstM gr) := by
  refine PE.imp (pe_lst h) fun σ H Q ⟨ι, ρ, s, hr, hm, h⟩ => bindA famE hr hm h fun ι1 s1 ds vs H1 l1 hr1 hm1 rs h1 => ?_
  split at h1
  · rename_i hf
    refine ⟨by rw [← rs.length]; exact fitL_le hf, fun p hp => ?_⟩
    obtain ⟨l, m⟩ := hm1.alloc (o := .lst vs) (u := .lst ds) hp trivial fun l => ⟨vs, upd_same, rs.mono l⟩
    exact h1 _ _ _ l m (.obj (by simp [← hm1.len]))
  · exact h1.elim

/-! ### built-ins by values -/
def rCJ (K : PySem.W.Frag) (ca : Ct) (f : S → List D → Option D) : List V → Hp → VK → Prop := fun vs H Q => ∃ ι s ds x, Sim K ca ι s H ∧ Reps K ι H ds vs ∧ f s ds = some x ∧
  ∀ ι' v' H', Le ι H ι' H' → Sim K ca ι' s H' → Rep K ι' H' x v' → Q v' H'
theorem CallR.imp {f : Value} {r r' : List V → Hp → VK → Prop} (h : CallR X f r) (i : ∀ vs H Q, r' vs H Q → r vs H Q) : CallR X f r' := fun pins s σ H xs us Q I r q => h pins s σ H xs us Q I r (i _ _ _ q)
def gF (f : S → List D → Option D) (gr : GA) : GE := fun ρ s => (gr ρ s).bind fun ds s1 => R.ofO (f s1 ds) s1
theorem tG_gF {f : S → List D → Option D} {gr : GA} {σ : L2.St} {H : Hp} {Q : VK} (h : tG X.K ca W (gF f gr) σ H Q) : tCB (rCJ X.K ca f) (tA X.K ca W gr) σ H Q := by
  obtain ⟨ι, ρ, s, hr, hm, h⟩ := h
  refine bindA famE hr hm h fun ι1 s1 ds vs H1 l1 hr1 hm1 rs h1 => ?_
  cases e : f s1 ds with
  | none => rw [e] at h1; exact h1.elim
  | some z => rw [e] at h1; exact ⟨ι1, s1, ds, z, hm1, rs, e, fun ι' v' H' l m r => h1 ι' v' H' l m r⟩
theorem je_B {x : Str} {p : Pos} {id : String} {f : S → List D → Option D} {gr : GA} (hc : CallR X (.builtin id) (rCJ X.K ca f)) (hm : X.mg x = none) (hv : bootBuiltins x = some (.builtin id)) (ha : JA X ca W (e :: es) gr) (hg : Gl X x := by rfl) (hn : x ≠ "__name__" := by decide)
    (hdb : (x == ("__debug__" : Str)) = false := by decide) (he : starEach (e :: es) X.env = (false, eval e X.env) :: starEach es X.env := by rfl) (hpl : (backTo pos (starEach es X.env)).any (·.1) = false := by rfl) : JE X ca W (.Call (.Name x p) (e :: es) [] pos) (gF f gr) :=
  PE.imp (pe_callB hc hg hm hv ha hn hdb he hpl) fun _ _ _ h => tG_gF h
theorem je_Ty {x : Str} {p : Pos} {id : String} {f : S → List D → Option D} {gr : GA} (hc : CallR X (.type id) (rCJ X.K ca f)) (hm : X.mg x = none) (hv : bootBuiltins x = some (.type id)) (ha : JA X ca W (e :: es) gr) (hg : Gl X x := by rfl) (hn : x ≠ "__name__" := by decide)
    (hdb : (x == ("__debug__" : Str)) = false := by decide) (he : starEach (e :: es) X.env = (false, eval e X.env) :: starEach es X.env := by rfl) (hpl : (backTo pos (starEach es X.env)).any (·.1) = false := by rfl) : JE X ca W (.Call (.Name x p) (e :: es) [] pos) (gF f gr) :=
  PE.imp (pe_callTy hc hg hm hv ha hn hdb he hpl) fun _ _ _ h => tG_gF h
end
end J


set_option Elab.async false
set_option linter.all false
set_option maxRecDepth 100000
set_option maxHeartbeats 4000000
/-! J3: statements, loops, comprehensions, defs and their calls. -/
namespace J
open PySem PySem.Spec L2
open PyProof.Rows (envOfC)

abbrev W0 : WX := fun _ _ _ _ => False
def JS (X : Cx) (ca : Ct) (W : WX) (st : Stmt) (g : GS) : Prop := PS X st (tS X.K ca W g)
def JSs (X : Cx) (ca : Ct) (W : WX) (st : List Stmt) (g : GS) : Prop := PSs X st (tS X.K ca W g)
/-- a target -/
abbrev TD := D → Env → Option Env
def tgJ (K : PySem.W.Frag) (ca : Ct) (t : TD) : TG := fun v σ H Q => ∃ ι ρ s d ρ', RelS K ι H ρ σ ∧ Sim K ca ι s H ∧ Rep K ι H d v ∧ t d ρ = some ρ' ∧ ∀ ι' σ' H', Le ι H ι' H' → Sim K ca ι' s H' → RelS K ι' H' ρ' σ' → Q σ' H'
def tgsJ (K : PySem.W.Frag) (ca : Ct) (t : List D → Env → Option Env) : TGs := fun vs σ H Q => ∃ ι ρ s ds ρ', RelS K ι H ρ σ ∧ Sim K ca ι s H ∧ Reps K ι H ds vs ∧ t ds ρ = some ρ' ∧ ∀ ι' σ' H', Le ι H ι' H' → Sim K ca ι' s H' → RelS K ι' H' ρ' σ' → Q σ' H'
def JG (X : Cx) (ca : Ct) (tg : Expr) (t : TD) : Prop := PG X tg (tgJ X.K ca t)
def JGs (X : Cx) (ca : Ct) (tgs : List Expr) (t : List D → Env → Option Env) : Prop := PGs X tgs (tgsJ X.K ca t)
theorem PG.imp {X : Cx} {e : Expr} {t t' : TG} (h : PG X e t) (i : ∀ v σ H Q, t' v σ H Q → t v σ H Q) : PG X e t' := ⟨fun pins s σ H v u Q I r q => h.run pins s σ H v u Q I r (i _ _ _ _ q)⟩
theorem PGs.imp {X : Cx} {e : List Expr} {t t' : TGs} (h : PGs X e t) (i : ∀ v σ H Q, t' v σ H Q → t v σ H Q) : PGs X e t' := ⟨fun pins s σ H v u Q I r q => h.run pins s σ H v u Q I r (i _ _ _ _ q)⟩
theorem PS.imp {X : Cx} {e : Stmt} {t t' : TS} (h : PS X e t) (i : ∀ D σ H, t' D σ H → t D σ H) : PS X e t' := ⟨fun pins s σ H D I q => h.run pins s σ H D I (i _ _ _ q)⟩
theorem PSs.imp {X : Cx} {e : List Stmt} {t t' : TS} (h : PSs X e t) (i : ∀ D σ H, t' D σ H → t D σ H) : PSs X e t' := ⟨fun pins s σ H D I q => h.run pins s σ H D I (i _ _ _ q)⟩
theorem PI.imp {X : Cx} {tg e : Expr} {t t' : TI} (h : PI X tg e t) (i : ∀ σ H R, t' σ H R → t σ H R) : PI X tg e t' := ⟨fun pins s σ H R I q => h.run pins s σ H R I (i _ _ _ q)⟩
theorem PI.or {X : Cx} {tg e : Expr} {t t' : TI} (h : PI X tg e t) (h' : PI X tg e t') : PI X tg e (fun σ H R => t σ H R ∨ t' σ H R) := ⟨fun pins s σ H R I q => q.elim (h.run pins s σ H R I) (h'.run pins s σ H R I)⟩
section
variable {X : Cx} {ca : Ct} {W : WX} {e tg : Expr} {es : List Expr} {pos : Pos} {g : GE} {st : Stmt} {sts : List Stmt} {b b' : GS}
def dName (i : Nat) : TD := fun d ρ => some (ρ.set i (some d))
theorem jg_name (i : Nat) {x : Str} (hN : X.N.Nodup) (hi : X.N[i]? = some x := by rfl) (hx : Loc X.env.scope x := by first | exact Or.inl rfl | exact Or.inr rfl) (hf : X.fn x = true ∨ X.env.scope.names.lookup x = some .local := by first | exact .inl rfl | exact .inr rfl) : JG X ca (.Name x pos) (dName i) :=
  PG.imp (pg_name (i := i) hN hi hx hf) fun v σ H Q ⟨ι, ρ, s, d, ρ', hr, hm, rd, e, q⟩ => by
    cases e
    exact q ι _ H .refl hm (hr.set rd i)
def dsNil : List D → Env → Option Env := fun ds ρ => match ds with | [] => some ρ | _ => none
def dsCons (t : TD) (r : List D → Env → Option Env) : List D → Env → Option Env := fun ds ρ => match ds with | d :: ds => (t d ρ).bind (r ds) | _ => none
theorem jgs_nil : JGs X ca [] dsNil := PGs.imp pgs_nil fun v σ H Q ⟨ι, ρ, s, ds, ρ', hr, hm, rs, e, q⟩ => by
  cases rs with
  | nil => cases e; exact ⟨rfl, q ι _ H .refl hm hr⟩
  | cons _ _ => cases e
theorem jgs_cons {t : TD} {r : List D → Env → Option Env} (h1 : JG X ca e t) (h2 : JGs X ca es r) (hs : (assignEach (e :: es) X.env).map (·.2) = assign e X.env :: (assignEach es X.env).map (·.2) := by rfl) : JGs X ca (e :: es) (dsCons t r) :=
  PGs.imp (pgs_cons h1 h2 hs) fun v σ H Q ⟨ι, ρ, s, ds, ρ', hr, hm, rs, e, q⟩ => by
    cases rs with
    | nil => cases e
    | cons rd rs =>
      simp only [dsCons, Option.bind_eq_some_iff] at e
      obtain ⟨ρ1, e1, e2⟩ := e
      exact ⟨_, _, rfl, ι, ρ, s, _, ρ1, hr, hm, rd, e1, fun ι1 σ1 H1 l1 m1 r1 => ⟨ι1, ρ1, s, _, ρ', r1, m1, rs.mono l1, e2, fun ι2 σ2 H2 l2 m2 r2 => q ι2 σ2 H2 (l1.trans l2) m2 r2⟩⟩
def dTup (n : Nat) (t : List D → Env → Option Env) : TD := fun d ρ => match d with | .tup ds => if ds.length = n then t ds ρ else none | _ => none
theorem jg_tup {t : List D → Env → Option Env} {k n : Nat} (hc : X.calm = true) (h : JGs X ca es t) (hn : (assignEach es X.env).length = n := by rfl) (hst : (assignEach es X.env).findIdx? (·.1) = none := by rfl) : JG X ca (.Tuple es k pos) (dTup n t) :=
  PG.imp (pg_tup hc h hn hst) fun v σ H Q ⟨ι, ρ, s, d, ρ', hr, hm, rd, e, q⟩ => by
    cases rd with
    | tup h1 h2 =>
      simp only [dTup] at e
      split at e
      · rename_i hl
        exact ⟨_, _, rfl, h1.sq, by rw [← h2.length]; exact hl, ι, ρ, s, _, ρ', hr, hm, h2, e, q⟩
      · cases e
    | _ => simp [dTup] at e

/-! ### statements -/
def sNext : GS := fun ρ s => .ok (.nx ρ) s
def sSeq (a b : GS) : GS := fun ρ s => (a ρ s).bind fun f s1 => match f with | .nx ρ1 => b ρ1 s1 | f => .ok f s1
def sExpr (g : GE) : GS := fun ρ s => (g ρ s).bind fun _ s1 => .ok (.nx ρ) s1
def sRet (g : GE) : GS := fun ρ s => (g ρ s).bind fun d s1 => .ok (.rt d) s1
def sRetN : GS := fun _ s => .ok (.rt .non) s
def sAsg (g : GE) (t : TD) : GS := fun ρ s => (g ρ s).bind fun d s1 => match t d ρ with | some ρ1 => .ok (.nx ρ1) s1 | none => .no
def sIf (t : GT) (a b : GS) : GS := fun ρ s => (t ρ s).bind fun k s1 => if k then a ρ s1 else b ρ s1
def sBreak : GS := fun ρ s => .ok (.bk ρ) s
def sCont : GS := fun ρ s => .ok (.ct ρ) s
theorem jss_nil : JSs X ca W [] sNext := PSs.imp pss_nil fun D σ H ⟨ι, ρ, s, hr, hm, h⟩ => h ι σ H .refl hm hr
theorem jss_cons (h1 : JS X ca W st b) (h2 : JSs X ca W sts b') : JSs X ca W (st :: sts) (sSeq b b') := PSs.imp (pss_cons h1 h2) fun D σ H ⟨ι, ρ, s, hr, hm, h⟩ => by
  refine ⟨ι, ρ, s, hr, hm, ?_⟩
  unfold sSeq at h
  cases e : b ρ s with
  | ok f s1 =>
    rw [e] at h
    cases f with
    | nx ρ1 => exact fun ι' σ' H' l m r => ⟨ι', ρ1, s1, r, m, PostS.mono h l⟩
    | rt d => exact h
    | bk ρ1 => exact h
    | ct ρ1 => exact h
  | err x s1 => rw [e] at h; exact h
  | no => rw [e] at h; exact h
theorem jss_one (h1 : JS X ca W st b) : JSs X ca W [st] b := pss_one h1
theorem js_pass : JS X ca W (.Pass pos) sNext := PS.imp ps_pass fun D σ H ⟨ι, ρ, s, hr, hm, h⟩ => h ι σ H .refl hm hr
theorem js_break : JS X ca W (.Break pos) sBreak := PS.imp ps_break fun D σ H ⟨ι, ρ, s, hr, hm, h⟩ => h ι σ H .refl hm hr
theorem js_cont : JS X ca W (.Continue pos) sCont := PS.imp ps_continue fun D σ H ⟨ι, ρ, s, hr, hm, h⟩ => h ι σ H .refl hm hr
theorem js_expr (h : JE X ca W e g) (hs : swapsWith e none pos.line X.env = pure false := by rfl) : JS X ca W (.Expr e pos) (sExpr g) := PS.imp (ps_expr h hs) fun D σ H ⟨ι, ρ, s, hr, hm, h⟩ =>
  bindE famS hr hm h fun ι1 s1 d v H1 l1 hr1 hm1 rd h1 => h1 ι1 σ H1 .refl hm1 hr1
theorem js_ret (h : JE X ca W e g) : JS X ca W (.Return (some e) pos) (sRet g) := PS.imp (ps_ret h) fun D σ H ⟨ι, ρ, s, hr, hm, h⟩ =>
  bindE famS hr hm h fun ι1 s1 d v H1 l1 hr1 hm1 rd h1 => h1 ι1 v H1 .refl hm1 rd
theorem js_retN : JS X ca W (.Return none pos) sRetN := PS.imp ps_retN fun D σ H ⟨ι, ρ, s, hr, hm, h⟩ => h ι _ H .refl hm .non
theorem js_set (i : Nat) {x : Str} {pos' : Pos} (hN : X.N.Nodup) (he : JE X ca W e g) (hi : X.N[i]? = some x := by rfl) (hx : Loc X.env.scope x := by first | exact Or.inl rfl | exact Or.inr rfl) (hs : swapsWith e (some (.Name x pos')) pos.line X.env = pure false := by rfl)
    (hf : X.fn x = true ∨ X.env.scope.names.lookup x = some .local := by first | exact .inl rfl | exact .inr rfl) : JS X ca W (.Assign [.Name x pos'] e pos) (sAsg g (dName i)) := PS.imp (ps_set (i := i) hN hi hx he hs hf) fun D σ H ⟨ι, ρ, s, hr, hm, h⟩ =>
  bindE famS hr hm h fun ι1 s1 d v H1 l1 hr1 hm1 rd h1 => h1 ι1 _ H1 .refl hm1 (hr1.set rd i)
theorem js_asg {t : TD} (he : JE X ca W e g) (hg : JG X ca tg t) (hs : swapsWithSole [tg] e pos.line X.env = pure false := by rfl) (hw : swappedStores [tg] e X.env = pure none := by rfl)
    (h1 : (assignEach [tg] X.env).map (·.2) = [assign tg X.env] := by rfl) : JS X ca W (.Assign [tg] e pos) (sAsg g t) := PS.imp (ps_asg he hg hs hw h1) fun D σ H ⟨ι, ρ, s, hr, hm, h⟩ =>
  bindE famS hr hm h fun ι1 s1 d v H1 l1 hr1 hm1 rd h1 => by
    cases e : t d ρ with
    | none => rw [e] at h1; exact h1.elim
    | some ρ' => rw [e] at h1; exact ⟨ι1, ρ, s1, d, ρ', hr1, hm1, rd, e, fun ι' σ' H' l m r => h1 ι' σ' H' l m r⟩
def sPar (i j : Nat) (gr : GA) : GS := fun ρ s => (gr ρ s).bind fun ds s1 => match ds with | [d, e] => .ok (.nx ((ρ.set i (some d)).set j (some e))) s1 | _ => .no
theorem js_par (i j : Nat) {x y : Str} {a c : Expr} {gr : GA} {px py pt : Pos} {kt k2 pt2} (hc : X.calm = true) (hN : X.N.Nodup) (ha : JA X ca W [a, c] gr) (hi : X.N[i]? = some x := by rfl) (hj : X.N[j]? = some y := by rfl) (hij : i ≠ j := by decide)
    (hx : X.env.scope.names.lookup x = some .local := by rfl) (hy : X.env.scope.names.lookup y = some .local := by rfl)
    (hw : swappedStores [.Tuple [.Name x px, .Name y py] kt pt] (.Tuple [a, c] k2 pt2) X.env = pure (some [x, y]) := by rfl)
    (hs : swapsWithSole [.Tuple [.Name x px, .Name y py] kt pt] (.Tuple [a, c] k2 pt2) pos.line X.env = pure false := by rfl) :
    JS X ca W (.Assign [.Tuple [.Name x px, .Name y py] kt pt] (.Tuple [a, c] k2 pt2) pos) (sPar i j gr) := PS.imp (ps_par hc hN hi hj hij hx hy ha hw hs) fun D σ H ⟨ι, ρ, s, hr, hm, h⟩ =>
  bindA famS hr hm h fun ι1 s1 ds vs H1 l1 hr1 hm1 rs h1 => by
    cases rs with
    | nil => exact h1.elim
    | cons r1 rs =>
      cases rs with
      | nil => exact h1.elim
      | cons r2 rs =>
        cases rs with
        | nil => exact ⟨_, _, rfl, h1 ι1 _ H1 .refl hm1 ((hr1.set r1 i).set r2 j)⟩
        | cons _ _ => exact h1.elim
theorem js_if {c : Expr} {t : GT} {sa sb : List Stmt} (hc : JT X ca W c t) (ha : JSs X ca W sa b) (hb : JSs X ca W sb b') : JS X ca W (.If c sa sb pos) (sIf t b b') := PS.imp (ps_if hc ha hb) fun D σ H ⟨ι, ρ, s, hr, hm, h⟩ =>
  bindT famS hr hm h fun ι1 s1 k H1 l1 hr1 hm1 h1 => by
    cases k with
    | true => rw [if_pos rfl]; exact ⟨ι1, ρ, s1, hr1, hm1, h1⟩
    | false => rw [if_neg Bool.false_ne_true]; exact ⟨ι1, ρ, s1, hr1, hm1, h1⟩

/-! ### what is walked -/
/-- the iterator yields these, as long as what stands stands -/
def ItJ (K : PySem.W.Frag) (ι : Wd) (H : Hp) (J : It) (ds : List D) : Prop := ∀ ι' H', Le ι H ι' H' →
  (∀ i d, ds[i]? = some d → J.go i H' ∧ ∀ x H'', J.yld i H' x H'' → H'' = H' ∧ Rep K ι' H' d x) ∧ ∀ i, ds.length ≤ i → J.stop i H'
def PostI (K : PySem.W.Frag) (ca : Ct) (ι : Wd) (H : Hp) (r : R (List D)) (Q : It → Hp → Prop) (E : XK) : Prop := match r with
  | .ok ds s' => ∀ ι' J H', Le ι H ι' H' → Sim K ca ι' s' H' → ItJ K ι' H' J ds → Q J H'
  | .err e s' => ∀ ι' cv dd H', Le ι H ι' H' → Sim K ca ι' s' H' → RepX K ca ι' H' e cv dd → E cv dd H'
  | .no => False
theorem famI {K : PySem.W.Frag} {E : XK} {Q : It → Hp → Prop} : Fam K ca E (fun ι H r => PostI K ca ι H r Q E) := ⟨fun {ι H ι' H' r} h l => by
  cases r with
  | ok d s => exact fun ι2 v H2 l2 m q => h ι2 v H2 (l.trans l2) m q
  | err e s => exact fun ι2 cv dd H2 l2 m q => h ι2 cv dd H2 (l.trans l2) m q
  | no => exact h, fun h => h, fun h => h⟩
def tI (K : PySem.W.Frag) (ca : Ct) (W : WX) (g : GA) : TI := fun σ H R => ∃ ι ρ s, RelS K ι H ρ σ ∧ Sim K ca ι s H ∧ PostI K ca ι H (g ρ s) R (fun cv dd H' => W cv dd σ H')
def JI (X : Cx) (ca : Ct) (W : WX) (tg e : Expr) (g : GA) : Prop := PI X tg e (tI X.K ca W g)
def itemsF : D → Option (List D)
  | .lst ds => some ds
  | .frz ds => some ds
  | .tup ds => some ds
  | _ => none
def gItems (g : GE) : GA := fun ρ s => (g ρ s).bind fun d s1 => R.ofO (itemsF d) s1
theorem itJ_list {K : PySem.W.Frag} {ι : Wd} {H : Hp} {a : Addr} {vs : List V} {ds : List D} (h : ∀ ι' H', Le ι H ι' H' → SqL K H' a vs) (u : ∀ ι' H' ys, Le ι H ι' H' → SqL K H' a ys → ys = vs) (r : Reps K ι H ds vs) : ItJ K ι H (Itl K a) ds := fun ι' H' l =>
  ⟨fun i d hd => let ⟨x, hx, _⟩ := r.get hd; ⟨⟨vs, x, h ι' H' l, hx⟩, fun y H'' ⟨e, q⟩ => ⟨e, by
    have hy := q vs (h ι' H' l)
    obtain ⟨d', h1, h2⟩ := r.getV hy
    rw [hd] at h1; cases h1
    exact h2.mono l⟩⟩, fun i hi => ⟨vs, h ι' H' l, by rw [← r.length]; exact hi⟩⟩
theorem itJ_tup {K : PySem.W.Frag} {ι : Wd} {H : Hp} {a : Addr} {vs : List V} {ds : List D} (h : ∀ ι' H', Le ι H ι' H' → SqT K H' a vs) (r : Reps K ι H ds vs) : ItJ K ι H (Itt K a) ds := fun ι' H' l =>
  ⟨fun i d hd => let ⟨x, hx, _⟩ := r.get hd; ⟨⟨vs, x, h ι' H' l, hx⟩, fun y H'' ⟨e, q⟩ => ⟨e, by
    have hy := q vs (h ι' H' l)
    obtain ⟨d', h1, h2⟩ := r.getV hy
    rw [hd] at h1; cases h1
    exact h2.mono l⟩⟩, fun i hi => ⟨vs, h ι' H' l, by rw [← r.length]; exact hi⟩⟩
theorem ji_seq (h : JE X ca W e g) : JI X ca W tg e (gItems g) := by
  refine PI.imp (PI.or (pi_list h) (pi_tup h)) fun σ H R ⟨ι, ρ, s, hr, hm, h⟩ => ?_
  unfold gItems at h
  cases e : g ρ s with
  | err x s1 =>
    rw [e] at h
    exact .inl ⟨ι, ρ, s, hr, hm, by rw [e]; exact h⟩
  | no => rw [e] at h; exact h.elim
  | ok d s1 =>
    rw [e] at h
    have bnd : ∀ (T : VK), (∀ ι' v H', Le ι H ι' H' → Sim X.K ca ι' s1 H' → Rep X.K ι' H' d v → PostI X.K ca ι' H' (J.R.ofO (itemsF d) s1) R (fun cv dd H' => W cv dd σ H') → T v H') → tG X.K ca W g σ H T := fun T k =>
      ⟨ι, ρ, s, hr, hm, by rw [e]; exact fun ι' v H' l m r => k ι' v H' l m r (famI.mono h l)⟩
    cases d with
    | tup ds =>
      refine .inr (bnd (fun x H1 => ∃ a, x = .ref a ∧ (∃ xs, SqT X.K H1 a xs) ∧ R (Itt X.K a) H1) fun ι' v H' l m r q => ?_)
      obtain ⟨a, vs, rfl, h1, h2⟩ := r.tupOf
      exact ⟨a, rfl, ⟨vs, h1.sq⟩, q ι' _ H' .refl m (itJ_tup (fun _ _ l2 => (l2.toKe.tupAt h1).sq) h2)⟩
    | lst ds =>
      refine .inl (bnd (fun x H1 => ∃ a, x = .ref a ∧ (∃ xs, SqL X.K H1 a xs) ∧ R (Itl X.K a) H1) fun ι' v H' l m r q => ?_)
      cases r with
      | lst h1 hn h2 =>
        refine ⟨_, rfl, ⟨_, SqL.of h1⟩, q ι' _ H' .refl m ?_⟩
        intro ι2 H2 l2
        have h3 := (l2.keep _ _ h1 noTab_lst hn).1
        refine ⟨fun i d hd => let ⟨x, hx, rx⟩ := h2.get hd; ⟨⟨_, x, SqL.of h3, hx⟩, fun y H'' ⟨e, q⟩ => ⟨e, ?_⟩⟩, fun i hi => ⟨_, SqL.of h3, by rw [← h2.length]; exact hi⟩⟩
        have hy := q _ (SqL.of h3)
        rw [hx] at hy; cases hy
        exact rx.mono l2
    | frz ds =>
      refine .inl (bnd (fun x H1 => ∃ a, x = .ref a ∧ (∃ xs, SqL X.K H1 a xs) ∧ R (Itl X.K a) H1) fun ι' v H' l m r q => ?_)
      cases r with
      | frz h1 h2 =>
        refine ⟨_, rfl, ⟨_, h1.sq⟩, q ι' _ H' .refl m ?_⟩
        intro ι2 H2 l2
        have h3 := l2.toKe.frzAt h1
        refine ⟨fun i d hd => let ⟨x, hx, rx⟩ := h2.get hd; ⟨⟨_, x, h3.sq, hx⟩, fun y H'' ⟨e, q⟩ => ⟨e, ?_⟩⟩, fun i hi => ⟨_, h3.sq, by rw [← h2.length]; exact hi⟩⟩
        have hy := q _ h3.sq
        rw [hx] at hy; cases hy
        exact rx.mono l2
      | frz2 h1 hn h2 =>
        refine ⟨_, rfl, ⟨_, SqL.of h1⟩, q ι' _ H' .refl m ?_⟩
        intro ι2 H2 l2
        have h3 := (l2.keep _ _ h1 noTab_lst hn).1
        refine ⟨fun i d hd => let ⟨x, hx, rx⟩ := h2.get hd; ⟨⟨_, x, SqL.of h3, hx⟩, fun y H'' ⟨e, q⟩ => ⟨e, ?_⟩⟩, fun i hi => ⟨_, SqL.of h3, by rw [← h2.length]; exact hi⟩⟩
        have hy := q _ (SqL.of h3)
        rw [hx] at hy; cases hy
        exact rx.mono l2
    | _ => exact h.elim
/-- the ints lo, lo + 1, .. below hi -/
def rangeD (lo hi : Int) : List D := (List.range (hi - lo).toNat).map fun (k : Nat) => D.int (lo + k)
def okR (i : Int) : Bool := decide (-(2 ^ 62) ≤ i) && decide (i < 2 ^ 62)
def gRange1 (gr : GA) : GA := fun ρ s => (gr ρ s).bind fun ds s1 => match ds with | [.int j] => if okR j then .ok (rangeD 0 j) s1 else .no | _ => .no
def gRange2 (gr : GA) : GA := fun ρ s => (gr ρ s).bind fun ds s1 => match ds with | [.int i, .int j] => if okR i && okR j then .ok (rangeD i j) s1 else .no | _ => .no
theorem itJ_range {K : PySem.W.Frag} {ι : Wd} {H : Hp} {lo hi : Int} : ItJ K ι H (Itr lo (hi - lo).toNat) (rangeD lo hi) := by
  intro ι' H' l
  refine ⟨fun i d hd => ?_, fun i h => by
    rw [rangeD, List.length_map, List.length_range] at h; exact h⟩
  · 
    unfold rangeD at hd
    rw [List.getElem?_map] at hd
    by_cases hi' : i < (hi - lo).toNat
    · rw [List.getElem?_range hi'] at hd
      cases hd
      exact ⟨hi', fun y H'' ⟨e, q⟩ => ⟨e, by rw [q]; exact .int _⟩⟩
    · rw [List.getElem?_eq_none (by simpa using hi')] at hd
      cases hd
theorem ji_range1 {a : Expr} {gr : GA} {p : Pos} (hm : X.mg "range" = none) (ha : JA X ca W [a] gr) (hg : Gl X "range" := by rfl) (hs : starEach [a] X.env = [(false, eval a X.env)] := by rfl) : JI X ca W tg (.Call (.Name "range" p) [a] [] pos) (gRange1 gr) := by
  refine PI.imp (pi_range1 hg hm ha hs) fun σ H R ⟨ι, ρ, s, hr, hm, h⟩ => bindA famI hr hm h fun ι1 s1 ds vs H1 l1 hr1 hm1 rs h1 => ?_
  split at h1
  · split at h1
    · rename_i hk
      cases rs with
      | cons r1 rs =>
        cases rs
        cases r1
        simp only [okR, Bool.and_eq_true, decide_eq_true_eq] at hk
        refine ⟨_, rfl, hk.1, hk.2, h1 ι1 _ H1 .refl hm1 ?_⟩
        have := itJ_range (K := X.K) (ι := ι1) (H := H1) (lo := 0) (hi := ‹Int›)
        rwa [Int.sub_zero] at this
    · exact h1.elim
  · exact h1.elim
theorem ji_range2 {a c : Expr} {gr : GA} {p : Pos} (hm : X.mg "range" = none) (ha : JA X ca W [a, c] gr) (hg : Gl X "range" := by rfl) (hs : starEach [a, c] X.env = [(false, eval a X.env), (false, eval c X.env)] := by rfl) (hs2 : starEach [c] X.env = [(false, eval c X.env)] := by rfl) :
    JI X ca W tg (.Call (.Name "range" p) [a, c] [] pos) (gRange2 gr) := by
  refine PI.imp (pi_range2 hg hm ha hs hs2) fun σ H R ⟨ι, ρ, s, hr, hm, h⟩ => bindA famI hr hm h fun ι1 s1 ds vs H1 l1 hr1 hm1 rs h1 => ?_
  split at h1
  · split at h1
    · rename_i hk
      cases rs with
      | cons r1 rs =>
        cases rs with
        | cons r2 rs =>
          cases rs
          cases r1
          cases r2
          simp only [okR, Bool.and_eq_true, decide_eq_true_eq] at hk
          exact ⟨_, _, rfl, ⟨hk.1.1, hk.1.2, hk.2.1, hk.2.2⟩, h1 ι1 _ H1 .refl hm1 itJ_range⟩
    · exact h1.elim
  · exact h1.elim

/-! ### for -/
def forLoop (t : TD) (b : GS) : List D → Env → S → R Fl
  | [], ρ, s => .ok (.nx ρ) s
  | x :: xs, ρ, s => match t x ρ with
    | none => .no
    | some ρ1 => (b ρ1 s).bind fun f s1 => match f with
      | .nx ρ2 => forLoop t b xs ρ2 s1
      | .ct ρ2 => forLoop t b xs ρ2 s1
      | .bk ρ2 => .ok (.nx ρ2) s1
      | .rt d => .ok (.rt d) s1
def sFor (t : TD) (gi : GA) (b : GS) : GS := fun ρ s => (gi ρ s).bind fun ds s1 => forLoop t b ds ρ s1
theorem js_for {iter : Expr} {body : List Stmt} {gi : GA} {t : TD} (hp : PassesOwn (model X.prog X.w) X.A X.env X.xe) (hc : X.calm = true) (hi : JI X ca W tg iter gi) (hg : JG X ca tg t) (hb : JSs X ca W body b) (hs : ∀ x, foldedSetIterable iter X.env x = pure x := by intro _; rfl) :
    JS X ca W (.For tg iter body [] pos) (sFor t gi b) := by
  refine PS.imp (ps_for hp hc hi hg hb hs) fun D σ H ⟨ι, ρ, s, hr, hm, h⟩ => ?_
  refine ⟨ι, ρ, s, hr, hm, ?_⟩
  unfold sFor at h
  cases e : gi ρ s with
  | err x s1 => rw [e] at h; exact fun ι' cv dd H' l m q => h ι' cv dd H' σ l m q
  | no => rw [e] at h; exact h
  | ok ds s1 =>
    rw [e] at h
    intro ι1 J H1 l1 hm1 it
    refine ⟨fun i m σ' H' => m = ds.length - i ∧ ∃ ι' ρ' s', Le ι1 H1 ι' H' ∧ RelS X.K ι' H' ρ' σ' ∧ Sim X.K ca ι' s' H' ∧ PostS X.K ca ι H W (forLoop t b (ds.drop i) ρ' s') D, ⟨_, rfl, ι1, ρ, s1, .refl, hr.mono l1, hm1, h⟩, ?_⟩
    rintro i m σ' H' ⟨rfl, ι', ρ', s', l', hr', hm', h'⟩
    obtain ⟨i1, i2⟩ := it ι' H' l'
    have l0 := l1.trans l'
    by_cases hlt : i < ds.length
    · have hd : ds[i]? = some ds[i] := List.getElem?_eq_getElem hlt
      obtain ⟨g1, g2⟩ := i1 i _ hd
      refine .inr ⟨g1, fun σ2 H2 => ∃ ι2 ρ2 s2, Le ι1 H1 ι2 H2 ∧ RelS X.K ι2 H2 ρ2 σ2 ∧ Sim X.K ca ι2 s2 H2 ∧ PostS X.K ca ι H W (forLoop t b (ds.drop (i + 1)) ρ2 s2) D, fun σ2 H2 w => ⟨_, by omega, rfl, w⟩, fun x H2 y => ?_⟩
      obtain ⟨rfl, rx⟩ := g2 x H2 y
      rw [List.drop_eq_getElem_cons hlt] at h'
      unfold forLoop at h'
      cases e2 : t ds[i] ρ' with
      | none => rw [e2] at h'; exact h'.elim
      | some ρ2 =>
        rw [e2] at h'
        refine ⟨ι', ρ', s', _, ρ2, hr', hm', rx, e2, fun ι3 σ3 H3 l3 m3 r3 => ⟨ι3, ρ2, s', r3, m3, ?_⟩⟩
        simp only at h'
        cases e3 : b ρ2 s' with
        | err x s4 => rw [e3] at h'; exact PostS.mono (show PostS X.K ca ι H W (.err x s4) _ from h') (l0.trans l3)
        | no => rw [e3] at h'; exact h'
        | ok f s4 =>
          rw [e3] at h'
          cases f with
          | nx ρ4 => exact fun ι4 σ4 H4 l4 m4 r4 => ⟨ι4, ρ4, s4, (l'.trans l3).trans l4, r4, m4, h'⟩
          | ct ρ4 => exact fun ι4 σ4 H4 l4 m4 r4 => ⟨ι4, ρ4, s4, (l'.trans l3).trans l4, r4, m4, h'⟩
          | bk ρ4 => exact fun ι4 σ4 H4 l4 m4 r4 => h' ι4 σ4 H4 ((l0.trans l3).trans l4) m4 r4
          | rt d => exact fun ι4 v H4 l4 m4 r4 => h' ι4 v H4 ((l0.trans l3).trans l4) m4 r4
    · refine .inl ⟨i2 i (by omega), ?_⟩
      rw [List.drop_eq_nil_of_le (by omega)] at h'
      exact h' ι' σ' H' l0 hm' hr'

/-! ### list comprehensions -/
def noErr {α : Type} (r : R α) : R α := match r with | .err _ _ => .no | r => r
theorem noErr_ok {α : Type} {r : R α} {a : α} {s : S} (h : noErr r = .ok a s) : r = .ok a s := by
  cases r with
  | ok _ _ => exact h
  | err _ _ => cases h
  | no => cases h
def wipeD (vs : List Nat) (ρ : Env) : Env := vs.foldr (fun v l => l.set v none) ρ
def lcLoop (t : TD) (gt : GT) (ge : GE) (ρ : Env) : List D → S → R (List D)
  | [], s => .ok [] s
  | x :: xs, s => match t x ρ with
    | none => .no
    | some ρ1 => (noErr (gt ρ1 s)).bind fun b s1 => if b then (noErr (ge ρ1 s1)).bind fun y s2 => (lcLoop t gt ge ρ xs s2).bind fun ys s3 => .ok (y :: ys) s3 else lcLoop t gt ge ρ xs s1
def gLc (own : List Nat) (gi : GA) (t : TD) (gt : GT) (ge : GE) : GE := fun ρ s => (gi ρ s).bind fun ds s1 => if fitL ds.length then (lcLoop t gt ge (wipeD own ρ) ds s1).bind fun ys s2 => .ok (.lst ys) s2 else .no
def gYes : GT := fun _ s => .ok true s
def JTs (X : Cx) (ca : Ct) (W : WX) (ifs : List Expr) (g : GT) : Prop := PTs X ifs (tT X.K ca W g)
theorem jts_nil : JTs X ca W [] gYes := ⟨fun pins s σ H Q I ⟨ι, ρ, s', hr, hm, h⟩ => pts_nil.run pins s σ H Q I (h ι H .refl hm)⟩
theorem jts_one {c : Expr} {t : GT} (h : JT X ca W c t) : JTs X ca W [c] t := pts_one h
/-- a comprehension's target, told exactly -/
structure LcT (X : Cx) (own : List Nat) (tg : Expr) (g : TG) (t : TD) : Prop where
  pg : PG X tg g
  to : ∀ {K : PySem.W.Frag} {ι : Wd} {H : Hp} {ρ ρ' : Env} {σ : L2.St} {d : D} {v : V} {Q : L2.St → Hp → Prop}, RelS K ι H (wipeD own ρ) (wipe σ own) → Rep K ι H d v → t d (wipeD own ρ) = some ρ' →
    (∀ σ', RelS K ι H ρ' σ' → wipe σ' own = wipe σ own → Q σ' H) → g v (wipe σ own) H Q
theorem Le.updNone {ι ι' : Wd} {H H' : Hp} {p : Addr} {o : HO} (l : Le ι H ι' H') (h : H p = none) : Le ι H ι' (upd H' p o) :=
  ⟨⟨l.pre, fun a u q t n => ⟨by rw [upd_ne (ne_of_none q h)]; exact (l.keep a u q t n).1, (l.keep a u q t n).2⟩, fun a xs q => by rw [upd_ne (ne_of_none q h)]; exact l.tup a xs q, fun a xs u q => by rw [upd_ne (ne_of_none q h)]; exact l.frz a xs u q⟩,
    fun a u q t n => ⟨by rw [upd_ne (ne_of_none q h)]; exact (l.stay a u q t n).1, (l.stay a u q t n).2⟩, l.sub⟩
theorem Le.shutNone {ι ι' : Wd} {H H' : Hp} {p : Addr} (l : Le ι H ι' H') (h : H p = none) (hp : p ∉ ι.M) : Le ι H ⟨ι'.ι, ι'.M.filter (· ≠ p)⟩ H' :=
  ⟨⟨l.pre, fun a u q t n => ⟨(l.keep a u q t n).1, fun z => (l.keep a u q t n).2 (List.mem_filter.mp z).1⟩, l.tup, l.frz⟩, l.stay, fun a ha => List.mem_filter.mpr ⟨l.sub a ha, by
    simp only [ne_eq, decide_not, Bool.not_eq_true', decide_eq_false_iff_not]
    exact fun z => hp (z ▸ ha)⟩⟩
theorem tG_lc {ca : Ct} {K : PySem.W.Frag} {W : WX} {own : List Nat} {gi : GA} {t : TD} {gt : GT} {ge : GE} {tgt : TG} {σ : L2.St} {H : Hp} {Q : VK}
    (to : ∀ {ι : Wd} {H : Hp} {ρ ρ' : Env} {σ : L2.St} {d : D} {v : V} {Q : L2.St → Hp → Prop}, RelS K ι H (wipeD own ρ) (wipe σ own) → Rep K ι H d v → t d (wipeD own ρ) = some ρ' → (∀ σ', RelS K ι H ρ' σ' → wipe σ' own = wipe σ own → Q σ' H) → tgt v (wipe σ own) H Q)
    (h : tG K ca W (gLc own gi t gt ge) σ H Q) : tLc (tI K ca W gi) tgt (tT K ca W0 gt) (tG K ca W0 ge) own σ H Q := by
  obtain ⟨ι, ρ, s, hr, hm, h⟩ := h
  refine ⟨ι, ρ, s, hr, hm, ?_⟩
  unfold gLc at h
  cases e : gi ρ s with
  | err x s1 => rw [e] at h; exact h
  | no => rw [e] at h; exact h
  | ok ds s1 =>
    rw [e] at h
    intro ι1 J H1 l1 hm1 it Da hDa
    simp only [R.bind_ok] at h
    split at h
    · rename_i hfit
      obtain ⟨lo, mo⟩ := hm1.open (o := .lst []) hDa trivial
      have nι : Da ∉ ι1.ι := fun z => hm1.ne hDa (hm1.sub _ z)
      -- the invariant
      refine ⟨fun i m H' => m = ds.length - i ∧ ∃ ι' s' acc vs, Le ι1 H1 ι' H' ∧ Da ∈ ι'.M ∧ Da ∉ ι'.ι ∧ Sim K ca ι' s' H' ∧ H' Da = some (.lst vs) ∧ Reps K ι' H' acc vs ∧ acc.length ≤ i ∧
        PostE K ca ι H ((lcLoop t gt ge (wipeD own ρ) (ds.drop i) s').bind fun ys s2 => .ok (.lst (acc ++ ys)) s2) Q (fun cv dd H' => W cv dd σ H'), ⟨_, rfl, ⟨ι1.ι, Da :: ι1.M⟩, s1, [], [], lo, List.mem_cons_self, nι, mo, upd_same, .nil, Nat.le_refl _, h⟩, ?_⟩
      rintro i m H' ⟨rfl, ι', s', acc, vs, l', hDM, hDι, hm', hD', hacc, hlen, h'⟩
      obtain ⟨i1, i2⟩ := it ι' H' l'
      have l0 := l1.trans l'
      by_cases hlt : i < ds.length
      · have hd : ds[i]? = some ds[i] := List.getElem?_eq_getElem hlt
        obtain ⟨g1, g2⟩ := i1 i _ hd
        refine .inr ⟨g1, fun H2 => ∃ ι' s' acc vs, Le ι1 H1 ι' H2 ∧ Da ∈ ι'.M ∧ Da ∉ ι'.ι ∧ Sim K ca ι' s' H2 ∧ H2 Da = some (.lst vs) ∧ Reps K ι' H2 acc vs ∧ acc.length ≤ i + 1 ∧
          PostE K ca ι H ((lcLoop t gt ge (wipeD own ρ) (ds.drop (i + 1)) s').bind fun ys s2 => .ok (.lst (acc ++ ys)) s2) Q (fun cv dd H' => W cv dd σ H'), fun H2 w => ⟨_, by omega, rfl, w⟩, fun x H2 y => ?_⟩
        obtain ⟨rfl, rx⟩ := g2 x H2 y
        rw [List.drop_eq_getElem_cons hlt] at h'
        unfold lcLoop at h'
        cases e2 : t ds[i] (wipeD own ρ) with
        | none => rw [e2] at h'; exact h'.elim
        | some ρ2 =>
          rw [e2] at h'
          simp only at h'
          refine to ((hr.mono l0).wipe own) rx e2 fun σ2 hr2 hw2 => ⟨hw2, ι', ρ2, s', hr2, hm', ?_⟩
          cases e3 : gt ρ2 s' with
          | err x s4 => rw [e3] at h'; exact h'.elim
          | no => rw [e3] at h'; exact h'.elim
          | ok k s4 =>
            rw [e3] at h'
            simp only [noErr, R.bind_ok] at h'
            intro ι3 H3 l3 m3
            have d3 := l3.stay _ _ hD' noTab_lst hDι
            cases k with
            | false =>
              rw [if_neg Bool.false_ne_true]
              simp only [Bool.false_eq_true, if_false] at h'
              exact ⟨ι3, s4, acc, vs, l'.trans l3, l3.sub _ hDM, d3.2, m3, d3.1, hacc.mono l3, by omega, h'⟩
            | true =>
              rw [if_pos rfl]
              simp only [if_true] at h'
              refine ⟨ι3, ρ2, s4, hr2.mono l3, m3, ?_⟩
              cases e4 : ge ρ2 s4 with
              | err x s5 => rw [e4] at h'; exact h'.elim
              | no => rw [e4] at h'; exact h'.elim
              | ok y s5 =>
                rw [e4] at h'
                simp only [R.bind_ok] at h'
                intro ι4 v4 H4 l4 m4 r4
                have d4 := l4.stay _ _ d3.1 noTab_lst d3.2
                obtain ⟨kf, mf⟩ := m4.fill (o := .lst (vs ++ [v4])) (l4.sub _ (l3.sub _ hDM)) d4.2 trivial
                have hv : vs.length = acc.length := (hacc.length).symm
                refine ⟨vs, d4.1, ?_, ι4, s5, acc ++ [y], vs ++ [v4], ((l'.trans l3).trans l4).updNone hDa, l4.sub _ (l3.sub _ hDM), d4.2, mf, upd_same, (Reps.monoK kf ((hacc.mono l3).mono l4)).append (.cons (Rep.monoK kf r4) .nil), by simp; omega, ?_⟩
                · have := fitL_le hfit
                  omega
                · cases e5 : lcLoop t gt ge (wipeD own ρ) (ds.drop (i + 1)) s5 with
                  | ok ys s6 => rw [e5] at h'; simpa using h'
                  | err x s6 => rw [e5] at h'; exact h'
                  | no => rw [e5] at h'; exact h'
      · refine .inl ⟨i2 i (by omega), ?_⟩
        rw [List.drop_eq_nil_of_le (by omega)] at h'
        simp only [lcLoop, R.bind_ok, List.append_nil] at h'
        obtain ⟨ls, ms⟩ := hm'.shut (p := Da) hDι
        exact h' _ _ H' (l1.trans (l'.shutNone hDa (hm1.ne hDa))) ms (.lst hD' (fun z => by simpa using (List.mem_filter.mp z).2) (Reps.monoK ls hacc))
    · exact h.elim

theorem je_lc {elt iter : Expr} {ifs : List Expr} {scope : Scope} {i : Nat} {x : Str} {tpos : Pos} {gi : GA} {gt : GT} {ge : GE} (hc : X.calm = true) (hN : X.N.Nodup) (hi : JI X ca W (.Name x tpos) iter gi) (ok : BlkOk X.N X.env.scope scope [(x, i)])
    (hg : ∀ (s : Shared) (H : Hp) (C : Addr) (cl : List (Str × Addr)) (fp : List Addr), PG (X.blk s H scope (compEnvC scope cl C X.env) fp) (.Name x tpos) (gName i))
    (ht : ∀ (s : Shared) (H : Hp) (C : Addr) (cl : List (Str × Addr)) (fp : List Addr), JTs (X.blk s H scope (compEnvC scope cl C X.env) fp) ca W0 ifs gt)
    (he : ∀ (s : Shared) (H : Hp) (C : Addr) (cl : List (Str × Addr)) (fp : List Addr), JE (X.blk s H scope (compEnvC scope cl C X.env) fp) ca W0 elt ge) (hs : ∀ x, foldedSetIterable iter X.env x = pure x := by intro _; rfl) :
    JE X ca W (.ListComp elt [⟨.Name x tpos, iter, ifs, 0⟩] scope pos) (gLc [i] gi (dName i) gt ge) :=
  PE.imp (pe_lc (own := [(x, i)]) (g := gName i) (wi := tI X.K ca W gi) (tt := tT X.K ca W0 gt) (te := tG X.K ca W0 ge) hc hN hi ok hg ht he hs) fun σ H Q h => tG_lc (own := [i]) (fun {ι H ρ ρ' σ d v Q} r rd e k => by
    cases e
    refine k _ (r.set rd i) ?_
    show ((wipe σ [i]).set i (some v)).set i none = (σ.set i none)
    show ((σ.set i none).set i (some v)).set i none = (σ.set i none)
    rw [List.set_set, List.set_set]) h

/-! ### defs -/
def spJ (K : PySem.W.Frag) (ca : Ct) (n : Nat) (F : List D → S → R D) : Sp := fun vs H Q E => ∃ ι ds s, Reps K ι H ds vs ∧ Sim K ca ι s H ∧ ds.length = n ∧ PostE K ca ι H (F ds s) Q E
def runF (n : Nat) (b : GS) : List D → S → R D := fun ds s => (b (ds.map some ++ List.replicate (n - ds.length) none) s).bind fun f s1 => match f with
  | .rt d => .ok d s1
  | .nx _ => .ok .non s1
  | _ => .no
theorem relS_start {K : PySem.W.Frag} {ι : Wd} {H : Hp} {ds : List D} {vs : List V} (N : List Str) (r : Reps K ι H ds vs) : RelS K ι H (ds.map some ++ List.replicate (N.length - ds.length) none) (L2.start N vs) := by
  have hl := r.length
  refine ⟨by simp [L2.start, hl], fun i d h => ?_⟩
  by_cases hi : i < ds.length
  · rw [List.getElem?_append_left (by simpa using hi), List.getElem?_map] at h
    cases e : ds[i]? with
    | none => rw [e] at h; cases h
    | some x =>
      rw [e] at h
      cases h
      obtain ⟨v, h1, h2⟩ := r.get e
      refine ⟨v, ?_, h2⟩
      unfold L2.start
      rw [List.getElem?_append_left (by rw [List.length_map, ← hl]; exact hi), List.getElem?_map, h1]
      rfl
  · rw [List.getElem?_append_right (by simpa using hi), List.getElem?_replicate] at h
    split at h <;> cases h
theorem fnJ {P : Program} {w : World} {K : PySem.W.Frag} {mg : Str → Option Value} {base : Heap} {x qual : Str} {f : Addr} {fd : FuncData} {N ps : List Str} {k : Nat} (F : Fun K x qual st f fd) (Sc : FnScope N ps (defScope st))
    (hb : ∀ (cdv : Value) (A : Around) (outer : List PySem.Env) (s : Shared) (H : Hp) (E : XK), Room k (A.deeper (envOfC qual (defScope st) s.heap.objs.size f cdv)) →
      JSs (cxOf (L2.CX P w) P w K mg base N qual (defScope st) f cdv A outer s H E) ca (fun cls d _ H => E cls d H) (defBody st) b) : FnOk P w K mg base (L2.CX P w) (k + 1) f fd ps (spJ K ca ps.length (runF N.length b)) := by
  refine F.okX Sc (fun vs H Q E ⟨ι, ds, s, hr, hm, hl, h⟩ => by rw [← hr.length, hl]) (fun cdv A outer s H vs Q E hr h => ⟨_, hb cdv A outer s H E hr, ?_⟩)
  obtain ⟨ι, ds, s', hrs, hm, hl, h⟩ := h
  refine ⟨ι, _, s', relS_start N hrs, hm, ?_⟩
  unfold runF at h
  cases e : b (ds.map some ++ List.replicate (N.length - ds.length) none) s' with
  | err y s1 => rw [e] at h; exact fun ι' cv dd H' σ' l m q => h ι' cv dd H' l m q
  | no => rw [e] at h; exact h
  | ok fl s1 =>
    rw [e] at h
    cases fl with
    | rt d => exact h
    | nx ρ => exact fun ι' σ' H' l m r => h ι' .non H' l m .non
    | bk ρ => exact h.elim
    | ct ρ => exact h.elim
/-- a def of the module, by its mirror -/
structure JFn (P : Program) (w : World) (K : PySem.W.Frag) (mg : Str → Option Value) (base : Heap) (ca : Ct) (k : Nat) (x : Str) (n : Nat) (F : List D → S → R D) : Prop where
  ex : ∃ f fd ps, mg x = some (.ref f) ∧ PySem.W.keepIn K (.ref f) = true ∧ Binds K fd ps [] ∧ ps.length = n ∧ FnOk P w K mg base (L2.CX P w) k f fd ps (spJ K ca n F)
theorem JFn.mono {P : Program} {w : World} {K : PySem.W.Frag} {mg : Str → Option Value} {base : Heap} {k j n : Nat} {x : Str} {F : List D → S → R D} (h : JFn P w K mg base ca k x n F) (l : k ≤ j) : JFn P w K mg base ca j x n F := by
  obtain ⟨f, fd, ps, a, b, c, d, e⟩ := h.ex
  exact ⟨f, fd, ps, a, b, c, d, e.mono l⟩
/-- another mirror that says no more -/
theorem JFn.imp {P : Program} {w : World} {K : PySem.W.Frag} {mg : Str → Option Value} {base : Heap} {k n : Nat} {x : Str} {F G : List D → S → R D} (h : JFn P w K mg base ca k x n F) (i : ∀ ds s, ds.length = n → G ds s = .no ∨ G ds s = F ds s) : JFn P w K mg base ca k x n G := by
  obtain ⟨f, fd, ps, a, b, c, d, e⟩ := h.ex
  refine ⟨f, fd, ps, a, b, c, d, e.imp fun vs H Q E ⟨ι, ds, s, hr, hm, hl, p⟩ => ⟨ι, ds, s, hr, hm, hl, ?_⟩⟩
  rcases i ds s hl with z | z
  · rw [z] at p; exact p.elim
  · rw [← z]; exact p
def gCall (n : Nat) (F : List D → S → R D) (gr : GA) : GE := fun ρ s => (gr ρ s).bind fun ds s1 => if ds.length = n then F ds s1 else .no
theorem je_call {x : Str} {p : Pos} {k n : Nat} {F : List D → S → R D} {gr : GA} (h : JFn X.prog X.w X.K X.mg X.base ca k x n F) (hr : Room k X.A) (tk : Takes X W) (ha : JA X ca W (e :: es) gr) (hg : Gl X x := by rfl) (hdb : (x == ("__debug__" : Str)) = false := by decide)
    (he : starEach (e :: es) X.env = (false, eval e X.env) :: starEach es X.env := by rfl) (hpl : (backTo pos (starEach es X.env)).any (·.1) = false := by rfl) : JE X ca W (.Call (.Name x p) (e :: es) [] pos) (gCall n F gr) := by
  obtain ⟨f, fd, ps, hm, hk, hb, hn, F⟩ := h.ex
  refine PE.imp (pe_callS F hr hg hm hk hb (fun σ => passAt tk σ) ha hdb he hpl) fun σ H Q ⟨ι, ρ, s, hrs, hms, h⟩ => bindA famE hrs hms h fun ι1 s1 ds vs H1 l1 hr1 hm1 rs h1 => ?_
  split at h1
  · rename_i hl
    exact ⟨ι1, ds, s1, rs, hm1, hl, h1⟩
  · exact h1.elim
/-- f() -/
theorem pe_callS0 {CX : CXT} {k : Nat} {f : Addr} {fd : FuncData} {ps : List Str} {sp : Sp} {E : L2.St → XK} {x : Str} {p : Pos} (F : FnOk X.prog X.w X.K X.mg X.base CX k f fd ps sp) (hr : Room k X.A) (hg : Gl X x) (hm : X.mg x = some (.ref f)) (hk : PySem.W.keepIn X.K (.ref f) = true) (hb : Binds X.K fd ps []) (hx : ∀ σ, PassesAt CX X σ (E σ))
    (hdb : (x == ("__debug__" : Str)) = false := by decide) : PE X (.Call (.Name x p) [] [] pos) (tCallS sp E tNil) := by
  refine ⟨fun pins s σ H Q I h => ?_⟩
  refine wpAny_Call_Name_kw (ld_glob I hg hm ?_ hdb)
  exact PySem.W.callWith_K0 I.kIn hk (run_fnS (us := []) F hr hb (hx σ) I .nil h)
theorem je_call0 {x : Str} {p : Pos} {k : Nat} {F : List D → S → R D} (h : JFn X.prog X.w X.K X.mg X.base ca k x 0 F) (hr : Room k X.A) (tk : Takes X W) (hg : Gl X x := by rfl) (hdb : (x == ("__debug__" : Str)) = false := by decide) : JE X ca W (.Call (.Name x p) [] [] pos) (gCall 0 F gaNil) := by
  obtain ⟨f, fd, ps, hm, hk, hb, hn, F⟩ := h.ex
  refine PE.imp (pe_callS0 F hr hg hm hk hb (fun σ => passAt tk σ) hdb) fun σ H Q ⟨ι, ρ, s, hrs, hms, h⟩ => ⟨ι, [], s, .nil, hms, rfl, h⟩
end
end J


set_option Elab.async false
set_option linter.all false
set_option maxRecDepth 100000
set_option maxHeartbeats 4000000
/-! J4: built-ins by values; slices; stores into lists. -/
namespace J
open PySem PySem.Spec L2

theorem bt_len : bootBuiltins "len" = some (.builtin "len") := by decide +kernel
theorem bt_isinstance : bootBuiltins "isinstance" = some (.builtin "isinstance") := by decide +kernel
theorem bt_all : bootBuiltins "all" = some (.builtin "all") := by decide +kernel
theorem bt_any : bootBuiltins "any" = some (.builtin "any") := by decide +kernel
theorem bt_sum : bootBuiltins "sum" = some (.builtin "sum") := by decide +kernel
theorem bt_min : bootBuiltins "min" = some (.builtin "min") := by decide +kernel
theorem bt_sorted : bootBuiltins "sorted" = some (.builtin "sorted") := by decide +kernel
theorem bt_int : bootBuiltins "int" = some (.type "int") := by decide +kernel
theorem bt_str : bootBuiltins "str" = some (.type "str") := by decide +kernel
theorem bt_bool : bootBuiltins "bool" = some (.type "bool") := by decide +kernel
theorem bt_tuple : bootBuiltins "tuple" = some (.type "tuple") := by decide +kernel
theorem bt_list : bootBuiltins "list" = some (.type "list") := by decide +kernel
theorem bt_dict : bootBuiltins "dict" = some (.type "dict") := by decide +kernel
theorem bt_set : bootBuiltins "set" = some (.type "set") := by decide +kernel

section
variable {K : PySem.W.Frag} {ca : Ct} {ι ι' : Wd} {H H' : Hp} {s : S}
/-! ### isinstance -/
def tyD (s : S) : D → Option String
  | .non => some "NoneType"
  | .bl _ => some "bool"
  | .int _ => some "int"
  | .str _ => some "str"
  | .tup _ => some "tuple"
  | .lst _ => some "list"
  | .frz _ => some "list"
  | .obj n => match s[n]? with | some (.lst _) => some "list" | some (.dic _) => some "dict" | _ => none
  | .ty _ => none
  | .raw _ => none
def tyKnown : List String := ["NoneType", "bool", "int", "str", "tuple", "list", "dict"]
def isT (t c : String) : Bool := t == c || (t == "bool" && c == "int")
theorem isT_ok : ∀ t ∈ tyKnown, ∀ c ∈ tyKnown, kitB t c = some (isT t c) := by decide +kernel
theorem tyD_known {d : D} {t : String} (h : tyD s d = some t) : t ∈ tyKnown := by
  unfold tyD at h
  split at h
  all_goals first
    | (cases h; decide)
    | (cases h; done)
    | (split at h <;> first | (cases h; decide) | (cases h; done))
theorem Sim.tyx (m : Sim K ca ι s H) {d : D} {v : V} {t : String} (r : Rep K ι H d v) (h : tyD s d = some t) : TyX K H v (.type t) := by
  cases r with
  | non => cases h; exact .base .non
  | bl b => cases h; exact .base (.bl b)
  | int b => cases h; exact .base (.int b)
  | str b => cases h; exact .base (.str b)
  | ty n => cases h
  | raw n => cases h
  | tup h1 h2 =>
    cases h
    rcases h1 with h1 | ⟨o, its, n, h1, h3, _⟩
    · exact .base (.tup h1)
    · exact .kTuple h1 h3
  | lst h1 _ _ => cases h; exact .base (.lst h1)
  | frz h1 _ =>
    cases h
    rcases h1 with ⟨o, h1⟩ | ⟨o, its, n, h1, h3, _⟩
    · exact .base (.frz h1)
    · exact .kList h1 h3
  | frz2 h1 _ _ => cases h; exact .base (.lst h1)
  | @obj a n h1 =>
    simp only [tyD] at h
    split at h
    · rename_i e; cases h
      obtain ⟨vs, h2, _⟩ := m.ob n a _ h1 e
      exact .base (.lst h2)
    · rename_i e; cases h
      obtain ⟨vs, h2, _⟩ := m.ob n a _ h1 e
      exact .base (.dK h2)
    · cases h
def tysD : List D → Option (List String)
  | [] => some []
  | .ty n :: ds => (tysD ds).map (n :: ·)
  | _ :: _ => none
def known (c : String) : Bool := tyKnown.any (· == c)
theorem known_mem {c : String} (h : known c = true) : c ∈ tyKnown := by
  obtain ⟨x, hx, e⟩ := List.any_eq_true.mp h
  rw [← eq_of_beq e]; exact hx
def fIsi (s : S) : List D → Option D
  | [x, .ty c] => (tyD s x).bind fun t => if known c then some (.bl (isT t c)) else none
  | [x, .tup cs] => (tyD s x).bind fun t => (tysD cs).bind fun ns => if ns.all known then some (.bl (ns.any (isT t))) else none
  | _ => none
theorem kitAny_all {t : String} (ht : t ∈ tyKnown) : ∀ {ns : List String}, ns.all known = true → PySem.W.kitAny K (.type t) (ns.map Value.type) = some (ns.any (isT t))
  | [], _ => rfl
  | n :: ns, h => by
    simp only [List.all_cons, Bool.and_eq_true] at h
    refine kitAny_cons (kit_ty (isT_ok t ht n (known_mem h.1))) (fun e => ?_) fun e => ?_
    · rw [List.any_cons, e, Bool.false_or]; exact kitAny_all ht h.2
    · rw [List.any_cons, e, Bool.true_or]
theorem reps_tys : ∀ {ds : List D} {vs : List V} {ns : List String}, Reps K ι H ds vs → tysD ds = some ns → vs = ns.map V.ty
  | _, _, _, .nil, h => by cases h; rfl
  | .ty n :: ds, _, _, .cons r t, h => by
    cases r
    simp only [tysD, Option.map_eq_some_iff] at h
    obtain ⟨ms, e, rfl⟩ := h
    rw [reps_tys t e]; rfl
  | .non :: _, _, _, .cons _ _, h => by cases h
  | .bl _ :: _, _, _, .cons _ _, h => by cases h
  | .int _ :: _, _, _, .cons _ _, h => by cases h
  | .str _ :: _, _, _, .cons _ _, h => by cases h
  | .tup _ :: _, _, _, .cons _ _, h => by cases h
  | .lst _ :: _, _, _, .cons _ _, h => by cases h
  | .frz _ :: _, _, _, .cons _ _, h => by cases h
  | .obj _ :: _, _, _, .cons _ _, h => by cases h
  | .raw _ :: _, _, _, .cons _ _, h => by cases h
theorem clsV_tys : ∀ ns : List String, Paired ClsV (ns.map V.ty) (ns.map Value.type)
  | [] => .nil
  | n :: ns => .cons (.ty n) (clsV_tys ns)
theorem vals_tys : ∀ {ns : List String} {us : List Value}, Vals (ns.map V.ty) us → us = ns.map Value.type
  | [], _, h => by cases h; rfl
  | n :: ns, _, h => by
    cases h with
    | cons r t => cases (show _ = _ from r); rw [vals_tys t]; rfl
end
section
variable {X : Cx} {ca : Ct} {W : WX} {e : Expr} {es : List Expr} {pos : Pos}
theorem cj_isinstance : CallR X (.builtin "isinstance") (rCJ X.K ca fIsi) := by
  refine CallR.imp ((call_isi.or call_isiT).or call_isiK) fun vs H Q ⟨ι, s, ds, x, m, rs, hf, q⟩ => ?_
  unfold fIsi at hf
  split at hf
  · rename_i d c
    cases rs with
    | cons r1 rs =>
      cases rs with
      | cons r2 rs =>
        cases rs
        cases r2
        simp only [Option.bind_eq_some_iff] at hf
        obtain ⟨t, ht, hf⟩ := hf
        split at hf
        · rename_i hk
          cases hf
          exact .inl (.inl ⟨_, _, _, _, _, rfl, .ty c, m.tyx r1 ht, kit_ty (isT_ok t (tyD_known ht) c (known_mem hk)), q _ _ _ .refl m (.bl _)⟩)
        · cases hf
  · rename_i d cs
    cases rs with
    | cons r1 rs =>
      cases rs with
      | cons r2 rs =>
        cases rs
        simp only [Option.bind_eq_some_iff] at hf
        obtain ⟨t, ht, ns, hn, hf⟩ := hf
        split at hf
        · rename_i hk
          cases hf
          cases r2 with
          | tup h1 h2 =>
            have ev := reps_tys h2 hn
            subst ev
            rcases h1 with h1 | ⟨o, its, n, h1, h3, h4, h5, h6⟩
            · exact .inl (.inr ⟨_, _, _, _, _, _, rfl, h1, clsV_tys ns, m.tyx r1 ht, kitAny_all (tyD_known ht) hk, q _ _ _ .refl m (.bl _)⟩)
            · obtain ⟨oc, od, dt, sl⟩ := o
              simp only at h3 h4
              subst h3 h4
              have eu := vals_tys h6
              exact .inr ⟨_, _, od, ns.map Value.type, n, sl, _, _, rfl, by rw [h1, ← eu], m.tyx r1 ht, kitAny_all (tyD_known ht) hk, q _ _ _ .refl m (.bl _)⟩
        · cases hf
  · cases hf

/-! ### len, int, str, all, any, sum, tuple, list, min -/
def f1 (f : S → D → Option D) (s : S) : List D → Option D
  | [x] => f s x
  | _ => none
theorem cj1 {fn : Value} {r : List V → Hp → VK → Prop} {f : S → D → Option D} (h : CallR X fn r)
    (i : ∀ (ι : Wd) (s : S) (H : Hp) (d : D) (v : V) (x : D) (Q : VK), Sim X.K ca ι s H → Rep X.K ι H d v → f s d = some x → (∀ ι' v' H', Le ι H ι' H' → Sim X.K ca ι' s H' → Rep X.K ι' H' x v' → Q v' H') → r [v] H Q) : CallR X fn (rCJ X.K ca (f1 f)) :=
  CallR.imp h fun vs H Q ⟨ι, s, ds, x, m, rs, hf, q⟩ => by
    cases rs with
    | nil => cases hf
    | cons r1 rs =>
      cases rs with
      | nil => exact i ι s H _ _ x Q m r1 hf q
      | cons _ _ => cases hf
theorem cj_len : CallR X (.builtin "len") (rCJ X.K ca (f1 fLen)) := by
  refine cj1 (call_len_seq.or call_len_str) fun ι s H d v x Q m r hf q => ?_
  have lists : ∀ {ds : List D}, itemsL s d = some ds → x = .int ds.length → ∃ p ys, [v] = [V.ref p] ∧ (SqL X.K H p ys ∨ SqT X.K H p ys) ∧ Q (.int ys.length) H := fun {ds} hi e => by
    subst e
    obtain ⟨a, vs, rfl, h1, h2⟩ := m.items r hi
    exact ⟨_, _, rfl, .inl h1, by rw [← h2.length]; exact q _ _ _ .refl m (.int _)⟩
  cases r with
  | str z =>
    simp only [fLen] at hf
    split at hf
    · rename_i hl
      cases hf
      exact .inr ⟨_, rfl, fitL_le hl, q _ _ _ .refl m (.int _)⟩
    · cases hf
  | tup h1 h2 => cases hf; exact .inl ⟨_, _, rfl, .inr h1.sq, by rw [← h2.length]; exact q _ _ _ .refl m (.int _)⟩
  | non => simp [fLen, itemsL] at hf
  | bl _ => simp [fLen, itemsL] at hf
  | int _ => simp [fLen, itemsL] at hf
  | ty _ => simp [fLen, itemsL] at hf
  | raw _ => simp [fLen, itemsL] at hf
  | @lst a vs ds _ _ _ => exact .inl (lists (ds := ds) rfl (by simpa [fLen, itemsL] using hf.symm))
  | @frz a vs ds _ _ => exact .inl (lists (ds := ds) rfl (by simpa [fLen, itemsL] using hf.symm))
  | @frz2 a vs ds _ _ _ => exact .inl (lists (ds := ds) rfl (by simpa [fLen, itemsL] using hf.symm))
  | @obj a n _ =>
    cases e : itemsL s (.obj n) with
    | none => simp [fLen, e] at hf
    | some ds => exact .inl (lists e (by simpa [fLen, e] using hf.symm))
def fInt (_ : S) : D → Option D
  | .int i => some (.int i)
  | .bl b => some (.int (if b then 1 else 0))
  | _ => none
theorem cj_int : CallR X (.type "int") (rCJ X.K ca (f1 fInt)) := by
  refine cj1 call_int1 fun ι s H d v x Q m r hf q => ?_
  cases r <;> simp only [fInt] at hf <;> first | cases hf | skip
  · exact .inr ⟨_, rfl, q _ _ _ .refl m (.int _)⟩
  · exact .inl ⟨_, rfl, q _ _ _ .refl m (.int _)⟩
def blsD : List D → Option (List Bool)
  | [] => some []
  | .bl b :: ds => (blsD ds).map (b :: ·)
  | _ :: _ => none
theorem blsD_eq : ∀ {ds : List D} {bs : List Bool}, blsD ds = some bs → ds = bs.map D.bl
  | [], _, h => by cases h; rfl
  | .bl b :: ds, _, h => by
    simp only [blsD, Option.map_eq_some_iff] at h
    obtain ⟨ms, e, rfl⟩ := h
    rw [blsD_eq e]; rfl
  | .non :: _, _, h => by cases h
  | .ty _ :: _, _, h => by cases h
  | .int _ :: _, _, h => by cases h
  | .str _ :: _, _, h => by cases h
  | .tup _ :: _, _, h => by cases h
  | .lst _ :: _, _, h => by cases h
  | .frz _ :: _, _, h => by cases h
  | .obj _ :: _, _, h => by cases h
  | .raw _ :: _, _, h => by cases h
def intsD : List D → Option (List Int)
  | [] => some []
  | .int b :: ds => (intsD ds).map (b :: ·)
  | _ :: _ => none
theorem intsD_eq : ∀ {ds : List D} {bs : List Int}, intsD ds = some bs → ds = bs.map D.int
  | [], _, h => by cases h; rfl
  | .int b :: ds, _, h => by
    simp only [intsD, Option.map_eq_some_iff] at h
    obtain ⟨ms, e, rfl⟩ := h
    rw [intsD_eq e]; rfl
  | .non :: _, _, h => by cases h
  | .ty _ :: _, _, h => by cases h
  | .bl _ :: _, _, h => by cases h
  | .str _ :: _, _, h => by cases h
  | .tup _ :: _, _, h => by cases h
  | .lst _ :: _, _, h => by cases h
  | .frz _ :: _, _, h => by cases h
  | .obj _ :: _, _, h => by cases h
  | .raw _ :: _, _, h => by cases h
def fAll (s : S) (x : D) : Option D := (itemsL s x).bind fun ds => (blsD ds).map fun bs => .bl (bs.all id)
def fAny (s : S) (x : D) : Option D := (itemsL s x).bind fun ds => (blsD ds).map fun bs => .bl (bs.any id)
def fSum (s : S) (x : D) : Option D := (itemsL s x).bind fun ds => (intsD ds).map fun ns => .int ns.sum
theorem cj_all (hc : X.calm = true) : CallR X (.builtin "all") (rCJ X.K ca (f1 fAll)) := by
  refine cj1 (cr_all hc) fun ι s H d v x Q m r hf q => ?_
  simp only [fAll, Option.bind_eq_some_iff, Option.map_eq_some_iff] at hf
  obtain ⟨ds, hi, bs, hb, rfl⟩ := hf
  obtain ⟨a, vs, rfl, h1, h2⟩ := m.items r hi
  rw [blsD_eq hb] at h2
  rw [Reps.bls h2] at h1
  exact ⟨_, _, rfl, h1, q _ _ _ .refl m (.bl _)⟩
theorem cj_any (hc : X.calm = true) : CallR X (.builtin "any") (rCJ X.K ca (f1 fAny)) := by
  refine cj1 (cr_any hc) fun ι s H d v x Q m r hf q => ?_
  simp only [fAny, Option.bind_eq_some_iff, Option.map_eq_some_iff] at hf
  obtain ⟨ds, hi, bs, hb, rfl⟩ := hf
  obtain ⟨a, vs, rfl, h1, h2⟩ := m.items r hi
  rw [blsD_eq hb] at h2
  rw [Reps.bls h2] at h1
  exact ⟨_, _, rfl, h1, q _ _ _ .refl m (.bl _)⟩
theorem cj_sum (hc : X.calm = true) : CallR X (.builtin "sum") (rCJ X.K ca (f1 fSum)) := by
  refine cj1 (cr_sum hc) fun ι s H d v x Q m r hf q => ?_
  simp only [fSum, Option.bind_eq_some_iff, Option.map_eq_some_iff] at hf
  obtain ⟨ds, hi, bs, hb, rfl⟩ := hf
  obtain ⟨a, vs, rfl, h1, h2⟩ := m.items r hi
  rw [intsD_eq hb] at h2
  rw [Reps.ints h2] at h1
  exact ⟨_, _, rfl, h1, q _ _ _ .refl m (.int _)⟩
def fTuple (s : S) (x : D) : Option D := match x with
  | .tup ds => some (.tup ds)
  | x => (itemsL s x).map .tup
theorem cj_tuple : CallR X (.type "tuple") (rCJ X.K ca (f1 fTuple)) := by
  refine cj1 call_tuple_of fun ι s H d v x Q m r hf q => ?_
  have lists : ∀ {ds : List D}, itemsL s d = some ds → x = .tup ds → ∃ p ys, [v] = [V.ref p] ∧ ((SqL X.K H p ys ∧ ∀ l, H l = none → Q (.ref l) (upd H l (.tup ys))) ∨ (SqT X.K H p ys ∧ Q (.ref p) H)) := fun {ds} hi e => by
    subst e
    obtain ⟨a, vs, rfl, h1, h2⟩ := m.items r hi
    refine ⟨_, _, rfl, .inl ⟨h1, fun p hp => ?_⟩⟩
    obtain ⟨l, m'⟩ := m.new (o := .tup vs) hp
    exact q _ _ _ l m' (.tup (.inl upd_same) (h2.mono l))
  cases r with
  | tup h1 h2 => cases hf; exact ⟨_, _, rfl, .inr ⟨h1.sq, q _ _ _ .refl m (.tup h1 h2)⟩⟩
  | @lst a vs ds _ _ _ => exact lists (ds := ds) rfl (by simpa [fTuple, itemsL] using hf.symm)
  | @frz a vs ds _ _ => exact lists (ds := ds) rfl (by simpa [fTuple, itemsL] using hf.symm)
  | @frz2 a vs ds _ _ _ => exact lists (ds := ds) rfl (by simpa [fTuple, itemsL] using hf.symm)
  | @obj a n _ =>
    cases e : itemsL s (.obj n) with
    | none => simp [fTuple, e] at hf
    | some ds => exact lists e (by simpa [fTuple, e] using hf.symm)
  | _ => simp [fTuple, itemsL] at hf
def fList (s : S) (x : D) : Option D := match x with
  | .tup ds => some (.lst ds)
  | x => (itemsL s x).map .lst
theorem cj_list : CallR X (.type "list") (rCJ X.K ca (f1 fList)) := by
  refine cj1 call_list_of fun ι s H d v x Q m r hf q => ?_
  have fin : ∀ {ds : List D} {vs : List V}, Reps X.K ι H ds vs → x = .lst ds → ∀ l, H l = none → Q (.ref l) (upd H l (.lst vs)) := fun {ds vs} h2 e p hp => by
    subst e
    obtain ⟨l, m'⟩ := m.new (o := .lst vs) hp
    exact q _ _ _ l m' (.lst upd_same (m.ne hp) (h2.mono l))
  have lists : ∀ {ds : List D}, itemsL s d = some ds → x = .lst ds → ∃ p ys, [v] = [V.ref p] ∧ (SqL X.K H p ys ∨ SqT X.K H p ys) ∧ ∀ l, H l = none → Q (.ref l) (upd H l (.lst ys)) := fun {ds} hi e => by
    obtain ⟨a, vs, rfl, h1, h2⟩ := m.items r hi
    exact ⟨_, _, rfl, .inl h1, fin h2 e⟩
  cases r with
  | tup h1 h2 => cases hf; exact ⟨_, _, rfl, .inr h1.sq, fin h2 rfl⟩
  | @lst a vs ds _ _ _ => exact lists (ds := ds) rfl (by simpa [fList, itemsL] using hf.symm)
  | @frz a vs ds _ _ => exact lists (ds := ds) rfl (by simpa [fList, itemsL] using hf.symm)
  | @frz2 a vs ds _ _ _ => exact lists (ds := ds) rfl (by simpa [fList, itemsL] using hf.symm)
  | @obj a n _ =>
    cases e : itemsL s (.obj n) with
    | none => simp [fList, e] at hf
    | some ds => exact lists e (by simpa [fList, e] using hf.symm)
  | _ => simp [fList, itemsL] at hf
def fMin (_ : S) : List D → Option D
  | [.int i, .int j] => some (.int (if j < i then j else i))
  | _ => none
theorem cj_min (hc : X.calm = true) : CallR X (.builtin "min") (rCJ X.K ca fMin) := by
  refine CallR.imp (call_min2 hc) fun vs H Q ⟨ι, s, ds, x, m, rs, hf, q⟩ => ?_
  unfold fMin at hf
  split at hf
  · cases hf
    cases rs with
    | cons r1 rs =>
      cases rs with
      | cons r2 rs =>
        cases rs
        cases r1
        cases r2
        exact ⟨_, _, rfl, q _ _ _ .refl m (.int _)⟩
  · cases hf

/-! ### slices -/
def cutD (xs : List D) (lo hi : Option Int) : List D := (xs.drop (HT.sIx xs.length 0 lo)).take (HT.sIx xs.length xs.length hi - HT.sIx xs.length 0 lo)
def fSl (s : S) (x : D) (lo hi : Option Int) : Option D := match x with
  | .tup ds => some (.tup (cutD ds lo hi))
  | x => (itemsL s x).map fun ds => .lst (cutD ds lo hi)
abbrev GO := Env → S → R (Option Int)
def goNone : GO := fun _ s => .ok none s
def goSome (g : GE) : GO := fun ρ s => (g ρ s).bind fun d s1 => match d with | .int i => .ok (some i) s1 | _ => .no
def gSl (g : GE) (lo hi : GO) : GE := fun ρ s => (g ρ s).bind fun x s1 => (lo ρ s1).bind fun l s2 => (hi ρ s2).bind fun h s3 => R.ofO (fSl s3 x l h) s3
def PostO (K : PySem.W.Frag) (ca : Ct) (ι : Wd) (H : Hp) (r : R (Option Int)) (Q : Option Int → Hp → Prop) (E : XK) : Prop := match r with
  | .ok b s' => ∀ ι' H', Le ι H ι' H' → Sim K ca ι' s' H' → Q b H'
  | .err e s' => ∀ ι' cv dd H', Le ι H ι' H' → Sim K ca ι' s' H' → RepX K ca ι' H' e cv dd → E cv dd H'
  | .no => False
def tO (K : PySem.W.Frag) (ca : Ct) (W : WX) (g : GO) : TO := fun σ H Q => ∃ ι ρ s, RelS K ι H ρ σ ∧ Sim K ca ι s H ∧ PostO K ca ι H (g ρ s) Q (fun cv dd H' => W cv dd σ H')
def JO (X : Cx) (ca : Ct) (W : WX) (e : Option Expr) (g : GO) : Prop := PO X e (tO X.K ca W g)
theorem famO {K : PySem.W.Frag} {E : XK} {Q : Option Int → Hp → Prop} : Fam K ca E (fun ι H r => PostO K ca ι H r Q E) := ⟨fun {ι H ι' H' r} h l => by
  cases r with
  | ok d s => exact fun ι2 H2 l2 m => h ι2 H2 (l.trans l2) m
  | err e s => exact fun ι2 cv dd H2 l2 m q => h ι2 cv dd H2 (l.trans l2) m q
  | no => exact h, fun h => h, fun h => h⟩
theorem PO.imp {e : Option Expr} {t t' : TO} (h : PO X e t) (i : ∀ σ H Q, t' σ H Q → t σ H Q) : PO X e t' := ⟨fun pins s σ H Q I q => h.run pins s σ H Q I (i _ _ _ q)⟩
theorem jo_none : JO X ca W none goNone := PO.imp po_none fun σ H Q ⟨ι, ρ, s, hr, hm, h⟩ => h ι H .refl hm
theorem jo_some {g : GE} (h : JE X ca W e g) : JO X ca W (some e) (goSome g) := PO.imp (po_some h) fun σ H Q ⟨ι, ρ, s, hr, hm, h⟩ => bindE famO hr hm h fun ι1 s1 d v H1 l1 hr1 hm1 rd h1 => by
  cases rd with
  | int i => exact ⟨i, rfl, h1 ι1 H1 .refl hm1⟩
  | _ => exact h1.elim
theorem bindO {β : Type} {Φ : Wd → Hp → R β → Prop} {K : PySem.W.Frag} {ι : Wd} {H : Hp} {ρ : Env} {σ : L2.St} {s : S} {g : GO} {k : Option Int → S → R β} {Rr : Option Int → Hp → Prop} (F : Fam K ca (fun cv dd H' => W cv dd σ H') Φ) (hr : RelS K ι H ρ σ) (hm : Sim K ca ι s H) (h : Φ ι H ((g ρ s).bind k))
    (step : ∀ ι' s' b H', Le ι H ι' H' → RelS K ι' H' ρ σ → Sim K ca ι' s' H' → Φ ι' H' (k b s') → Rr b H') : tO K ca W g σ H Rr := by
  refine ⟨ι, ρ, s, hr, hm, ?_⟩
  cases e : g ρ s with
  | ok d s' =>
    rw [e] at h
    exact fun ι' H' l m => step ι' s' d H' l (hr.mono l) m (F.mono h l)
  | err x s' =>
    rw [e] at h
    exact F.err h
  | no =>
    rw [e] at h
    exact F.no h
theorem Reps.cut {K : PySem.W.Frag} {ι : Wd} {H : Hp} {ds : List D} {vs : List V} (r : Reps K ι H ds vs) (lo hi : Option Int) : Reps K ι H (cutD ds lo hi) (cutV vs lo hi) := by
  unfold cutD cutV
  rw [r.length]
  exact (r.drop _).take _
theorem SlR.imp {r r' : V → Option Int → Option Int → Hp → VK → Prop} (h : SlR X r) (i : ∀ v lo hi H Q, r' v lo hi H Q → r v lo hi H Q) : SlR X r' := fun pins s σ H x v vl vu lo hi sl Q I rx hs pl pu q => h pins s σ H x v vl vu lo hi sl Q I rx hs pl pu (i _ _ _ _ _ q)
theorem je_slice {lo hi : Option Expr} {p2 : Pos} {g : GE} {gl gh : GO} (he : JE X ca W e g) (hl : JO X ca W lo gl) (hh : JO X ca W hi gh) : JE X ca W (.Subscript e (.Slice lo hi none p2) pos) (gSl g gl gh) := by
  refine PE.imp (pe_slice (sl_tupA.or sl_list) he hl hh) fun σ H Q ⟨ι, ρ, s, hr, hm, h⟩ => bindE famE hr hm h fun ι1 s1 d v H1 l1 hr1 hm1 rd h1 => bindO famE hr1 hm1 h1 fun ι2 s2 lo H2 l2 hr2 hm2 h2 => bindO famE hr2 hm2 h2 fun ι3 s3 hi H3 l3 hr3 hm3 h3 => ?_
  have rd := (rd.mono l2).mono l3
  cases e : fSl s3 d lo hi with
  | none => rw [e] at h3; exact h3.elim
  | some x =>
    rw [e] at h3
    have lists : ∀ {ds : List D}, itemsL s3 d = some ds → x = .lst (cutD ds lo hi) → rSlL X.K v lo hi H3 Q := fun {ds} hi' ex => by
      subst ex
      obtain ⟨a, vs, rfl, k1, k2⟩ := hm3.items rd hi'
      refine ⟨_, _, rfl, k1, fun p hp => ?_⟩
      obtain ⟨l, m'⟩ := hm3.new (o := .lst (cutV vs lo hi)) hp
      exact h3 _ _ _ l m' (.lst upd_same (hm3.ne hp) ((k2.cut lo hi).mono l))
    cases rd with
    | @tup a vs ds k1 k2 =>
      cases e
      refine .inl ⟨_, _, rfl, k1.sq, fun hw => ?_, fun hw p hp => ?_⟩
      · have hc : cutD ds lo hi = ds := by
          unfold cutD
          rw [k2.length, hw.1, hw.2, List.drop_zero, Nat.sub_zero, ← k2.length, List.take_length]
        refine h3 _ _ _ .refl hm3 ?_
        rw [hc]
        exact .tup k1 k2
      · obtain ⟨l, m'⟩ := hm3.new (o := .tup (cutV vs lo hi)) hp
        exact h3 _ _ _ l m' (.tup (.inl upd_same) ((k2.cut lo hi).mono l))
    | @lst a vs ds _ _ _ => exact .inr (lists (ds := ds) rfl (by simpa [fSl, itemsL] using e.symm))
    | @frz a vs ds _ _ => exact .inr (lists (ds := ds) rfl (by simpa [fSl, itemsL] using e.symm))
    | @frz2 a vs ds _ _ _ => exact .inr (lists (ds := ds) rfl (by simpa [fSl, itemsL] using e.symm))
    | @obj a n _ =>
      cases e' : itemsL s3 (.obj n) with
      | none => simp [fSl, e'] at e
      | some ds => exact .inr (lists e' (by simpa [fSl, e'] using e.symm))
    | _ => simp [fSl, itemsL] at e

/-! ### a list's item stored -/
def putL (s : S) (o i x : D) : Option S := match o, i with
  | .obj n, .int k => match s[n]? with
    | some (.lst ds) => (ixN ds.length k).map fun j => s.set n (.lst (ds.set j x))
    | _ => none
  | _, _ => none
def sSetIx (ge go gi : GE) : GS := fun ρ s => (ge ρ s).bind fun x s1 => (go ρ s1).bind fun o s2 => (gi ρ s2).bind fun i s3 => match putL s3 o i x with
  | some s4 => .ok (.nx ρ) s4
  | none => .no
theorem js_setIx {o i : Expr} {ge go gi : GE} {tpos : Pos} (he : JE X ca W e ge) (ho : JE X ca W o go) (hi : JE X ca W i gi)
    (ha : ∀ v, assign (.Subscript o i tpos) X.env v = (do
      let ov ← holding [v] (eval o X.env)
      let iv ← holding [v, ov] (eval i X.env)
      standAt tpos
      holding [v, ov, iv] (setItem ov iv v)
      release [v, ov, iv] []) := by intro _; rfl) (hs : swapsWithSole [.Subscript o i tpos] e pos.line X.env = pure false := by rfl) (hw : swappedStores [.Subscript o i tpos] e X.env = pure none := by rfl)
    (h1 : (assignEach [.Subscript o i tpos] X.env).map (·.2) = [assign (.Subscript o i tpos) X.env] := by rfl) : JS X ca W (.Assign [.Subscript o i tpos] e pos) (sSetIx ge go gi) := by
  refine PS.imp (ps_asg he (pg_sub ho hi set_list ha) hs hw h1) fun D σ H ⟨ι, ρ, s, hr, hm, h⟩ => bindE famS hr hm h fun ι1 s1 x v H1 l1 hr1 hm1 rx h1 => bindE famS hr1 hm1 h1 fun ι2 s2 o ov H2 l2 hr2 hm2 ro h2 => bindE famS hr2 hm2 h2 fun ι3 s3 i iv H3 l3 hr3 hm3 ri h3 => ?_
  cases e : putL s3 o i x with
  | none => rw [e] at h3; exact h3.elim
  | some s4 =>
    rw [e] at h3
    have ro := ro.mono l3
    have rx := (rx.mono l2).mono l3
    cases ro with
    | @obj a n hn =>
      cases ri with
      | int k =>
        simp only [putL] at e
        split at e
        · rename_i ds hds
          simp only [Option.map_eq_some_iff] at e
          obtain ⟨j, hj, rfl⟩ := e
          obtain ⟨vs, k1, k2⟩ := hm3.ob n _ _ hn hds
          refine ⟨_, _, _, j, rfl, rfl, k1, by rw [← k2.length]; exact hj, ?_⟩
          obtain ⟨l, m'⟩ := hm3.write (o := .lst (vs.set j v)) (u := .lst (ds.set j x)) hn trivial fun l => ⟨_, upd_same, (k2.mono l).set (rx.mono l) j⟩
          exact h3 _ _ _ l m' (hr3.mono l)
        · cases e
      | _ => simp [putL] at e
    | _ => simp [putL] at e

/-- name = [..] on one line, the name a local -/
theorem js_setLc (j : Nat) {y : Str} {py : Pos} {elt iter : Expr} {ifs : List Expr} {scope : Scope} {i : Nat} {x : Str} {tpos lpos : Pos} {gi : GA} {gt : GT} {ge : GE} (hc : X.calm = true) (hN : X.N.Nodup) (hi : JI X ca W (.Name x tpos) iter gi) (ok : BlkOk X.N X.env.scope scope [(x, i)])
    (hg : ∀ (s : Shared) (H : Hp) (C : Addr) (cl : List (Str × Addr)) (fp : List Addr), PG (X.blk s H scope (compEnvC scope cl C X.env) fp) (.Name x tpos) (gName i))
    (ht : ∀ (s : Shared) (H : Hp) (C : Addr) (cl : List (Str × Addr)) (fp : List Addr), JTs (X.blk s H scope (compEnvC scope cl C X.env) fp) ca W0 ifs gt)
    (he : ∀ (s : Shared) (H : Hp) (C : Addr) (cl : List (Str × Addr)) (fp : List Addr), JE (X.blk s H scope (compEnvC scope cl C X.env) fp) ca W0 elt ge)
    (hsw : swapsWith (.ListComp elt [⟨.Name x tpos, iter, ifs, 0⟩] scope lpos) (some (.Name y py)) pos.line X.env = pure true) (hy : X.N[j]? = some y := by rfl) (hyl : X.env.scope.names.lookup y = some .local := by rfl)
    (hs : ∀ x, foldedSetIterable iter X.env x = pure x := by intro _; rfl) :
    JS X ca W (.Assign [.Name y py] (.ListComp elt [⟨.Name x tpos, iter, ifs, 0⟩] scope lpos) pos) (sAsg (gLc [i] gi (dName i) gt ge) (dName j)) :=
  PS.imp (ps_setLc (i := j) (own := [(x, i)]) (g := gName i) (wi := tI X.K ca W gi) (tt := tT X.K ca W0 gt) (te := tG X.K ca W0 ge) hc hN hy hyl hsw hi ok hg ht he hs) fun D σ H ⟨ι, ρ, s, hr, hm, h⟩ => by
    have h2 : tG X.K ca W (gLc [i] gi (dName i) gt ge) σ H (fun v H1 => D.nx (σ.set j (some v)) H1) :=
      bindE famS hr hm h fun ι1 s1 d v H1 l1 hr1 hm1 rd h1 => h1 ι1 _ H1 .refl hm1 (hr1.set rd j)
    exact tG_lc (own := [i]) (fun {ι H ρ ρ' σ d v Q} r rd e k => by
      cases e
      refine k _ (r.set rd i) ?_
      show ((σ.set i none).set i (some v)).set i none = (σ.set i none)
      rw [List.set_set, List.set_set]) h2
theorem Room.u65 {k : Nat} {A : Around} (r : Room k A) : A.units + 65 < cLine := by have := r.un; omega
/-! ### constants of the module: tuples of data -/
/-- a constant's form: which does not hang on the heap -/
def ConstAt (K : PySem.W.Frag) (v : V) (d : D) : Prop := ∀ ι H, Rep K ι H d v
end
end J


set_option Elab.async false
set_option linter.all false
set_option maxRecDepth 100000
set_option maxHeartbeats 4000000
/-! J5: raise of own errors; a lambda handed to a def that tells which error came. -/
namespace J
open PySem PySem.Spec L2
open PyProof.Rows (envOfC)
section
variable {X : Cx} {ca : Ct} {W : WX} {e : Expr} {es : List Expr} {pos : Pos}
/-- X(), X an own exception class without own __init__ -/
theorem pmk_own0 {C : Addr} {bmB : List Value} {B newId initId : String} {x : Str} {p : Pos} (F : ExcBaseFacts B newId initId bmB) (q : PySem.W.excIn X.K C bmB newId = true) (gC : X.mg x = some (.ref C))
    (kC : PySem.W.keepIn X.K (.ref C) = true) (r : Raises X (.ref C)) (hg : Gl X x) (hdb : (x == ("__debug__" : Str)) = false := by decide) :
    PMk X (.Call (.Name x p) [] [] pos) (fun σ H Q => Q (.ref C) none H) := by
  intro pins s σ H Q I h
  refine wpAny_Call_Name_kw (ld_glob I hg gC ?_ hdb)
  refine PySem.W.callWith_K0 I.kIn kC ?_
  show wpAny _ _ (call (.ref C) []) _ _ _
  obtain ⟨bm, N, nm, qn, bs, hdct, sn, sub, ab, col, dd, k0, k1, k2, k3, k5, mN, hC, hN, hni, T⟩ := exc_obj I.kIn q
  refine wpAny_call_exc_subT F T hC hN hni (fun h' e hm => ?_) (by show 0 ≤ sizeLine; decide)
  exact mk_of I hm r h (I.hok.gone hm.new)
/-- what the written part says of an own error class without fields -/
structure ExcJ (K : PySem.W.Frag) (mg : Str → Option Value) (ca : Ct) (c : Nat) (x : Str) : Prop where
  g : mg x = some (.ref (ca.c c))
  q : PySem.W.excIn K (ca.c c) He.veBase "ValueError.__new__" = true
  k : PySem.W.keepIn K (.ref (ca.c c)) = true
  b : PySem.W.subIn K (.ref (ca.c c)) (.type "BaseException") = some true
  t : PySem.W.typeIn K (.ref (ca.c c)) = some (.type "type")
def sRaise (c : Nat) : GS := fun _ s => .err ⟨c, none⟩ s
theorem js_raise0 {x : Str} {p pos' : Pos} {c : Nat} (T : ExcJ X.K X.mg ca c x) (hc : X.calm = true) (tk : Takes X W) (hg : Gl X x := by rfl) (hdb : (x == ("__debug__" : Str)) = false := by decide) :
    JS X ca W (.Raise (some (.Call (.Name x p) [] [] pos')) none pos) (sRaise c) :=
  PS.imp (ps_raise hc tk (pmk_own0 PySem.F.excBase_ValueError T.q T.g T.k (raises_own T.b T.t) hg hdb)) fun D σ H ⟨ι, ρ, s, hr, hm, h⟩ => h ι _ none H σ .refl hm ⟨rfl, fun _ => rfl, fun _ _ z => by cases z⟩
def sNever : GS := fun _ _ => .no
theorem js_never {st : Stmt} : JS X ca W st sNever := PS.imp ps_never fun D σ H ⟨ι, ρ, s, hr, hm, h⟩ => h

/-! ### a lambda without parameters, called by the def that it is handed to -/
theorem Sim.extN {K : PySem.W.Frag} {ι : Wd} {s : S} {H H1 : Hp} (m : Sim K ca ι s H) (e : LamX.ExtN H H1) (t : LamX.Tabs ca.T H1) : Le ι H ι H1 ∧ Sim K ca ι s H1 := by
  have k : ∀ a o, H a = some o → NoTab o → H1 a = some o := fun a o h n => e a o h n
  have l : Le ι H ι H1 := ⟨⟨List.prefix_rfl, fun a o h t n => ⟨k a o h t, n⟩, fun a xs h => k _ _ h (fun _ z => by cases z), fun a o u h => k _ _ h (fun _ z => by cases z)⟩, fun a o h t n => ⟨k a o h t, n⟩, fun _ h => h⟩
  have kM : ∀ a ∈ ι.M, H1 a = H a := fun a ha => by
    obtain ⟨o, h, mu⟩ := m.tr a ha
    rw [h]; exact k a o h mu.noTab
  have nM : ∀ a o, H1 a = some o → (∀ u, MutJ u → o ≠ u) → a ∉ ι.M := fun a o h n ha => by
    obtain ⟨u, hu, mu⟩ := m.tr a ha
    rw [kM a ha, hu] at h
    exact n u mu (Option.some.inj h).symm
  refine ⟨l, m.len, m.nd, m.sub, fun a ha => by rw [kM a ha]; exact m.tr a ha, fun p hp => ?_, fun n a u hn hs => (m.ob n a u hn hs).mono l (kM a (m.sub a (List.mem_of_getElem? hn)))⟩
  obtain ⟨ps, h1, h2, h3⟩ := t p hp
  refine ⟨ps, h1, nM _ _ h1 fun u mu z => mu.noTab ps z.symm, h2, fun pos cv hc => ?_⟩
  obtain ⟨c, ec, h4⟩ := h3 pos cv hc
  exact ⟨c, ec, h4, nM _ _ h4 fun u mu z => mu.noExt _ z.symm⟩
/-- what the def makes of the lambda: z if it ends; of its error, hd -/
def gWrong (z : D) (hd : Ex → S → R D) (gl : GE) : GE := fun ρ s => match gl ρ s with
  | .ok _ s1 => .ok z s1
  | .err e s1 => (match hd e s1 with | .ok d s2 => .ok d s2 | _ => .no)
  | .no => .no
def TTw (K : PySem.W.Frag) (ca : Ct) (zv : V) (hd : Ex → S → R D) : (XK → Hp → VK → Prop) → Hp → VK → Prop := fun tl H Q =>
  tl (fun cls d H' => ∃ e ι s, Sim K ca ι s H' ∧ RepX K ca ι H' e cls d ∧ PostE K ca ι H' (match hd e s with | .ok d s2 => .ok d s2 | _ => .no) Q (fun _ _ _ => False)) H
    (fun _ H' => Q zv H')
theorem je_wrong {z : D} {zv : V} (hz : ∀ ι H, Rep X.K ι H z zv) {hd : Ex → S → R D} {x a : Str} {g c P : Addr} {k : Nat} {pg : Arguments} {bg : List Stmt} {sg : Scope} {dV kV doc pm cdv ct oc : Value} {an od : Option Addr} {osl : Array (Option Value)} {Ng : List Str}
    {params : Arguments} {body : Expr} {scope : Scope} {gl : GE} {p lpos pos : Pos} (hg : Gl X x) (hm : X.mg x = some (.ref g)) (hk : PySem.W.keepIn X.K (.ref g) = true)
    (lk : X.K.lookup g = some ⟨oc, od, .func (PySem.W.fnOf x x pg bg sg dV kV doc pm an cdv ct), osl⟩) (hcg : PySem.W.codeIn X.K cdv x = true) (hb : L2.Binds X.K (PySem.W.fnOf x x pg bg sg dV kV doc pm an cdv ct) [a] []) (Sg : FnScope Ng [a] sg) (hNg : Ng[0]? = some a) (hva : Vis sg a)
    (hG : LamX.GivesTo X Ng x sg g cdv bg a (X.env.qual ++ "<lambda>") (TTw X.K ca zv hd))
    (TB : LamX.TabB X.base X.mg c P) (hcode : X.env.code = .ref c) (hmT : (P, X.env.qual ++ "<lambda>") ∈ ca.T) (hu : ∀ p ∈ ca.T, p.1 = P → p.2 = X.env.qual ++ "<lambda>") (hr : Room (k + 2) X.A) (L : LamX.LamS X.env.scope scope) (hdef : defaultsOf params X.env = ([], []))
    (hbind : ∀ (q : Str) (cl : List (Str × Addr)) (pm cv ctv : Value), bindArgs (PySem.W.kla_fn "<lambda>" q params body scope cl pm cv ctv) ⟨[], []⟩ = pure [])
    (hbody : ∀ (A : Around) (outer : List PySem.Env) (s : Shared) (H : Hp) (E : XK) (f c' : Addr), Room k (A.deeper (LamX.lamEnv X scope s.heap.objs.size f c')) → JE (LamX.lamCx X A outer s H E scope f c') ca (fun cls d _ H => E cls d H) body gl)
    (hdb : (x == ("__debug__" : Str)) = false := by decide) (hd' : (a == ("__debug__" : Str)) = false := by decide) (hcd : (a == ("__classdict__" : Str)) = false := by decide) :
    JE X ca W (.Call (.Name x p) [.Lambda params body scope lpos] [] pos) (gWrong z hd gl) := by
  refine PE.imp (LamX.pe_lamcall (T := ca.T) (t := fun E => tG X.K ca (fun cls d _ H => E cls d H) gl) hg hm hk lk hcg hb Sg hNg hva hG TB hcode hmT hu hr L hdef hbind hbody hdb hd' hcd) fun σ H Q ⟨ι, ρ, s, hrs, hms, h⟩ => ?_
  refine ⟨hms.tab.tabs, fun H1 eN T1 => ?_⟩
  obtain ⟨l, m1⟩ := hms.extN eN T1
  show tG X.K ca (fun cls d _ H' => ∃ e ι s, Sim X.K ca ι s H' ∧ RepX X.K ca ι H' e cls d ∧ PostE X.K ca ι H' (match hd e s with | .ok d s2 => .ok d s2 | _ => .no) Q (fun _ _ _ => False)) gl σ H1
    (fun _ H' => Q zv H')
  refine ⟨ι, ρ, s, hrs.mono l, m1, ?_⟩
  have h := PostE.mono h l
  unfold gWrong at h
  cases e : gl ρ s with
  | no => rw [e] at h; exact h
  | ok d s1 =>
    rw [e] at h
    exact fun ι' v H' l' m' r => h ι' zv H' l' m' (hz ι' H')
  | err x s1 =>
    rw [e] at h
    simp only at h
    intro ι' cv dd H' l' m' q
    refine ⟨x, ι', s1, m', q, ?_⟩
    cases e2 : hd x s1 with
    | ok d s2 => rw [e2] at h; exact PostE.mono (show PostE X.K ca ι H1 (.ok d s2) Q (fun _ _ _ => False) from h) l'
    | err _ _ => rw [e2] at h; exact h
    | no => rw [e2] at h; exact h
/-! ### isinstance of the error that a suite holds -/
def gIsE (b : Addr → Addr → Option Bool) (ga gc : GE) : GE := fun ρ s => (ga ρ s).bind fun x s1 => (gc ρ s1).bind fun y s2 => match x, y with
  | .raw a, .raw C => R.ofO ((b a C).map D.bl) s2
  | _, _ => .no
theorem je_isE {a D₀ : Addr} {oe : Obj} {pn : List (Addr × Obj)} {ea ec : Expr} {ga gc : GE} {p : Pos} {b : Addr → Option Bool} (C : ExcC X.K D₀) (hz : Zc (.ref D₀) none oe) (hf : ∃ vs, oe.data = .fields vs) (hb : ∀ E v, b E = some v → PySem.W.kitOne X.K (.ref D₀) (.ref E) = some v) (hm : X.mg "isinstance" = none)
    (ha : JE (X.suite a ((a, oe) :: pn)) ca W ea ga) (hc : JE (X.suite a ((a, oe) :: pn)) ca W ec gc) (hg : Gl X "isinstance" := by rfl)
    (he : starEach [ea, ec] X.env = (false, eval ea X.env) :: starEach [ec] X.env := by rfl) (he2 : starEach [ec] X.env = (false, eval ec X.env) :: starEach [] X.env := by rfl) (hpl : (backTo pos (starEach [ec] X.env)).any (·.1) = false := by rfl) :
    JE (X.suite a ((a, oe) :: pn)) ca W (.Call (.Name "isinstance" p) [ea, ec] [] pos) (gIsE (fun a' E => if a' = a then b E else none) ga gc) := by
  refine PE.imp (pe_callB (call_isE C hz hf) hg hm bt_isinstance (pa_cons ha (pa_cons hc pa_nil he2) he) (by decide) (by decide) he hpl) fun σ H Q ⟨ι, ρ, s, hr, hms, h⟩ => ?_
  refine bindE famE hr hms h fun ι1 s1 x v H1 l1 hr1 hm1 rx h1 => bindE famE hr1 hm1 h1 fun ι2 s2 y u H2 l2 hr2 hm2 ry h2 => ?_
  cases rx with
  | raw a' =>
    cases ry with
    | raw E =>
      simp only at h2
      by_cases ea : a' = a
      · subst ea
        rw [if_pos rfl] at h2
        cases eb : b E with
        | none => rw [eb] at h2; exact h2.elim
        | some v =>
          rw [eb] at h2
          exact ⟨_, .ref E, v, rfl, fun u r => r, hb E v eb, h2 ι2 _ H2 .refl hm2 (.bl v)⟩
      · rw [if_neg ea] at h2; exact h2.elim
    | _ => exact h2.elim
  | _ => exact h2.elim
end

section
variable {X : Cx} {ca : Ct} {W : WX} {pos : Pos}
/-! ### a written dict of texts, asked -/
def dictV (kvs : List (Str × Str)) (x : Str) : Option D := match valV (mergeK [] (kvs.map fun q => ((Sum.inr q.1 : Key), V.str q.2))) (Sum.inr x) with
  | some (.str y) => some (.str y)
  | _ => none
def gDictC (kvs : List (Str × Str)) (gk : GE) : GE := fun ρ s => (gk ρ s).bind fun d s1 => match d with | .str x => R.ofO (dictV kvs x) s1 | _ => .no
def trsC (kvs : List (Str × Str)) : List (TE × TE) := kvs.map fun q => (tC (.str q.1), tC (.str q.2))
theorem tPairs_c {σ : L2.St} : ∀ {kvs : List (Str × Str)} {H : Hp} {Q : List (V × V) → Hp → Prop}, Q (kvs.map fun q => (V.str q.1, V.str q.2)) H → tPairs (trsC kvs) σ H Q
  | [], _, _, h => h
  | q :: kvs, H, Q, h => tPairs_c (kvs := kvs) (H := H) (Q := fun ps H' => Q ((V.str q.1, V.str q.2) :: ps) H') h
theorem je_dictC {kvs : List (Str × Str)} {keys : List (Option Expr)} {values : List Expr} {k : Expr} {p : Pos} {gk : GE} {j : Nat} (hr : Room j X.A) (h : PPs X p keys values (trsC kvs)) (hk : JE X ca W k gk) (hn : kvs.length ≤ 15 := by decide) (hall : keys.all (·.isSome) = true := by rfl) (hl : keys.length = values.length := by rfl) (h0 : keys ≠ [] := by exact fun z => by cases z)
    (h15 : keys.length ≤ 15 := by decide) (hs : NoSl k := by exact fun _ _ => rfl) : JE X ca W (.Subscript (.Dict keys values p) k pos) (gDictC kvs gk) := by
  refine PE.imp (pe_dget (hu_of hr) (pe_disp h hall hl h0 h15) hk hs) fun σ H Q ⟨ι, ρ, s, hrs, hm, h⟩ => ?_
  intro pd hpd
  refine tPairs_c ?_
  refine ⟨upd_same, kvs.map fun q => ((Sum.inr q.1 : Key), V.str q.2), by rw [List.map_map]; rfl, by simpa using hn, ?_⟩
  rw [upd_upd]
  obtain ⟨l, m⟩ := hm.new (o := .dK (mergeK [] (kvs.map fun q => ((Sum.inr q.1 : Key), V.str q.2)))) hpd
  have h := PostE.mono h l
  refine bindE famE (hrs.mono l) m h fun ι1 s1 d v H1 l1 hr1 hm1 rd h1 => ?_
  have hd := (l1.stay _ _ upd_same (fun _ z => by cases z) (fun z => hm.ne hpd (hm.sub _ z))).1
  cases rd with
  | str x =>
    simp only at h1
    cases e : dictV kvs x with
    | none => rw [e] at h1; exact h1.elim
    | some d' =>
      rw [e] at h1
      unfold dictV at e
      split at e
      · rename_i y ey
        cases e
        exact ⟨pd, .str y, rfl, .inl ⟨_, Sum.inr x, .inl hd, rfl, ey.symm⟩, h1 ι1 _ H1 .refl hm1 (.str y)⟩
      · cases e
  | _ => exact h1.elim
end

section
variable {ca : Ct}
/-- as fnJ, of a def by its parts; what its code object is, is told -/
theorem fnJD {P : Program} {w : World} {K : PySem.W.Frag} {mg : Str → Option Value} {base : Heap} {x qual : Str} {params : Arguments} {body : List Stmt} {scope : Scope} {f : Addr} {fd : FuncData} {N ps : List Str} {k : Nat} {b : GS} (F : FunD K x qual params body scope [] [] f fd) (Sc : FnScope N ps scope)
    (hb : ∀ (cdv : Value) (A : Around) (outer : List PySem.Env) (s : Shared) (H : Hp) (E : XK), Room k (A.deeper (envOfC qual scope s.heap.objs.size f cdv)) →
      JSs (cxOf (L2.CX P w) P w K mg base N qual scope f cdv A outer s H E) ca (fun cls d _ H => E cls d H) body b) : FnOk P w K mg base (L2.CX P w) (k + 1) f fd ps (spJ K ca ps.length (runF N.length b)) := by
  refine F.ok Sc (fun vs H Q E ⟨ι, ds, s, hr, hm, hl, h⟩ => by rw [← hr.length, hl]) (fun cdv A outer s H vs Q E hr h => ⟨_, hb cdv A outer s H E hr, ?_⟩)
  obtain ⟨ι, ds, s', hrs, hm, hl, h⟩ := h
  refine ⟨ι, _, s', relS_start N hrs, hm, ?_⟩
  unfold runF at h
  cases e : b (ds.map some ++ List.replicate (N.length - ds.length) none) s' with
  | err y s1 => rw [e] at h; exact fun ι' cv dd H' σ' l m q => h ι' cv dd H' l m q
  | no => rw [e] at h; exact h
  | ok fl s1 =>
    rw [e] at h
    cases fl with
    | rt d => exact h
    | nx ρ => exact fun ι' σ' H' l m r => h ι' .non H' l m .non
    | bk ρ => exact h.elim
    | ct ρ => exact h.elim
/-- a module's constant that is data -/
def ConstJ (K : PySem.W.Frag) (mg : Str → Option Value) (x : Str) (d : D) : Prop := ∃ (u : Value) (v : V), mg x = some u ∧ RelV v u ∧ ∀ ι H, Rep K ι H d v
theorem je_k {X : Cx} {W : WX} {x : Str} {d : D} {pos : Pos} (h : ConstJ X.K X.mg x d) (hg : Gl X x := by rfl) (hd : (x == ("__debug__" : Str)) = false := by decide) : JE X ca W (.Name x pos) (gC d) := by
  obtain ⟨u, v, h1, h2, h3⟩ := h
  exact je_glob h1 h2 h3 hg hd
end
end J


set_option Elab.async false
set_option linter.all false
set_option maxRecDepth 100000
set_option maxHeartbeats 4000000
/-! J6: a def that tries what it is handed; constants of the module; the law's def; the end. -/
namespace J
open PySem PySem.Spec L2
open PyProof.Rows (envOfC)

/-- the def: try: a() / except ec as en: sst / return z -/
theorem gives_wrong {X : Cx} {ca : Ct} {x a en ec q : Str} {zv : V} {ze : Expr} {sg : Scope} {g C : Addr} {cdg : Value} {sst : Stmt} {p1 p2 p3 p4 p5 p6 p8 : Pos} {cls : List Nat} {hd : Ex → S → R D} {gs : Nat → Addr → GS}
    (hnd : [a, en].Nodup) (hen : sg.names.lookup en = some .local) (hge : sg.names.lookup ec = some .globalImplicit) (hme : X.mg ec = some (.ref C)) (hde : (ec == ("__debug__" : Str)) = false)
    (hze : ∀ (s : Shared) (H : Hp), PE (cxOf C8.CX0 X.prog X.w X.K X.mg X.base [a, en] x sg g cdg X.A X.stack s H C8.E0).nox ze (tC zv))
    (hx : ∀ i ∈ cls, PySem.W.exmOne X.K (.ref (ca.c i)) (.ref C) = some true)
    (hs : ∀ (s : Shared) (H : Hp), ∀ i ∈ cls, ∀ (a' : Addr) (oe : Obj) (pn : List (Addr × Obj)), Zc (.ref (ca.c i)) none oe → (∃ vs, oe.data = .fields vs) →
      JS ((cxOf C8.CX0 X.prog X.w X.K X.mg X.base [a, en] x sg g cdg X.A X.stack s H C8.E0).nox.suite a' ((a', oe) :: pn)) ca W0 sst (gs i a'))
    (hg : ∀ e s d s2, hd e s = .ok d s2 → e.cls ∈ cls ∧ e.arg = none ∧ ∀ a', gs e.cls a' [none, some (.raw a')] s = .ok (.rt d) s2) :
    LamX.GivesTo X [a, en] x sg g cdg [.Try [.Expr (.Call (.Name a p1) [] [] p2) p3] [.ExceptHandler (some (.Name ec p4)) (some en) [sst] p5] [] [] p6, .Return (some ze) p8] a q (TTw X.K ca zv hd) := by
  intro f c' s H Q tl act hc h
  have hgl : Gl (cxOf C8.CX0 X.prog X.w X.K X.mg X.base [a, en] x sg g cdg X.A X.stack s H C8.E0).nox ec := hge
  refine ⟨_, pss_cons (ps_try_as (X := (cxOf C8.CX0 X.prog X.w X.K X.mg X.base [a, en] x sg g cdg X.A X.stack s H C8.E0).nox) (c := .ref C) (i := 1) (Wout := fun _ _ _ _ => False)
      (tb := fun W D σ H => ∃ Ech : XK, (∀ cls d σ' H', Ech cls d H' → W cls d σ' H') ∧ σ[0]? = some (some (.ref f)) ∧ H c' = some (LamX.CodeO c' q) ∧ tl Ech H (fun _ H' => D.nx σ H'))
      (ts := fun a' cv d D σ H => ∃ i ∈ cls, cv = .ref (ca.c i) ∧ d = none ∧ (σ.length = 2 → tS X.K ca W0 (gs i a') D σ H))
      rfl rfl hnd rfl hen ⟨hgl, hde, .inl hme⟩ LamX.takes0 (fun W pn xe tk _ => ?_) (fun a' oe cv d pn hz hf => ?_)) (pss_one (ps_ret (hze s H))), ?_⟩
  · refine ⟨fun pins s' σ H' D I h' => ?_⟩
    obtain ⟨Ech, hW, h1, h2, h3⟩ := h'
    have hp := act W pn xe Ech p1 p2 tk (fun cv d σ' H2 z => hW cv d σ' H2 z)
    exact (pss_one (ps_expr (pos := p3) hp)).run pins s' σ H' D I ⟨h1, h2, h3⟩
  · refine ⟨fun pins s' σ H' D I ⟨i, hi, e1, e2, h'⟩ => ?_⟩
    subst e1 e2
    exact (pss_one (hs s H i hi a' oe pn hz hf)).run pins s' σ H' D I (h' I.len)
  · refine ⟨fun cv d H' => ∃ e ι s, Sim X.K ca ι s H' ∧ RepX X.K ca ι H' e cv d ∧ PostE X.K ca ι H' (match hd e s with | .ok d s2 => .ok d s2 | _ => .no) Q (fun _ _ _ => False), fun cv d σ' H' ⟨e, ι, s', m, rx, p⟩ => ?_, rfl, hc, ?_⟩
    · cases eh : hd e s' with
      | err _ _ => rw [eh] at p; exact p.elim
      | no => rw [eh] at p; exact p.elim
      | ok d' s2 =>
        rw [eh] at p
        obtain ⟨h1, h2, h3⟩ := hg e s' d' s2 eh
        obtain ⟨r1, r2, _⟩ := rx
        refine ⟨true, by rw [r1]; exact hx _ h1, fun _ a' _ => ⟨e.cls, h1, r1, r2 h2, fun hl => ⟨ι, [none, some (.raw a')], s', ⟨hl.symm, fun i d hi => ?_⟩, m, ?_⟩⟩, fun z => by cases z⟩
        · match i, hi with
          | 1, hi =>
            cases hi
            rw [List.length_set] at hl
            exact ⟨_, List.getElem?_set_self (by omega), .raw a'⟩
        · rw [h3 a']
          exact fun ι' v H2 l m2 r => p ι' v H2 l m2 r
    · exact h

/-! ### constants of the module -/
mutual
def reprB (K : PySem.W.Frag) : D → Value → Bool
  | .int i, .int j _ => i == j
  | .str x, .str y _ => decide (x = y)
  | .bl a, .bool b => a == b
  | .non, .none => true
  | .tup ds, .ref a => (match K.lookup a with
    | some ⟨.type c, _, .seq its _, _⟩ => decide (c = "tuple") && (decide (its.size ≤ sizeLine) && reprsB K ds its.toList)
    | _ => false)
  | _, _ => false
def reprsB (K : PySem.W.Frag) : List D → List Value → Bool
  | [], [] => true
  | d :: ds, u :: us => reprB K d u && reprsB K ds us
  | _, _ => false
end
mutual
theorem reprB_ok {K : PySem.W.Frag} : ∀ {d : D} {u : Value}, reprB K d u = true → ∃ v, RelV v u ∧ ∀ ι H, Rep K ι H d v
  | .int i, u, h => by
    cases u <;> simp only [reprB] at h <;> first | cases h | skip
    rename_i j t
    have e : i = j := by simpa using h
    subst e
    exact ⟨.int i, ⟨t, rfl⟩, fun _ _ => .int i⟩
  | .str x, u, h => by
    cases u <;> simp only [reprB] at h <;> first | cases h | skip
    rename_i y t
    have e : x = y := by simpa using h
    subst e
    exact ⟨.str x, ⟨t, rfl⟩, fun _ _ => .str x⟩
  | .bl x, u, h => by
    cases u <;> simp only [reprB] at h <;> first | cases h | skip
    rename_i y
    have e : x = y := by simpa using h
    subst e
    exact ⟨.bl x, rfl, fun _ _ => .bl x⟩
  | .non, u, h => by
    cases u <;> simp only [reprB] at h <;> first | cases h | skip
    exact ⟨.non, rfl, fun _ _ => .non⟩
  | .tup ds, u, h => by
    cases u <;> simp only [reprB] at h <;> first | cases h | skip
    rename_i a
    split at h
    · rename_i c od its n sl e
      simp only [Bool.and_eq_true, decide_eq_true_eq] at h
      obtain ⟨rfl, h2, h3⟩ := h
      obtain ⟨vs, rv, rr⟩ := reprsB_ok h3
      exact ⟨.ref a, rfl, fun ι H => .tup (.inr ⟨_, its, n, e, rfl, rfl, h2, rv⟩) (rr ι H)⟩
    · cases h
  | .ty _, u, h => by simp [reprB] at h
  | .lst _, u, h => by simp [reprB] at h
  | .frz _, u, h => by simp [reprB] at h
  | .obj _, u, h => by simp [reprB] at h
  | .raw _, u, h => by simp [reprB] at h
theorem reprsB_ok {K : PySem.W.Frag} : ∀ {ds : List D} {us : List Value}, reprsB K ds us = true → ∃ vs, Vals vs us ∧ ∀ ι H, Reps K ι H ds vs
  | [], [], _ => ⟨[], .nil, fun _ _ => .nil⟩
  | [], _ :: _, h => by simp [reprsB] at h
  | _ :: _, [], h => by simp [reprsB] at h
  | d :: ds, u :: us, h => by
    simp only [reprsB, Bool.and_eq_true] at h
    obtain ⟨v, r1, r2⟩ := reprB_ok h.1
    obtain ⟨vs, r3, r4⟩ := reprsB_ok h.2
    exact ⟨v :: vs, .cons r1 r3, fun ι H => .cons (r2 ι H) (r4 ι H)⟩
end
def constB (K : PySem.W.Frag) (x : Str) (d : D) : Bool := match PySem.W.nsIn K mainGlobals x with
  | some (some u) => reprB K d u
  | _ => false
theorem const_ok {K : PySem.W.Frag} {h : Heap} {mg : Str → Option Value} (X : K.In h) (G : h.Ns mainGlobals mg) {x : Str} {d : D} (c : constB K x d = true) : ConstJ K mg x d := by
  unfold constB at c
  split at c
  · rename_i u e
    obtain ⟨v, r1, r2⟩ := reprB_ok c
    exact ⟨u, v, PySem.W.mg_of X G e, r1, r2⟩
  · cases c
/-! ### own errors -/
def excCB (K : PySem.W.Frag) (D₀ : Addr) : Bool :=
  decide (PySem.W.findIn K (.ref D₀) "__getattribute__" = some (some (.builtin "BaseException.__getattribute__"))) && (decide (PySem.W.findIn K (.ref D₀) "__getattr__" = some none) && (decide (PySem.W.subIn K (.ref D₀) (.type "BaseException") = some true) && (PySem.W.hasDictIn K D₀ &&
    (decide (PySem.W.findIn K (.ref D₀) "__class__" = some (some (.builtin "object.__class__"))) && (decide (PySem.W.specialIn K (.builtin "object.__class__") "__get__" = some (some (.builtin "getset_descriptor.__get__"))) && (decide (PySem.W.takesIn K (.builtin "object.__class__") = some true) && decide (PySem.W.mroIn K D₀ (.type "object") = some true)))))))
theorem excCB_ok {K : PySem.W.Frag} {D₀ : Addr} (h : excCB K D₀ = true) : ExcC K D₀ := by
  simp only [excCB, Bool.and_eq_true, decide_eq_true_eq] at h
  exact ⟨h.1, h.2.1, h.2.2.1, h.2.2.2.1, h.2.2.2.2.1, h.2.2.2.2.2.1, h.2.2.2.2.2.2.1, h.2.2.2.2.2.2.2⟩
def kitB2 (K : PySem.W.Frag) (x y : Str) (b : Bool) : Bool := decide (PySem.W.kitOne K (.ref (He.ga K x)) (.ref (He.ga K y)) = some b)
theorem excJ_ok {K : PySem.W.Frag} {h : Heap} {mg : Str → Option Value} {ca : Ct} {i : Nat} {x : Str} (X : K.In h) (G : h.Ns mainGlobals mg) (c : (He.Fa.exc x).ok K = true) (g : (He.Fa.glo x).ok K = true) (e : ca.c i = He.ga K x) : ExcJ K mg ca i x := by
  obtain ⟨h1, h2, h3, h4⟩ := He.exc_ok c
  exact ⟨by rw [e]; exact He.glo_ok X G g, by rw [e]; exact h1, by rw [e]; exact h2, by rw [e]; exact h3, by rw [e]; exact h4⟩

/-! ### the law's def -/
theorem fnJL {ca : Ct} {P : Program} {w : World} {K : PySem.W.Frag} {mg : Str → Option Value} {base : Heap} {x qual : Str} {params : Arguments} {body : List Stmt} {scope : Scope} {f c : Addr} {fd : FuncData} {N ps : List Str} {k : Nat} {b : GS} (F : FunD K x qual params body scope [] [] f fd) (Sc : FnScope N ps scope)
    (hf : He.fAd K (x, none) = f) (hc : He.codeOf K (x, none) = c)
    (hb : ∀ (cdv : Value) (A : Around) (outer : List PySem.Env) (s : Shared) (H : Hp) (E : XK), cdv = .ref c → Room k (A.deeper (envOfC qual scope s.heap.objs.size f cdv)) →
      JSs (cxOf (L2.CX P w) P w K mg base N qual scope f cdv A outer s H E) ca (fun cls d _ H => E cls d H) body b) : FnOk P w K mg base (L2.CX P w) (k + 1) f fd ps (spJ K ca ps.length (runF N.length b)) := by
  obtain ⟨oc, od, dV, kV, doc, pm, an, cdv, ct, osl, rfl, lk, hcd, _, _⟩ := F.ex
  obtain ⟨c', rfl⟩ := He.codeIn_ref hcd
  have ec : c' = c := by rw [← hc]; exact (He.codeOf_eq (by rw [hf]; exact lk) rfl).symm
  refine fn_of lk hcd Sc (fun vs H Q E ⟨ι, ds, s, hr, hm, hl, h⟩ => by rw [← hr.length, hl]) (fun A outer s H vs Q E hr h => ⟨_, hb (.ref c') A outer s H E (by rw [ec]) hr, ?_⟩)
  obtain ⟨ι, ds, s', hrs, hm, hl, h⟩ := h
  refine ⟨ι, _, s', relS_start N hrs, hm, ?_⟩
  unfold runF at h
  cases e : b (ds.map some ++ List.replicate (N.length - ds.length) none) s' with
  | err y s1 => rw [e] at h; exact fun ι' cv dd H' σ' l m q => h ι' cv dd H' l m q
  | no => rw [e] at h; exact h
  | ok fl s1 =>
    rw [e] at h
    cases fl with
    | rt d => exact h
    | nx ρ => exact fun ι' σ' H' l m r => h ι' .non H' l m .non
    | bk ρ => exact h.elim
    | ct ρ => exact h.elim
theorem pass_none {P : Program} {w : World} {H : Hp} {s : Shared} {e : Value} {s' : Shared} (h : L2.CX P w [] H s (fun _ _ _ => False) e s') : False := by
  obtain ⟨_, _, _, _, _, _, _, _, _, _, _, _, z⟩ := h
  exact z.elim
/-- what the end asks of a law: for every script of at most 63 ints its mirror gives True -/
theorem spJ_law {K : PySem.W.Frag} {ca : Ct} {F : List D → S → R D} {H : Hp} {a : Addr} {ns : List Int} (hT : ∀ p ∈ ca.T, H p.1 = some (.tbl #[])) (hS : SqL K H a (ns.map V.int)) (h : ∃ s', F [.frz (ns.map D.int)] [] = .ok (.bl true) s') :
    spJ K ca 1 F [.ref a] H (fun v _ => v = .bl true) (fun _ _ _ => False) := by
  obtain ⟨s', h⟩ := h
  have ri : ∀ ns : List Int, Reps K ⟨[], []⟩ H (ns.map D.int) (ns.map V.int) := fun ns => by
    induction ns with
    | nil => exact .nil
    | cons n ns ih => exact .cons (.int n) ih
  have r : Rep K ⟨[], []⟩ H (.frz (ns.map D.int)) (.ref a) := by
    rcases hS with (h1 | ⟨o, h1⟩) | h1
    · exact .frz2 h1 (by simp) (ri ns)
    · exact .frz (.inl ⟨o, h1⟩) (ri ns)
    · exact .frz (.inr h1) (ri ns)
  refine ⟨⟨[], []⟩, [.frz (ns.map D.int)], [], .cons r .nil, ⟨rfl, List.nodup_nil, (fun _ h => (List.not_mem_nil h).elim), (fun _ h => (List.not_mem_nil h).elim), (fun p hp => ⟨#[], hT p hp, List.not_mem_nil, trivial, fun pos cv hc => ?_⟩), (fun n a o h => (nomatch (show ([] : List Addr)[n]? = some a from h)))⟩, rfl, ?_⟩
  · have z : codeAmong pos [] = some cv := hc
    simp [codeAmong] at z
  · rw [h]
    intro ι' v H' l m q
    cases q
    rfl
end J


set_option Elab.async false
set_option linter.all false
set_option maxRecDepth 100000
set_option maxHeartbeats 4000000
/-! J7: plain lemmas about the mirrors' words. -/
namespace J
open PySem L2

theorem lcLoop_pure {t : TD} {gt : GT} {ge : GE} {ρ : Env} {s : S} (p : D → Bool) (f : D → D) : ∀ xs : List D, (∀ x ∈ xs, ∃ ρ1, t x ρ = some ρ1 ∧ gt ρ1 s = .ok (p x) s ∧ (p x = true → ge ρ1 s = .ok (f x) s)) → lcLoop t gt ge ρ xs s = .ok ((xs.filter p).map f) s
  | [], _ => rfl
  | x :: xs, h => by
    obtain ⟨ρ1, h1, h2, h3⟩ := h x List.mem_cons_self
    have ih := lcLoop_pure p f xs fun y hy => h y (List.mem_cons_of_mem _ hy)
    unfold lcLoop
    rw [h1]
    simp only [h2, noErr, R.bind_ok]
    cases e : p x with
    | true =>
      simp only [if_true, h3 e, ih, R.bind_ok]
      rw [List.filter_cons_of_pos e]; rfl
    | false =>
      simp only [Bool.false_eq_true, if_false, ih]
      rw [List.filter_cons_of_neg (by rw [e]; exact Bool.false_ne_true)]
/-- the whole comprehension, of a thing that changes nothing -/
theorem gLc_pure {own : List Nat} {gi : GA} {t : TD} {gt : GT} {ge : GE} {ρ : Env} {s s1 : S} {xs : List D} (p : D → Bool) (f : D → D) (hi : gi ρ s = .ok xs s1) (hl : xs.length ≤ 16777216)
    (h : ∀ x ∈ xs, ∃ ρ1, t x (wipeD own ρ) = some ρ1 ∧ gt ρ1 s1 = .ok (p x) s1 ∧ (p x = true → ge ρ1 s1 = .ok (f x) s1)) : gLc own gi t gt ge ρ s = .ok (.lst ((xs.filter p).map f)) s1 := by
  unfold gLc
  rw [hi]
  simp only [R.bind_ok]
  rw [if_pos (by simpa [fitL] using hl), lcLoop_pure p f xs h]
  rfl
theorem eqD_str (s : S) (a b : Str) (ha : PyData.strOk a = true) (hb : PyData.strOk b = true) : eqD s (.str a) (.str b) = some (a == b) := by simp [eqD, deref, D.toPy, SeqAt.shaped, PyData.canLay0, PyData.depth, PyData.eqv, ha, hb]
@[simp] theorem eqD_int (s : S) (a b : Int) : eqD s (.int a) (.int b) = some (a == b) := by simp [eqD, deref, D.toPy, SeqAt.shaped, PyData.canLay0, PyData.depth, PyData.eqv]
@[simp] theorem eqD_bl (s : S) (a b : Bool) : eqD s (.bl a) (.bl b) = some (a == b) := by simp [eqD, deref, D.toPy, SeqAt.shaped, PyData.canLay0, PyData.depth, PyData.eqv]
@[simp] theorem eqD_non (s : S) : eqD s .non .non = some true := by simp [eqD, deref, D.toPy, SeqAt.shaped, PyData.canLay0, PyData.depth, PyData.eqv]
@[simp] theorem eqD_non_int (s : S) (a : Int) : eqD s .non (.int a) = some false := by simp [eqD, deref, D.toPy, SeqAt.shaped, PyData.canLay0, PyData.depth, PyData.eqv]
@[simp] theorem eqD_int_non (s : S) (a : Int) : eqD s (.int a) .non = some false := by simp [eqD, deref, D.toPy, SeqAt.shaped, PyData.canLay0, PyData.depth, PyData.eqv]
theorem toPys_ints : ∀ ns : List Int, D.toPys (ns.map D.int) = some (ns.map PyData.int)
  | [] => rfl
  | n :: ns => by simp [D.toPys, D.toPy, toPys_ints ns]
theorem shaped_ints (ns : List Int) : SeqAt.shaped (.list (ns.map PyData.int)) = true := by
  have h1 : ∀ ns : List Int, PyData.canLayAll0 (ns.map PyData.int) = true := fun ns => by
    induction ns with
    | nil => simp [PyData.canLayAll0]
    | cons n ns ih => simp [PyData.canLayAll0, PyData.canLay0, ih]
  have h2 : ∀ ns : List Int, PyData.depthAll (ns.map PyData.int) ≤ 0 := fun ns => by
    induction ns with
    | nil => simp [PyData.depthAll]
    | cons n ns ih => simp [PyData.depthAll, PyData.depth] at ih ⊢; omega
  simp only [SeqAt.shaped, Bool.and_eq_true, decide_eq_true_eq]
  refine ⟨by simpa [PyData.canLay0] using h1 ns, ?_⟩
  have := h2 ns
  simp only [PyData.depth]
  omega
theorem eqvAll_ints : ∀ ns ms : List Int, PyData.eqvAll (ns.map PyData.int) (ms.map PyData.int) = (ns == ms)
  | [], [] => by simp [PyData.eqvAll]
  | [], m :: ms => by simp [PyData.eqvAll]
  | n :: ns, [] => by simp [PyData.eqvAll]
  | n :: ns, m :: ms => by simp [PyData.eqvAll, PyData.eqv, eqvAll_ints ns ms]
theorem eqD_ints (s : S) (ns ms : List Int) : eqD s (.lst (ns.map D.int)) (.lst (ms.map D.int)) = some (ns == ms) := by
  simp only [eqD, deref, D.toPy, toPys_ints, Option.map_some, shaped_ints, Bool.and_self, if_true]
  simp [PyData.eqv, eqvAll_ints]
/-! ### the words, applied -/
inductive Dm {γ : Type} (k : γ) : Type | mk
/-- bind, so that simp looks at its first part alone -/
def R.bd {α β : Type} (r : R α) (k : α → S → R β) (_ : Dm k) : R β := r.bind k
@[simp] theorem R.bd_ok {α β : Type} (a : α) (s : S) (k : α → S → R β) (u : Dm k) : (R.ok a s).bd k u = k a s := id rfl
@[simp] theorem R.bd_err {α β : Type} (e : Ex) (s : S) (k : α → S → R β) (u : Dm k) : (R.err e s).bd k u = .err e s := id rfl
@[simp] theorem R.bd_no {α β : Type} (k : α → S → R β) (u : Dm k) : (R.no : R α).bd k u = .no := id rfl
@[simp] theorem ap_var (i : Nat) (ρ : Env) (s : S) : gVar i ρ s = match ρ[i]? with | some (some d) => .ok d s | _ => .no := id rfl
@[simp] theorem ap_C (d : D) (ρ : Env) (s : S) : gC d ρ s = .ok d s := id rfl
@[simp] theorem ap_op2 (f : S → D → D → Option D) (ga gb : GE) (ρ : Env) (s : S) : gOp2 f ga gb ρ s = (ga ρ s).bd (fun x s1 => (gb ρ s1).bd (fun y s2 => R.ofO (f s2 x y) s2) .mk) .mk := id rfl
@[simp] theorem ap_B (g : GE) (ρ : Env) (s : S) : gB g ρ s = (g ρ s).bd (fun d s1 => match d with | .bl b => .ok b s1 | _ => .no) .mk := id rfl
@[simp] theorem ap_chain (f f' : S → D → D → Option D) (ga gb gc : GE) (ρ : Env) (s : S) : gChain f f' ga gb gc ρ s = (ga ρ s).bd (fun x s1 => (gb ρ s1).bd (fun y s2 => (R.ofO (f s2 x y) s2).bd (fun z s3 => match z with
  | .bl true => (gc ρ s3).bd (fun w s4 => R.ofO (f' s4 y w) s4) .mk
  | .bl false => .ok (.bl false) s3
  | _ => .no) .mk) .mk) .mk := id rfl
@[simp] theorem ap_not (t : GT) (ρ : Env) (s : S) : gNot t ρ s = (t ρ s).bd (fun b s1 => .ok (!b) s1) .mk := id rfl
@[simp] theorem ap_and (t u : GT) (ρ : Env) (s : S) : gAnd t u ρ s = (t ρ s).bd (fun b s1 => if b then u ρ s1 else .ok false s1) .mk := id rfl
@[simp] theorem ap_or (t u : GT) (ρ : Env) (s : S) : gOr t u ρ s = (t ρ s).bd (fun b s1 => if b then .ok true s1 else u ρ s1) .mk := id rfl
@[simp] theorem ap_andV (ga gb : GE) (ρ : Env) (s : S) : gAndV ga gb ρ s = (ga ρ s).bd (fun d s1 => match d with | .bl true => gb ρ s1 | .bl false => .ok (.bl false) s1 | _ => .no) .mk := id rfl
@[simp] theorem ap_orV (ga gb : GE) (ρ : Env) (s : S) : gOrV ga gb ρ s = (ga ρ s).bd (fun d s1 => match d with | .bl true => .ok (.bl true) s1 | .bl false => gb ρ s1 | _ => .no) .mk := id rfl
@[simp] theorem ap_notV (ga : GE) (ρ : Env) (s : S) : gNotV ga ρ s = (ga ρ s).bd (fun d s1 => match d with | .bl b => .ok (.bl !b) s1 | _ => .no) .mk := id rfl
@[simp] theorem ap_if (t : GT) (ga gb : GE) (ρ : Env) (s : S) : gIf t ga gb ρ s = (t ρ s).bd (fun b s1 => if b then ga ρ s1 else gb ρ s1) .mk := id rfl
@[simp] theorem ap_neg (ga : GE) (ρ : Env) (s : S) : gNeg ga ρ s = (ga ρ s).bd (fun d s1 => match d with | .int i => .ok (.int (-i)) s1 | _ => .no) .mk := id rfl
@[simp] theorem ap_nil (ρ : Env) (s : S) : gaNil ρ s = .ok [] s := id rfl
@[simp] theorem ap_cons (g : GE) (r : GA) (ρ : Env) (s : S) : gaCons g r ρ s = (g ρ s).bd (fun d s1 => (r ρ s1).bd (fun ds s2 => .ok (d :: ds) s2) .mk) .mk := id rfl
@[simp] theorem ap_tup (g : GA) (ρ : Env) (s : S) : gTup g ρ s = (g ρ s).bd (fun ds s1 => if fitL ds.length then .ok (.tup ds) s1 else .no) .mk := id rfl
@[simp] theorem ap_lst (g : GA) (ρ : Env) (s : S) : gLst g ρ s = (g ρ s).bd (fun ds s1 => if fitL ds.length then .ok (.lst ds) s1 else .no) .mk := id rfl
@[simp] theorem ap_lstM (g : GA) (ρ : Env) (s : S) : gLstM g ρ s = (g ρ s).bd (fun ds s1 => if fitL ds.length then .ok (.obj s1.length) (s1 ++ [.lst ds]) else .no) .mk := id rfl
@[simp] theorem ap_F (f : S → List D → Option D) (gr : GA) (ρ : Env) (s : S) : gF f gr ρ s = (gr ρ s).bd (fun ds s1 => R.ofO (f s1 ds) s1) .mk := id rfl
@[simp] theorem ap_call (n : Nat) (F : List D → S → R D) (gr : GA) (ρ : Env) (s : S) : gCall n F gr ρ s = (gr ρ s).bd (fun ds s1 => if ds.length = n then F ds s1 else .no) .mk := id rfl
@[simp] theorem ap_sl (g : GE) (lo hi : GO) (ρ : Env) (s : S) : gSl g lo hi ρ s = (g ρ s).bd (fun x s1 => (lo ρ s1).bd (fun l s2 => (hi ρ s2).bd (fun h s3 => R.ofO (fSl s3 x l h) s3) .mk) .mk) .mk := id rfl
@[simp] theorem ap_goNone (ρ : Env) (s : S) : goNone ρ s = .ok none s := id rfl
@[simp] theorem ap_goSome (g : GE) (ρ : Env) (s : S) : goSome g ρ s = (g ρ s).bd (fun d s1 => match d with | .int i => .ok (some i) s1 | _ => .no) .mk := id rfl
@[simp] theorem ap_dictC (kvs : List (Str × Str)) (gk : GE) (ρ : Env) (s : S) : gDictC kvs gk ρ s = (gk ρ s).bd (fun d s1 => match d with | .str x => R.ofO (dictV kvs x) s1 | _ => .no) .mk := id rfl
@[simp] theorem ap_items (g : GE) (ρ : Env) (s : S) : gItems g ρ s = (g ρ s).bd (fun d s1 => R.ofO (itemsF d) s1) .mk := id rfl
@[simp] theorem ap_range1 (gr : GA) (ρ : Env) (s : S) : gRange1 gr ρ s = (gr ρ s).bd (fun ds s1 => match ds with | [.int j] => if okR j then .ok (rangeD 0 j) s1 else .no | _ => .no) .mk := id rfl
@[simp] theorem ap_range2 (gr : GA) (ρ : Env) (s : S) : gRange2 gr ρ s = (gr ρ s).bd (fun ds s1 => match ds with | [.int i, .int j] => if okR i && okR j then .ok (rangeD i j) s1 else .no | _ => .no) .mk := id rfl
@[simp] theorem ap_lc (own : List Nat) (gi : GA) (t : TD) (gt : GT) (ge : GE) (ρ : Env) (s : S) : gLc own gi t gt ge ρ s = (gi ρ s).bd (fun ds s1 => if fitL ds.length then (lcLoop t gt ge (wipeD own ρ) ds s1).bd (fun ys s2 => .ok (.lst ys) s2) .mk else .no) .mk := id rfl
@[simp] theorem ap_yes (ρ : Env) (s : S) : gYes ρ s = .ok true s := id rfl
@[simp] theorem ap_next (ρ : Env) (s : S) : sNext ρ s = .ok (.nx ρ) s := id rfl
@[simp] theorem ap_seq (a b : GS) (ρ : Env) (s : S) : sSeq a b ρ s = (a ρ s).bd (fun f s1 => match f with | .nx ρ1 => b ρ1 s1 | f => .ok f s1) .mk := id rfl
@[simp] theorem ap_expr (g : GE) (ρ : Env) (s : S) : sExpr g ρ s = (g ρ s).bd (fun _ s1 => .ok (.nx ρ) s1) .mk := id rfl
@[simp] theorem ap_ret (g : GE) (ρ : Env) (s : S) : sRet g ρ s = (g ρ s).bd (fun d s1 => .ok (.rt d) s1) .mk := id rfl
@[simp] theorem ap_asg (g : GE) (t : TD) (ρ : Env) (s : S) : sAsg g t ρ s = (g ρ s).bd (fun d s1 => match t d ρ with | some ρ1 => .ok (.nx ρ1) s1 | none => .no) .mk := id rfl
@[simp] theorem ap_sif (t : GT) (a b : GS) (ρ : Env) (s : S) : sIf t a b ρ s = (t ρ s).bd (fun k s1 => if k then a ρ s1 else b ρ s1) .mk := id rfl
@[simp] theorem ap_par (i j : Nat) (gr : GA) (ρ : Env) (s : S) : sPar i j gr ρ s = (gr ρ s).bd (fun ds s1 => match ds with | [d, e] => .ok (.nx ((ρ.set i (some d)).set j (some e))) s1 | _ => .no) .mk := id rfl
@[simp] theorem ap_for (t : TD) (gi : GA) (b : GS) (ρ : Env) (s : S) : sFor t gi b ρ s = (gi ρ s).bd (fun ds s1 => forLoop t b ds ρ s1) .mk := id rfl
@[simp] theorem ap_raise (c : Nat) (ρ : Env) (s : S) : sRaise c ρ s = .err ⟨c, none⟩ s := id rfl
@[simp] theorem ap_setIx (ge go gi : GE) (ρ : Env) (s : S) : sSetIx ge go gi ρ s = (ge ρ s).bd (fun x s1 => (go ρ s1).bd (fun o s2 => (gi ρ s2).bd (fun i s3 => match putL s3 o i x with
  | some s4 => .ok (.nx ρ) s4
  | none => .no) .mk) .mk) .mk := id rfl
@[simp] theorem ap_dName (i : Nat) (d : D) (ρ : Env) : dName i d ρ = some (ρ.set i (some d)) := id rfl
@[simp] theorem ap_dsNil (ρ : Env) : dsNil [] ρ = some ρ := id rfl
@[simp] theorem ap_dsCons (t : TD) (r : List D → Env → Option Env) (d : D) (ds : List D) (ρ : Env) : dsCons t r (d :: ds) ρ = (t d ρ).bind (r ds) := id rfl
@[simp] theorem ap_dTup (n : Nat) (t : List D → Env → Option Env) (ds : List D) (ρ : Env) : dTup n t (.tup ds) ρ = if ds.length = n then t ds ρ else none := id rfl
@[simp] theorem ap_run (n : Nat) (b : GS) (ds : List D) (s : S) : runF n b ds s = (b (ds.map some ++ List.replicate (n - ds.length) none) s).bd (fun f s1 => match f with
  | .rt d => .ok d s1
  | .nx _ => .ok .non s1
  | _ => .no) .mk := id rfl
@[simp] theorem ap_fEq (s : S) (x y : D) : fEq s x y = (eqD s x y).map .bl := id rfl
@[simp] theorem ap_fNe (s : S) (x y : D) : fNe s x y = (eqD s x y).map fun b => .bl !b := id rfl
@[simp] theorem ap_fIn (s : S) (x y : D) : fIn s x y = (inD s x y).map .bl := id rfl
@[simp] theorem ap_fNotIn (s : S) (x y : D) : fNotIn s x y = (inD s x y).map fun b => .bl !b := id rfl
@[simp] theorem ap_fIs (s : S) (x y : D) : fIs s x y = (isD x y).map .bl := id rfl
@[simp] theorem ap_fIsN (s : S) (x y : D) : fIsN s x y = (isD x y).map fun b => .bl !b := id rfl
@[simp] theorem ap_subI (s : S) (i j : Int) : fSub s (.int i) (.int j) = some (.int (i - j)) := id rfl
@[simp] theorem ap_addI (s : S) (i j : Int) : fAdd s (.int i) (.int j) = some (.int (i + j)) := id rfl
@[simp] theorem ap_addS (s : S) (i j : Str) : fAdd s (.str i) (.str j) = if fitL (i.length + j.length) then some (.str (i ++ j)) else none := id rfl
@[simp] theorem ap_ltI (s : S) (i j : Int) : fLt s (.int i) (.int j) = some (.bl (decide (i < j))) := id rfl
@[simp] theorem ap_leI (s : S) (i j : Int) : fLe s (.int i) (.int j) = some (.bl (decide (i ≤ j))) := id rfl
@[simp] theorem ap_gtI (s : S) (i j : Int) : fGt s (.int i) (.int j) = some (.bl (decide (j < i))) := id rfl
@[simp] theorem ap_geI (s : S) (i j : Int) : fGe s (.int i) (.int j) = some (.bl (decide (j ≤ i))) := id rfl
@[simp] theorem ap_isNN : isD .non .non = some true := id rfl
@[simp] theorem ap_isI (i : Int) : isD (.int i) .non = some false := id rfl
@[simp] theorem ap_isS (i : Str) : isD (.str i) .non = some false := id rfl
@[simp] theorem ap_isT (i : List D) : isD (.tup i) .non = some false := id rfl
@[simp] theorem ap_isL (i : List D) : isD (.lst i) .non = some false := id rfl
@[simp] theorem ap_isB (i : Bool) : isD (.bl i) .non = some false := id rfl
@[simp] theorem ap_idxT (s : S) (ds : List D) (i : Int) : fIdx s (.tup ds) (.int i) = atI ds i := id rfl
@[simp] theorem ap_idxL (s : S) (ds : List D) (i : Int) : fIdx s (.lst ds) (.int i) = atI ds i := id rfl
@[simp] theorem ap_idxZ (s : S) (ds : List D) (i : Int) : fIdx s (.frz ds) (.int i) = atI ds i := id rfl
@[simp] theorem ap_lenT (s : S) (ds : List D) : fLen s (.tup ds) = some (.int ds.length) := id rfl
@[simp] theorem ap_lenL (s : S) (ds : List D) : fLen s (.lst ds) = some (.int ds.length) := id rfl
@[simp] theorem ap_lenZ (s : S) (ds : List D) : fLen s (.frz ds) = some (.int ds.length) := id rfl
@[simp] theorem ap_f1 (f : S → D → Option D) (s : S) (x : D) : f1 f s [x] = f s x := id rfl
@[simp] theorem ap_int (s : S) (i : Int) : fInt s (.int i) = some (.int i) := id rfl
@[simp] theorem ap_tupT (s : S) (ds : List D) : fTuple s (.tup ds) = some (.tup ds) := id rfl
@[simp] theorem ap_tupL (s : S) (ds : List D) : fTuple s (.lst ds) = some (.tup ds) := id rfl
@[simp] theorem ap_slT (s : S) (ds : List D) (lo hi : Option Int) : fSl s (.tup ds) lo hi = some (.tup (cutD ds lo hi)) := id rfl
@[simp] theorem ap_slL (s : S) (ds : List D) (lo hi : Option Int) : fSl s (.lst ds) lo hi = some (.lst (cutD ds lo hi)) := id rfl
@[simp] theorem ap_itT (ds : List D) : itemsF (.tup ds) = some ds := id rfl
@[simp] theorem ap_itL (ds : List D) : itemsF (.lst ds) = some ds := id rfl
@[simp] theorem atI_zero (d : D) (ds : List D) : atI (d :: ds) 0 = some d := by
  have : ixN (ds.length + 1) 0 = some 0 := by simp [ixN]
  simp [atI, this]
theorem atI_nat (ds : List D) (k : Nat) (h : k < ds.length) : atI ds (k : Int) = some ds[k] := by
  have : ixN ds.length (k : Int) = some k := by simp [ixN, h]
  simp [atI, this, h]

theorem strs_toPys : ∀ xs : List Str, D.toPys (xs.map D.str) = some (xs.map PyData.str)
  | [] => rfl
  | x :: xs => by simp [D.toPys, D.toPy, strs_toPys xs]
theorem canAll_strs : ∀ xs : List Str, (∀ x ∈ xs, PyData.strOk x = true) → PyData.canLayAll0 (xs.map PyData.str) = true
  | [], _ => by simp [PyData.canLayAll0]
  | x :: xs, h => by simp [PyData.canLayAll0, PyData.canLay0, h x List.mem_cons_self, canAll_strs xs fun y hy => h y (List.mem_cons_of_mem _ hy)]
theorem depthAll_strs : ∀ xs : List Str, PyData.depthAll (xs.map PyData.str) ≤ 0
  | [] => by simp [PyData.depthAll]
  | x :: xs => by have := depthAll_strs xs; simp [PyData.depthAll, PyData.depth] at this ⊢; omega
theorem shaped_strs (xs : List Str) (h : ∀ x ∈ xs, PyData.strOk x = true) : SeqAt.shaped (.tuple (xs.map PyData.str)) = true ∧ SeqAt.shaped (.list (xs.map PyData.str)) = true := by
  have a := canAll_strs xs h
  have b := depthAll_strs xs
  refine ⟨?_, ?_⟩ <;>
  · simp only [SeqAt.shaped, PyData.canLay0, PyData.depth, Bool.and_eq_true, decide_eq_true_eq]
    exact ⟨a, decide_eq_true (by show PyData.depthAll _ + 1 ≤ 64; omega)⟩
theorem any_strs (x : Str) (xs : List Str) : ((xs.map PyData.str).any fun z => PyData.eqv z (PyData.str x)) = xs.any (· == x) := by
  simp [List.any_map, Function.comp_def, PyData.eqv]
theorem inD_tup (s : S) (x : Str) (xs : List Str) (hx : PyData.strOk x = true) (h : ∀ x ∈ xs, PyData.strOk x = true) : inD s (.str x) (.tup (xs.map D.str)) = some (xs.any (· == x)) := by
  have h1 : SeqAt.shaped (.str x) = true := by simp [SeqAt.shaped, PyData.canLay0, PyData.depth, hx]
  simp only [inD, D.toPy, strs_toPys, h1, (shaped_strs xs h).1, Bool.and_self, if_true, any_strs]
theorem inD_lst (s : S) (x : Str) (xs : List Str) (hx : PyData.strOk x = true) (h : ∀ x ∈ xs, PyData.strOk x = true) : inD s (.str x) (.lst (xs.map D.str)) = some (xs.any (· == x)) := by
  have h1 : SeqAt.shaped (.str x) = true := by simp [SeqAt.shaped, PyData.canLay0, PyData.depth, hx]
  simp only [inD, itemsL, D.toPy, strs_toPys, h1, (shaped_strs xs h).2, Bool.and_self, if_true, any_strs]
@[simp] theorem kn_NoneType : known "NoneType" = true := by decide +kernel
@[simp] theorem isT_NoneType_NoneType : isT "NoneType" "NoneType" = true := by decide +kernel
@[simp] theorem isT_NoneType_bool : isT "NoneType" "bool" = false := by decide +kernel
@[simp] theorem isT_NoneType_int : isT "NoneType" "int" = false := by decide +kernel
@[simp] theorem isT_NoneType_str : isT "NoneType" "str" = false := by decide +kernel
@[simp] theorem isT_NoneType_tuple : isT "NoneType" "tuple" = false := by decide +kernel
@[simp] theorem isT_NoneType_list : isT "NoneType" "list" = false := by decide +kernel
@[simp] theorem isT_NoneType_dict : isT "NoneType" "dict" = false := by decide +kernel
@[simp] theorem kn_bool : known "bool" = true := by decide +kernel
@[simp] theorem isT_bool_NoneType : isT "bool" "NoneType" = false := by decide +kernel
@[simp] theorem isT_bool_bool : isT "bool" "bool" = true := by decide +kernel
@[simp] theorem isT_bool_int : isT "bool" "int" = true := by decide +kernel
@[simp] theorem isT_bool_str : isT "bool" "str" = false := by decide +kernel
@[simp] theorem isT_bool_tuple : isT "bool" "tuple" = false := by decide +kernel
@[simp] theorem isT_bool_list : isT "bool" "list" = false := by decide +kernel
@[simp] theorem isT_bool_dict : isT "bool" "dict" = false := by decide +kernel
@[simp] theorem kn_int : known "int" = true := by decide +kernel
@[simp] theorem isT_int_NoneType : isT "int" "NoneType" = false := by decide +kernel
@[simp] theorem isT_int_bool : isT "int" "bool" = false := by decide +kernel
@[simp] theorem isT_int_int : isT "int" "int" = true := by decide +kernel
@[simp] theorem isT_int_str : isT "int" "str" = false := by decide +kernel
@[simp] theorem isT_int_tuple : isT "int" "tuple" = false := by decide +kernel
@[simp] theorem isT_int_list : isT "int" "list" = false := by decide +kernel
@[simp] theorem isT_int_dict : isT "int" "dict" = false := by decide +kernel
@[simp] theorem kn_str : known "str" = true := by decide +kernel
@[simp] theorem isT_str_NoneType : isT "str" "NoneType" = false := by decide +kernel
@[simp] theorem isT_str_bool : isT "str" "bool" = false := by decide +kernel
@[simp] theorem isT_str_int : isT "str" "int" = false := by decide +kernel
@[simp] theorem isT_str_str : isT "str" "str" = true := by decide +kernel
@[simp] theorem isT_str_tuple : isT "str" "tuple" = false := by decide +kernel
@[simp] theorem isT_str_list : isT "str" "list" = false := by decide +kernel
@[simp] theorem isT_str_dict : isT "str" "dict" = false := by decide +kernel
@[simp] theorem kn_tuple : known "tuple" = true := by decide +kernel
@[simp] theorem isT_tuple_NoneType : isT "tuple" "NoneType" = false := by decide +kernel
@[simp] theorem isT_tuple_bool : isT "tuple" "bool" = false := by decide +kernel
@[simp] theorem isT_tuple_int : isT "tuple" "int" = false := by decide +kernel
@[simp] theorem isT_tuple_str : isT "tuple" "str" = false := by decide +kernel
@[simp] theorem isT_tuple_tuple : isT "tuple" "tuple" = true := by decide +kernel
@[simp] theorem isT_tuple_list : isT "tuple" "list" = false := by decide +kernel
@[simp] theorem isT_tuple_dict : isT "tuple" "dict" = false := by decide +kernel
@[simp] theorem kn_list : known "list" = true := by decide +kernel
@[simp] theorem isT_list_NoneType : isT "list" "NoneType" = false := by decide +kernel
@[simp] theorem isT_list_bool : isT "list" "bool" = false := by decide +kernel
@[simp] theorem isT_list_int : isT "list" "int" = false := by decide +kernel
@[simp] theorem isT_list_str : isT "list" "str" = false := by decide +kernel
@[simp] theorem isT_list_tuple : isT "list" "tuple" = false := by decide +kernel
@[simp] theorem isT_list_list : isT "list" "list" = true := by decide +kernel
@[simp] theorem isT_list_dict : isT "list" "dict" = false := by decide +kernel
@[simp] theorem kn_dict : known "dict" = true := by decide +kernel
@[simp] theorem isT_dict_NoneType : isT "dict" "NoneType" = false := by decide +kernel
@[simp] theorem isT_dict_bool : isT "dict" "bool" = false := by decide +kernel
@[simp] theorem isT_dict_int : isT "dict" "int" = false := by decide +kernel
@[simp] theorem isT_dict_str : isT "dict" "str" = false := by decide +kernel
@[simp] theorem isT_dict_tuple : isT "dict" "tuple" = false := by decide +kernel
@[simp] theorem isT_dict_list : isT "dict" "list" = false := by decide +kernel
@[simp] theorem isT_dict_dict : isT "dict" "dict" = true := by decide +kernel
@[simp] theorem fIsi1 (s : S) (x : D) (c : String) : fIsi s [x, .ty c] = (tyD s x).bind fun t => if known c then some (.bl (isT t c)) else none := id rfl
@[simp] theorem fIsi2 (s : S) (x : D) (cs : List D) : fIsi s [x, .tup cs] = (tyD s x).bind fun t => (tysD cs).bind fun ns => if ns.all known then some (.bl (ns.any (isT t))) else none := id rfl
@[simp] theorem tysD_nil : tysD [] = some [] := id rfl
@[simp] theorem tysD_cons (n : String) (ds : List D) : tysD (.ty n :: ds) = (tysD ds).map (n :: ·) := id rfl
@[simp] theorem tyD_non (s : S) : tyD s .non = some "NoneType" := id rfl
@[simp] theorem tyD_bl (s : S) (b : Bool) : tyD s (.bl b) = some "bool" := id rfl
@[simp] theorem tyD_int (s : S) (b : Int) : tyD s (.int b) = some "int" := id rfl
@[simp] theorem tyD_str (s : S) (b : Str) : tyD s (.str b) = some "str" := id rfl
@[simp] theorem tyD_tup (s : S) (b : List D) : tyD s (.tup b) = some "tuple" := id rfl
@[simp] theorem tyD_lst (s : S) (b : List D) : tyD s (.lst b) = some "list" := id rfl
@[simp] theorem tyD_frz (s : S) (b : List D) : tyD s (.frz b) = some "list" := id rfl
theorem blsD_true {α : Type} : ∀ xs : List α, blsD (xs.map fun _ => D.bl true) = some (xs.map fun _ => true)
  | [] => rfl
  | x :: xs => by simp [blsD, blsD_true xs]
@[simp] theorem fAll_true {α : Type} (s : S) (xs : List α) : fAll s (.lst (xs.map fun _ => D.bl true)) = some (.bl true) := by
  simp [fAll, itemsL, blsD_true, List.all_map]
/-- a comprehension that says True of each -/
theorem lcLoop_all {t : TD} {ge : GE} {ρ : Env} {s : S} : ∀ xs : List D, (∀ x ∈ xs, ∃ ρ1, t x ρ = some ρ1 ∧ ge ρ1 s = .ok (.bl true) s) → lcLoop t gYes ge ρ xs s = .ok (xs.map fun _ => .bl true) s := fun xs h => by
  rw [lcLoop_pure (fun _ => true) (fun _ => .bl true) xs fun x hx => by
    obtain ⟨ρ1, h1, h2⟩ := h x hx
    exact ⟨ρ1, h1, rfl, fun _ => h2⟩]
  rw [List.filter_eq_self.mpr fun _ _ => rfl]

@[simp] theorem ap_wipe0 (ρ : Env) : wipeD [] ρ = ρ := id rfl
@[simp] theorem ap_wipe1 (v : Nat) (vs : List Nat) (ρ : Env) : wipeD (v :: vs) ρ = (wipeD vs ρ).set v none := id rfl
@[simp] theorem ap_fitL (n : Nat) : fitL n = decide (n ≤ 16777216) := id rfl
end J


set_option Elab.async false
set_option linter.all false
set_option maxRecDepth 100000
set_option maxHeartbeats 4000000
/-! J8: texts; append; three names at once; a text walked; a mutable list walked. -/
namespace J
open PySem PySem.Spec L2
section
variable {K : PySem.W.Frag} {ca : Ct} {ι : Wd} {H : Hp} {s : S}
theorem reps_strs : ∀ ys : List Str, Reps K ι H (ys.map D.str) (ys.map V.str)
  | [] => .nil
  | y :: ys => .cons (.str y) (reps_strs ys)
def strsD : List D → Option (List Str)
  | [] => some []
  | .str x :: ds => (strsD ds).map (x :: ·)
  | _ :: _ => none
theorem strsD_eq : ∀ {ds : List D} {ys : List Str}, strsD ds = some ys → ds = ys.map D.str
  | [], _, h => by cases h; rfl
  | .str b :: ds, _, h => by
    simp only [strsD, Option.map_eq_some_iff] at h
    obtain ⟨ys, e, rfl⟩ := h
    rw [strsD_eq e]; rfl
  | .non :: _, _, h => by cases h
  | .bl _ :: _, _, h => by cases h
  | .int _ :: _, _, h => by cases h
  | .ty _ :: _, _, h => by cases h
  | .tup _ :: _, _, h => by cases h
  | .lst _ :: _, _, h => by cases h
  | .frz _ :: _, _, h => by cases h
  | .obj _ :: _, _, h => by cases h
  | .raw _ :: _, _, h => by cases h
theorem strsD_map : ∀ ys : List Str, strsD (ys.map D.str) = some ys
  | [] => rfl
  | y :: ys => by simp [strsD, strsD_map ys]
theorem reps_strsV : ∀ {ys : List Str} {vs : List V}, Reps K ι H (ys.map D.str) vs → vs = ys.map V.str
  | [], _, h => by cases h; rfl
  | y :: ys, _, h => by
    cases h with
    | cons r t => cases r; rw [reps_strsV t]; rfl
end
section
variable {X : Cx} {ca : Ct} {W : WX} {e o : Expr} {es : List Expr} {pos apos : Pos} {g ge go : GE}
/-- a method of a text with one argument -/
def gM1 (f : S → Str → D → Option D) (go ge : GE) : GE := fun ρ s => (go ρ s).bind fun x s1 => match x with
  | .str a => (ge ρ s1).bind fun y s2 => R.ofO (f s2 a y) s2
  | _ => .no
def fSplit (_ : S) (a : Str) : D → Option D
  | .str b => if !(b.length == 0) && fitL (a.length + 2) then some (.lst ((Txt.split a b).map D.str)) else none
  | _ => none
def itemsLT (s : S) : D → Option (List D)
  | .tup ds => some ds
  | y => itemsL s y
def fJoin (s : S) (a : Str) (y : D) : Option D := ((itemsLT s y).bind strsD).bind fun ys => if fitL ((ys.map (·.length)).sum + ys.length * a.length) then some (.str (Txt.join a ys)) else none
theorem je_split (ho : JE X ca W o go) (he : JE X ca W e ge) (hs : starEach [e] X.env = [(false, eval e X.env)] := by rfl) (hbase : attributeBase o "split" X.env (eval o X.env) = eval o X.env := by rfl) (hline : (apos.endLine == pos.line) = true := by rfl) :
    JE X ca W (.Call (.Attribute o "split" apos) [e] [] pos) (gM1 fSplit go ge) :=
  PE.imp (pe_split ho he hs hbase hline) fun σ H Q ⟨ι, ρ, s, hr, hm, h⟩ => bindE famE hr hm h fun ι1 s1 x v H1 l1 hr1 hm1 rx h1 => by
    cases rx with
    | str a =>
      refine ⟨⟨a, rfl⟩, bindE famE hr1 hm1 h1 fun ι2 s2 y u H2 l2 hr2 hm2 ry h2 => ?_⟩
      cases ry with
      | str b =>
        simp only [fSplit] at h2
        split at h2
        · rename_i hc
          simp only [Bool.and_eq_true, Bool.not_eq_true'] at hc
          refine ⟨a, b, rfl, rfl, hc.1, fitL_le hc.2, fun p hp => ?_⟩
          obtain ⟨l, m'⟩ := hm2.new (o := .lst ((Txt.split a b).map V.str)) hp
          exact h2 _ _ _ l m' (.lst upd_same (hm2.ne hp) (reps_strs _))
        · exact h2.elim
      | _ => exact h2.elim
    | _ => exact h1.elim
theorem je_join (ho : JE X ca W o go) (he : JE X ca W e ge) (hs : starEach [e] X.env = [(false, eval e X.env)] := by rfl) (hbase : attributeBase o "join" X.env (eval o X.env) = eval o X.env := by rfl) (hline : (apos.endLine == pos.line) = true := by rfl) :
    JE X ca W (.Call (.Attribute o "join" apos) [e] [] pos) (gM1 fJoin go ge) :=
  PE.imp (pe_join ho he hs hbase hline) fun σ H Q ⟨ι, ρ, s, hr, hm, h⟩ => bindE famE hr hm h fun ι1 s1 x v H1 l1 hr1 hm1 rx h1 => by
    cases rx with
    | str a =>
      refine ⟨⟨a, rfl⟩, bindE famE hr1 hm1 h1 fun ι2 s2 y u H2 l2 hr2 hm2 ry h2 => ?_⟩
      simp only [fJoin] at h2
      cases e1 : itemsLT s2 y with
      | none => rw [e1] at h2; exact h2.elim
      | some ds =>
        have hit : ∃ p vs, u = .ref p ∧ (SqL X.K H2 p vs ∨ SqT X.K H2 p vs) ∧ Reps X.K ι2 H2 ds vs := by
          cases ry with
          | tup h3 h4 => cases e1; exact ⟨_, _, rfl, .inr h3.sq, h4⟩
          | non => cases e1
          | bl _ => cases e1
          | int _ => cases e1
          | str _ => cases e1
          | ty _ => cases e1
          | raw _ => cases e1
          | lst a1 a2 a3 => obtain ⟨p, vs, e, q1, q2⟩ := hm2.items (.lst a1 a2 a3) e1; exact ⟨p, vs, e, .inl q1, q2⟩
          | frz a1 a2 => obtain ⟨p, vs, e, q1, q2⟩ := hm2.items (.frz a1 a2) e1; exact ⟨p, vs, e, .inl q1, q2⟩
          | frz2 a1 a2 a3 => obtain ⟨p, vs, e, q1, q2⟩ := hm2.items (.frz2 a1 a2 a3) e1; exact ⟨p, vs, e, .inl q1, q2⟩
          | obj a1 => obtain ⟨p, vs, e, q1, q2⟩ := hm2.items (.obj a1) e1; exact ⟨p, vs, e, .inl q1, q2⟩
        rw [e1] at h2
        simp only [Option.bind_some] at h2
        cases e2 : strsD ds with
        | none => rw [e2] at h2; exact h2.elim
        | some ys =>
          rw [e2] at h2
          simp only [Option.bind_some] at h2
          have e3 := strsD_eq e2
          subst e3
          split at h2
          · rename_i hc
            obtain ⟨p, vs, rfl, h3, h4⟩ := hit
            rw [reps_strsV h4] at h3
            refine ⟨a, p, ys, rfl, rfl, h3, by simpa [fitL] using hc, h2 _ _ _ .refl hm2 (.str _)⟩
          · exact h2.elim
    | _ => exact h1.elim
/-- o.append(e) -/
def gApp (go ge : GE) : GE := fun ρ s => (go ρ s).bind fun x s1 => match x with
  | .obj n => (match s1[n]? with
    | some (.lst _) => (ge ρ s1).bind fun y s2 => (match s2[n]? with
      | some (.lst ds) => if fitL (ds.length + 1) then .ok .non (s2.set n (.lst (ds ++ [y]))) else .no
      | _ => .no)
    | _ => .no)
  | _ => .no
theorem je_append (ho : JE X ca W o go) (he : JE X ca W e ge) (hbase : attributeBase o "append" X.env (eval o X.env) = eval o X.env := by rfl)
    (hfew : ((backTo pos (starEach [e] X.env)).all (fun x => !x.1) && (backToKw pos (keywordEach [] X.env)).all (fun x => x.1.isSome)
      && decide ([e].length + ([] : List Keyword).length + (if ([] : List Keyword).isEmpty then 0 else 1) < 30)) = true := by rfl)
    (hline : (apos.endLine == pos.line) = true := by rfl) (hs : starEach [e] X.env = (false, eval e X.env) :: starEach [] X.env := by rfl) (hplain : (backTo pos (starEach [] X.env)).any (·.1) = false := by rfl) :
    JE X ca W (.Call (.Attribute o "append" apos) [e] [] pos) (gApp go ge) :=
  PE.imp (pe_bm F.plainAttrs_list F.slot_list_append F.type_list_append mt_append ho (pa_cons he pa_nil hs) hbase hfew hline hs hplain) fun σ H Q ⟨ι, ρ, s, hr, hm, h⟩ => bindE famE hr hm h fun ι1 s1 x v H1 l1 hr1 hm1 rx h1 => by
    cases rx with
    | @obj a n hn =>
      simp only at h1
      split at h1
      · rename_i ds1 hd1
        obtain ⟨vs1, k1, k2⟩ := hm1.ob n a _ hn hd1
        refine ⟨.inl ⟨rfl, vs1, SqL.of k1⟩, bindE famE hr1 hm1 h1 fun ι2 s2 y u H2 l2 hr2 hm2 ry h2 => ?_⟩
        split at h2
        · rename_i ds hds
          split at h2
          · rename_i hc
            have hn2 : ι2.ι[n]? = some a := by
              obtain ⟨t, ht⟩ := l2.toKe.pre
              rw [← ht, List.getElem?_append_left (List.getElem?_eq_some_iff.mp hn).1]; exact hn
            obtain ⟨vs, k3, k4⟩ := hm2.ob n a _ hn2 hds
            have hl := fitL_le hc
            refine ⟨a, vs, u, rfl, rfl, k3, by rw [← k4.length]; omega, ?_⟩
            obtain ⟨l, m'⟩ := hm2.write (o := .lst (vs ++ [u])) (u := .lst (ds ++ [y])) hn2 trivial fun l => ⟨_, upd_same, (k4.mono l).append (.cons (ry.mono l) .nil)⟩
            exact h2 _ _ _ l m' .non
          · exact h2.elim
        · exact h2.elim
      · exact h1.elim
    | _ => exact h1.elim
def fStr (_ : S) : D → Option D
  | .int i => if decide (i.natAbs.log2 < 1920) then some (.str (toString i)) else none
  | .str x => some (.str x)
  | _ => none
theorem cj_str : CallR X (.type "str") (rCJ X.K ca (f1 fStr)) := by
  refine cj1 (call_str_int.or SkE.call_str_str) fun ι s H d v x Q m r hf q => ?_
  cases r <;> simp only [fStr] at hf <;> first | cases hf | skip
  · split at hf
    · rename_i hc
      cases hf
      exact .inl ⟨_, rfl, of_decide_eq_true hc, q _ _ _ .refl m (.str _)⟩
    · cases hf
  · exact .inr ⟨_, rfl, q _ _ _ .refl m (.str _)⟩
def fIntS (_ : S) : D → Option D
  | .str a => if decide (a.length ≤ 640) then (PySem.intText? a).map .int else none
  | _ => none
theorem cj_intS : CallR X (.type "int") (rCJ X.K ca (f1 fIntS)) := by
  refine cj1 call_int_str fun ι s H d v x Q m r hf q => ?_
  cases r <;> simp only [fIntS] at hf <;> first | cases hf | skip
  split at hf
  · rename_i hc
    simp only [Option.map_eq_some_iff] at hf
    obtain ⟨n, hn, rfl⟩ := hf
    exact ⟨_, n, rfl, hn, of_decide_eq_true hc, q _ _ _ .refl m (.int _)⟩
  · cases hf
/-- a, b, c = x, y, z -/
def sPar3 (i j l : Nat) (gr : GA) : GS := fun ρ s => (gr ρ s).bind fun ds s1 => match ds with | [d, e, f] => .ok (.nx (((ρ.set i (some d)).set j (some e)).set l (some f))) s1 | _ => .no
theorem js_par3 (i j l : Nat) {x y z : Str} {a b c : Expr} {gr : GA} {px py pz pt : Pos} {kt k2 pt2} (hc : X.calm = true) (hN : X.N.Nodup) (ha : JA X ca W [a, b, c] gr) (hi : X.N[i]? = some x := by rfl) (hj : X.N[j]? = some y := by rfl) (hl : X.N[l]? = some z := by rfl) (hij : i ≠ j := by decide) (hil : i ≠ l := by decide) (hjl : j ≠ l := by decide)
    (hx : X.env.scope.names.lookup x = some .local := by rfl) (hy : X.env.scope.names.lookup y = some .local := by rfl) (hz : X.env.scope.names.lookup z = some .local := by rfl)
    (hw : swappedStores [.Tuple [.Name x px, .Name y py, .Name z pz] kt pt] (.Tuple [a, b, c] k2 pt2) X.env = pure (some [x, y, z]) := by rfl)
    (hs : swapsWithSole [.Tuple [.Name x px, .Name y py, .Name z pz] kt pt] (.Tuple [a, b, c] k2 pt2) pos.line X.env = pure false := by rfl) :
    JS X ca W (.Assign [.Tuple [.Name x px, .Name y py, .Name z pz] kt pt] (.Tuple [a, b, c] k2 pt2) pos) (sPar3 i j l gr) := PS.imp (ps_par3 hc hN hi hj hl hij hil hjl hx hy hz ha hw hs) fun D σ H ⟨ι, ρ, s, hr, hm, h⟩ =>
  bindA famS hr hm h fun ι1 s1 ds vs H1 l1 hr1 hm1 rs h1 => by
    cases rs with
    | nil => exact h1.elim
    | cons r1 rs =>
      cases rs with
      | nil => exact h1.elim
      | cons r2 rs =>
        cases rs with
        | nil => exact h1.elim
        | cons r3 rs =>
          cases rs with
          | nil => exact ⟨_, _, _, rfl, h1 ι1 _ H1 .refl hm1 (((hr1.set r1 i).set r2 j).set r3 l)⟩
          | cons _ _ => exact h1.elim
/-! ### a text's signs -/
def signs (x : Str) : List D := x.cps.toList.map fun c => D.str ⟨#[c]⟩
def gSigns (g : GE) : GA := fun ρ s => (g ρ s).bind fun d s1 => match d with | .str x => .ok (signs x) s1 | _ => .no
theorem ji_signs {tg : Expr} (h : JE X ca W e g) : JI X ca W tg e (gSigns g) := by
  refine PI.imp (pi_str h) fun σ H R ⟨ι, ρ, s, hr, hm, h⟩ => ?_
  unfold gSigns at h
  cases e : g ρ s with
  | err x s1 =>
    rw [e] at h
    exact ⟨ι, ρ, s, hr, hm, by rw [e]; exact h⟩
  | no => rw [e] at h; exact h.elim
  | ok d s1 =>
    rw [e] at h
    refine ⟨ι, ρ, s, hr, hm, ?_⟩
    rw [e]
    intro ι' v H' l m r
    cases r with
    | str x =>
      refine ⟨x, rfl, h ι' _ H' l m fun ι2 H2 l2 => ⟨fun i d hd => ?_, fun i hi => ?_⟩⟩
      · simp only [signs, List.getElem?_map, Option.map_eq_some_iff] at hd
        obtain ⟨c, hc, rfl⟩ := hd
        have hc' : x.cps[i]? = some c := by rw [← hc]; simp
        refine ⟨?_, fun y H'' ⟨e1, c', hc2, e2⟩ => ⟨e1, ?_⟩⟩
        · have := (Array.getElem?_eq_some_iff.mp hc').1
          exact this
        · rw [hc'] at hc2; cases hc2
          rw [e2]; exact .str _
      · exact (by simpa [signs] using hi : x.cps.size ≤ i)
    | _ => exact h.elim
/-! ### a comprehension over a mutable list, whose part changes nothing -/
def lcM (ge : GE) (i : Nat) (ρ : Env) (s : S) : List D → R (List D)
  | [] => .ok [] s
  | x :: xs => (noErr (ge (ρ.set i (some x)) s)).bind fun y _ => (lcM ge i ρ s xs).bind fun ys _ => .ok (y :: ys) s
def gLcM (i : Nat) (gi ge : GE) : GE := fun ρ s => (gi ρ s).bind fun d s1 => match itemsL s1 d with
  | some ds => if fitL ds.length then (lcM ge i (wipeD [i] ρ) s1 ds).bind fun ys s2 => .ok (.lst ys) s2 else .no
  | none => .no
theorem lcM_st {ge : GE} {i : Nat} {ρ : Env} {s s2 : S} : ∀ {xs ys : List D}, lcM ge i ρ s xs = .ok ys s2 → s2 = s
  | [], _, h => by cases h; rfl
  | x :: xs, ys, h => by
    unfold lcM at h
    cases e : noErr (ge (ρ.set i (some x)) s) with
    | ok y s3 =>
      rw [e] at h
      cases e2 : lcM ge i ρ s xs with
      | ok zs s4 => simp only [R.bind_ok, e2] at h; cases h; rfl
      | err _ _ => simp only [R.bind_ok, e2] at h; cases h
      | no => simp only [R.bind_ok, e2] at h; cases h
    | err _ _ => rw [e] at h; cases h
    | no => rw [e] at h; cases h
theorem je_lcM {elt iter : Expr} {scope : Scope} {i : Nat} {x : Str} {tpos : Pos} {gi ge : GE} (hc : X.calm = true) (hN : X.N.Nodup) (hi : JE X ca W iter gi) (ok : BlkOk X.N X.env.scope scope [(x, i)])
    (hp : ∀ ρ s y s', ge ρ s = .ok y s' → s' = s)
    (hg : ∀ (s : Shared) (H : Hp) (C : Addr) (cl : List (Str × Addr)) (fp : List Addr), PG (X.blk s H scope (compEnvC scope cl C X.env) fp) (.Name x tpos) (gName i))
    (he : ∀ (s : Shared) (H : Hp) (C : Addr) (cl : List (Str × Addr)) (fp : List Addr), JE (X.blk s H scope (compEnvC scope cl C X.env) fp) ca W0 elt ge) (hs : ∀ x, foldedSetIterable iter X.env x = pure x := by intro _; rfl) :
    JE X ca W (.ListComp elt [⟨.Name x tpos, iter, [], 0⟩] scope pos) (gLcM i gi ge) :=
  PE.imp (pe_lc (own := [(x, i)]) (g := gName i) (wi := iList X.K (tG X.K ca W gi)) (tt := tT X.K ca W0 gYes) (te := tG X.K ca W0 ge) hc hN (pi_list hi) ok hg (fun _ _ _ _ _ => jts_nil) he hs) fun σ H Q ⟨ι, ρ, s, hr, hm, h⟩ => bindE famE hr hm h fun ι1 s1 d v H1 l1 hr1 hm1 rd h1 => by
    split at h1
    · rename_i ds hds
      split at h1
      · rename_i hfit
        obtain ⟨a, vs0, rfl, hsq, hreps⟩ := hm1.items rd hds
        refine ⟨a, rfl, ⟨vs0, hsq⟩, fun Da hDa => ?_⟩
        obtain ⟨lo, mo⟩ := hm1.open (o := .lst []) hDa trivial
        have nι : Da ∉ ι1.ι := fun z => hm1.ne hDa (hm1.sub _ z)
        refine ⟨fun k m H' => m = ds.length - k ∧ ∃ ι' acc vs, Le ι1 H1 ι' H' ∧ Da ∈ ι'.M ∧ Da ∉ ι'.ι ∧ Sim X.K ca ι' s1 H' ∧ H' Da = some (.lst vs) ∧ Reps X.K ι' H' acc vs ∧ acc.length ≤ k ∧
          PostE X.K ca ι1 H1 ((lcM ge i (wipeD [i] ρ) s1 (ds.drop k)).bind fun ys s2 => .ok (.lst (acc ++ ys)) s2) Q (fun cv dd H' => W cv dd σ H'), ⟨_, rfl, ⟨ι1.ι, Da :: ι1.M⟩, [], [], lo, List.mem_cons_self, nι, mo, upd_same, .nil, Nat.le_refl _, h1⟩, ?_⟩
        rintro k m H' ⟨rfl, ι', acc, vs, l', hDM, hDι, hm', hD', hacc, hlen, h'⟩
        obtain ⟨a', ws, ea, hsq', hreps'⟩ := hm'.items (rd.mono l') hds
        cases ea
        by_cases hlt : k < ds.length
        · have hd : ds[k]? = some ds[k] := List.getElem?_eq_getElem hlt
          obtain ⟨x0, hx0, rx0⟩ := hreps'.get hd
          refine .inr ⟨⟨ws, x0, hsq', hx0⟩, fun H2 => ∃ ι' acc vs, Le ι1 H1 ι' H2 ∧ Da ∈ ι'.M ∧ Da ∉ ι'.ι ∧ Sim X.K ca ι' s1 H2 ∧ H2 Da = some (.lst vs) ∧ Reps X.K ι' H2 acc vs ∧ acc.length ≤ k + 1 ∧
            PostE X.K ca ι1 H1 ((lcM ge i (wipeD [i] ρ) s1 (ds.drop (k + 1))).bind fun ys s2 => .ok (.lst (acc ++ ys)) s2) Q (fun cv dd H' => W cv dd σ H'), fun H2 w => ⟨_, by omega, rfl, w⟩, fun x2 H2 y => ?_⟩
          obtain ⟨rfl, hy⟩ := y
          have hy := hy ws hsq'
          rw [hx0] at hy
          cases hy
          rw [List.drop_eq_getElem_cons hlt] at h'
          unfold lcM at h'
          have hrw : RelS X.K ι' H2 (wipeD [i] ρ) (wipe σ [i]) := (hr1.mono l').wipe [i]
          refine ⟨?_, ?_⟩
          · show ((σ.set i none).set i (some x0)).set i none = (σ.set i none)
            rw [List.set_set, List.set_set]
          refine ⟨ι', (wipeD [i] ρ).set i (some ds[k]), s1, hrw.set rx0 i, hm', ?_⟩
          intro ι3 H3 l3 m3
          have d3 := l3.stay _ _ hD' noTab_lst hDι
          rw [if_pos rfl]
          refine ⟨ι3, (wipeD [i] ρ).set i (some ds[k]), s1, (hrw.set rx0 i).mono l3, m3, ?_⟩
          cases e4 : ge ((wipeD [i] ρ).set i (some ds[k])) s1 with
          | err x s5 => rw [e4] at h'; exact h'.elim
          | no => rw [e4] at h'; exact h'.elim
          | ok y s5 =>
            have es := hp _ _ _ _ e4
            subst es
            rw [e4] at h'
            simp only [noErr, R.bind_ok] at h'
            intro ι4 v4 H4 l4 m4 r4
            have d4 := l4.stay _ _ d3.1 noTab_lst d3.2
            obtain ⟨kf, mf⟩ := m4.fill (o := .lst (vs ++ [v4])) (l4.sub _ (l3.sub _ hDM)) d4.2 trivial
            have hv : vs.length = acc.length := (hacc.length).symm
            refine ⟨vs, d4.1, ?_, ι4, acc ++ [y], vs ++ [v4], ((l'.trans l3).trans l4).updNone hDa, l4.sub _ (l3.sub _ hDM), d4.2, mf, upd_same, (Reps.monoK kf ((hacc.mono l3).mono l4)).append (.cons (Rep.monoK kf r4) .nil), by simp; omega, ?_⟩
            · have := fitL_le hfit
              omega
            · cases e5 : lcM ge i (wipeD [i] ρ) s5 (ds.drop (k + 1)) with
              | ok ys s6 =>
                have es6 := lcM_st e5
                subst es6
                rw [e5] at h'; simpa using h'
              | err x s6 => rw [e5] at h'; exact h'
              | no => rw [e5] at h'; exact h'
        · refine .inl ⟨⟨ws, hsq', by rw [← hreps'.length]; omega⟩, ?_⟩
          rw [List.drop_eq_nil_of_le (by omega)] at h'
          simp only [lcM, R.bind_ok, List.append_nil] at h'
          obtain ⟨ls, ms⟩ := hm'.shut (p := Da) hDι
          exact h' _ _ H' (l'.shutNone hDa (hm1.ne hDa)) ms (.lst hD' (fun z => by simpa using (List.mem_filter.mp z).2) (Reps.monoK ls hacc))
      · exact h1.elim
    · exact h1.elim
end
end J
namespace J
theorem pure_lenVar (i : Nat) : ∀ (ρ : Env) (s : S) (y : D) (s' : S), gF (f1 fLen) (gaCons (gVar i) gaNil) ρ s = .ok y s' → s' = s := fun ρ s y s' h => by
  have e : gF (f1 fLen) (gaCons (gVar i) gaNil) ρ s = (gVar i ρ s).bind fun d s1 => R.ofO (fLen s1 d) s1 := by
    show ((gVar i ρ s).bind fun d s1 => (gaNil ρ s1).bind fun ds s2 => .ok (d :: ds) s2).bind _ = _
    cases gVar i ρ s <;> rfl
  rw [e] at h
  unfold gVar at h
  split at h
  · rename_i d hd
    simp only [R.bind_ok] at h
    cases e2 : fLen s d with
    | none => rw [e2] at h; cases h
    | some z => rw [e2] at h; cases h; rfl
  · cases h
end J


set_option Elab.async false
set_option linter.all false
set_option maxRecDepth 100000
set_option maxHeartbeats 4000000
/-! J9: sorted(set(t)) of a tuple of few texts. -/
namespace JSet
open PySem PySem.Spec PyProof.Rows L2
def kS (e : Int × Value) : Str := match e.2 with | .str x _ => x | _ => Str.empty
def TxE (w : World) (e : Int × Value) : Prop := ∃ x tk, e.2 = Value.str x tk ∧ e.1 = hashStr w x
/-- what a set's inside is when the texts of L were put in -/
structure In (w : World) (L : List Str) (es : Array (Int × Value)) (t : SetTable) : Prop where
  tx : ∀ e ∈ es.toList, TxE w e
  nd : (es.toList.map kS).Nodup
  mem : ∀ x, x ∈ L ↔ x ∈ es.toList.map kS
  sz : es.size ≤ L.length
  fi : t.fits es.size = true
  ri : Ris t.place.toList
  le : w.params.followText "set-order" = true ∨ t.led = true
def At (w : World) (h : Heap) (a : Addr) (L : List Str) : Prop := ∃ o es ep t, h.get? a = some o ∧ o.ExactSet ∧ o.data = .set es ep t ∧ In w L es t
variable {P : Program} {w : World}
theorem At.keep {h h' : Heap} {a : Addr} {L : List Str} (R : At w h a L) (k : ∀ o, h.get? a = some o → h'.get? a = some o) : At w h' a L := by
  obtain ⟨o, es, ep, t, ho, r⟩ := R
  exact ⟨o, es, ep, t, k o ho, r⟩
theorem tx_elems {l : List (Int × Value)} (g : ∀ e ∈ l, TxE w e) : ElemsOf (PySem.strKind P w) l := fun e he => by
  obtain ⟨x, tk, h1, h2⟩ := g e he
  exact ⟨⟨x, by rw [h1]; exact strKind_is P w x tk, h2⟩, by rw [h1]; rfl⟩
theorem tx_is {e : Int × Value} (g : TxE w e) (x : Str) : (PySem.strKind P w).is x e.2 = true ↔ kS e = x := by
  obtain ⟨y, tk, h1, _⟩ := g
  unfold kS
  rw [h1]
  constructor
  · intro z
    have z' : Value.isStrOf x (.str y tk) = true := z
    obtain ⟨u, hu⟩ := Value.isStrOf_shape z'
    injection hu
  · intro z; subst z; exact strKind_is P w y tk
variable {A : Around} {E : Value → Shared → Prop} {s : Shared} {a : Addr} {L : List Str}
/-- the tail of an adding: the new inside is stored, and laid anew when too full -/
theorem add_end {g : Bool → Sem Unit} (hg : ∀ (b : Bool) (s₁ : Shared) (Q' : Unit → Shared → Prop), Q' () s₁ → wpAny (model P w) A (g b) Q' E s₁) {o : Obj} {es es1 : Array (Int × Value)} {ep : Nat} {t t2 : SetTable}
    (ho : s.heap.get? a = some o) (hex : o.ExactSet) (hd : o.data = .set es ep t) (N : In w L es1 t2) (h64 : L.length < 64) {wd : Bool} {R : Option Bool → Shared → Prop}
    (hR : ∀ h', Heap.SameBut a s.heap h' → At w h' a L → R (some true) { s with heap := h' }) :
    wpAny (model P w) A (do
        storeSet a es1 t2
        if (!wd && t2.tooFull) = true then do
            g (relayAll t2 es1 (SetTable.grown es1.size)).2.2
            storeSet a (relayAll t2 es1 (SetTable.grown es1.size)).1 (relayAll t2 es1 (SetTable.grown es1.size)).2.1
            pure (some true)
          else pure (some true)) R E s := by
  have b1 : es1.size < scanBound := by have := N.sz; unfold scanBound; omega
  refine wpAny_bind (wpAny_storeSet_of ho hd ?_ (fits_of_scanBound b1))
  have o1 := store_at (es' := es1) (t' := t2) ho hd
  have u1 := Heap.SameBut.update s.heap a (Obj.putSet es1 t2)
  split
  · have q1 := relayAll_perm t2 es1 (SetTable.grown es1.size)
    have q2 := relayAll_fits t2 es1 (SetTable.grown es1.size)
    have q3 := relayAll_ris t2 es1 (SetTable.grown es1.size)
    have q4 := relayAll_led t2 es1 (SetTable.grown es1.size)
    generalize relayAll t2 es1 (SetTable.grown es1.size) = Z at q1 q2 q3 q4 ⊢
    obtain ⟨es2, t3, gv⟩ := Z
    dsimp only at q1 q2 q3 q4 ⊢
    have z2 : es2.size = es1.size := by rw [← Array.length_toList, q1.length_eq, Array.length_toList]
    refine wpAny_bind (hg _ _ _ (wpAny_bind (wpAny_storeSet_of o1 rfl (wpAny_pure ?_) (fits_of_scanBound (by rw [z2]; exact b1)))))
    have o2 := store_at (es' := es2) (t' := t3) o1 rfl
    refine hR _ (u1.trans (Heap.SameBut.update _ a _)) ⟨_, es2, _, t3, o2, hex, rfl, ⟨fun e he => N.tx e (q1.mem_iff.mp he), (q1.map kS).nodup_iff.mpr N.nd, fun x => (N.mem x).trans (q1.map kS).mem_iff.symm, by rw [z2]; exact N.sz, q2, q3, ?_⟩⟩
    rcases N.le with z | z
    · exact .inl z
    · exact .inr (by rw [q4]; exact z)
  · exact wpAny_pure (hR _ u1 ⟨_, es1, _, t2, o1, hex, rfl, N⟩)
theorem add {x : Str} {tk : Tok} {Q : Bool → Shared → Prop} (R : At w s.heap a L) (h64 : L.length + 1 < 64)
    (hQ : ∀ b h', Heap.SameBut a s.heap h' → At w h' a (L ++ [x]) → Q b { s with heap := h' }) :
    wpAny (model P w) A (setAddHashed a (.str x tk) ((PySem.strKind P w).hash x)) Q E s := by
  obtain ⟨o, es, ep, t, ho, hex, hd, N⟩ := R
  have kx : (PySem.strKind P w).is x (.str x tk) = true := strKind_is P w x tk
  have sx : (Value.str x tk).scannable = true := rfl
  have el : ElemsOf (PySem.strKind P w) es.toList := tx_elems N.tx
  have b0 : es.size < scanBound := by have := N.sz; unfold scanBound; omega
  unfold setAddHashed setAddHashedIn
  refine wpAny_holding (wpAny_bind (wpAny_setState_of ho hd N.fi ?_))
  dsimp only
  rw [byScan_of sx b0 el]
  simp only [↓reduceIte]
  unfold setAddByScan
  refine wpAny_bind (wpAny_bind (wpAny_rule (wpAny_bind (wpAny_setScan_of kx ho hd N.fi el ?_))))
  cases hf : List.findIdx? (fun e => (PySem.strKind P w).is x e.2) es.toList with
  | some j =>
    dsimp only
    obtain ⟨hj, pj, _⟩ := List.findIdx?_eq_some_iff_getElem.mp hf
    have hx : x ∈ es.toList.map kS := List.mem_map.mpr ⟨es.toList[j], List.getElem_mem hj, (tx_is (P := P) (N.tx _ (List.getElem_mem hj)) x).1 pj⟩
    refine wpAny_pure (wpAny_pure (hQ _ s.heap (Heap.SameBut.refl a s.heap) ⟨o, es, ep, t, ho, hex, hd, ⟨N.tx, N.nd, fun y => ?_, by have := N.sz; simp; omega, N.fi, N.ri, N.le⟩⟩))
    rw [List.mem_append, List.mem_singleton, N.mem y]
    exact ⟨fun z => z.elim id fun e => e ▸ hx, .inl⟩
  | none =>
    dsimp only
    have hx : x ∉ es.toList.map kS := fun z => by
      obtain ⟨e, he, q⟩ := List.mem_map.mp z
      have c := List.findIdx?_eq_none_iff.mp hf e he
      rw [(tx_is (P := P) (N.tx e he) x).2 q] at c
      cases c
    have gw : ∀ (b : Bool) {s₁ : Shared} {Q' : Unit → Shared → Prop}, Q' () s₁ → wpAny (model P w) A (match b with | true => rule "set.scan.the-table-gave-way" | false => pure ()) Q' E s₁ :=
      fun b s₁ Q' q => by cases b <;> first | exact wpAny_pure q | exact wpAny_rule q
    have q1 := layNew_perm t es ((PySem.strKind P w).hash x) (.str x tk)
    have q2 := layNew_fits t es ((PySem.strKind P w).hash x) (.str x tk)
    have q3 := layNew_ris t es ((PySem.strKind P w).hash x) (.str x tk) N.ri
    have q4 := layNew_led t es ((PySem.strKind P w).hash x) (.str x tk)
    generalize layNew t es ((PySem.strKind P w).hash x) (.str x tk) = Z at q1 q2 q3 q4 ⊢
    obtain ⟨es1, t1, wd, gave⟩ := Z
    dsimp only at q1 q2 q3 q4 ⊢
    rw [Array.toList_push] at q1
    have pc : es1.toList.Perm (((PySem.strKind P w).hash x, Value.str x tk) :: es.toList) := q1.trans (List.perm_append_singleton _ _)
    have pk : (es1.toList.map kS).Perm (x :: es.toList.map kS) := pc.map kS
    have z1 : es1.size = es.size + 1 := by rw [← Array.length_toList, pc.length_eq, List.length_cons, Array.length_toList]
    have N1 : In w (L ++ [x]) es1 t1 := ⟨fun e he => by
      rcases List.mem_cons.mp (pc.mem_iff.mp he) with z | z
      · rw [z]; exact ⟨x, tk, rfl, rfl⟩
      · exact N.tx e z, pk.nodup_iff.mpr (List.nodup_cons.mpr ⟨hx, N.nd⟩), fun y => by
        rw [List.mem_append, List.mem_singleton, N.mem y, pk.mem_iff, List.mem_cons]; exact Or.comm, by have := N.sz; simp; omega, q2, q3, by
        rcases N.le with z | z
        · exact .inl z
        · exact .inr (by rw [q4]; exact z)⟩
    have l64 : (L ++ [x]).length < 64 := by simp; omega
    refine wpAny_bind (gw _ ?_)
    split
    · refine wpAny_bind ?_
      rw [hashByValue_scannable 8 sx]
      refine wpAny_pure ?_
      refine add_end (L := L ++ [x]) (fun b s₁ Q' q => by cases b <;> first | exact wpAny_pure q | exact wpAny_rule q) ho hex hd ?_ l64 fun h' sb r => ?_
      · first
          | exact N1
          | exact ⟨N1.tx, N1.nd, N1.mem, N1.sz, SetTable.fits_plain_off N1.fi, N1.ri, N1.le⟩
          | (split
             · exact ⟨N1.tx, N1.nd, N1.mem, N1.sz, SetTable.fits_plain_off N1.fi, N1.ri, N1.le⟩
             · exact N1)
      · dsimp only; exact wpAny_pure (hQ _ h' sb r)
    · refine wpAny_bind (wpAny_pure ?_)
      simp only [↓reduceIte]
      refine add_end (L := L ++ [x]) (fun b s₁ Q' q => by cases b <;> first | exact wpAny_pure q | exact wpAny_rule q) ho hex hd N1 l64 fun h' sb r => ?_
      dsimp only; exact wpAny_pure (hQ _ h' sb r)
/-- the empty set as it is made -/
def eo (w : World) : Obj := { cls := .type "set", dict := none, data := .set #[] 0 (.fresh 0 0 (!w.params.followText "set-order")) }
theorem at_fresh {h : Heap} (ho : h.get? a = some (eo w)) : At w h a [] := by
  refine ⟨_, #[], 0, _, ho, ⟨rfl, rfl, rfl⟩, rfl, ⟨fun e he => ?_, ?_, fun x => ?_, Nat.le_refl 0, rfl, List.Pairwise.nil, ?_⟩⟩
  · simp at he
  · simp
  · simp
  · show _ ∨ (!w.params.followText "set-order") = true
    cases w.params.followText "set-order"
    · exact .inr rfl
    · exact .inl rfl
theorem loop {I : Addr} {fp wr : List Addr} {G : Array GenState → Array GenState → Prop} {n : Nat} {Pv : Nat → Value → Prop} {St : Nat → Shared → Prop} {R : Result → Shared → Prop} (W : WalksS P w A.in1 I fp wr G n Pv St) (hSf : a ∉ fp) (xs : List Str) (hn : n = xs.length)
    (h64 : xs.length < 63) (hval : ∀ i v, Pv i v → ∃ x t, xs[i]? = some x ∧ v = .str x t) :
    ∀ (k i : Nat) (s : Shared), n - i = k → i ≤ n → St i s → At w s.heap a (xs.take i) → (∀ s', Moved (a :: wr) G s s' → At w s'.heap a xs → R (.ok (.ret .none)) s') →
      codeAny (model P w) A (.builtin "set.update.loop" ⟨[.ref a, .ref I], []⟩) R s := by
  have aw : a ∉ wr := fun z => hSf (W.sub _ z)
  have sb : ∀ b ∈ wr, b ∈ a :: wr := fun b z => List.mem_cons_of_mem _ z
  intro k
  induction k with
  | zero =>
    intro i s hk hi st hS hR
    have : i = n := by omega
    subst this
    refine codeAny_builtin F.entry_set_update_loop ?_
    rw [Around.under_plainId F.plain_set_update_loop _]
    change wpAny _ A.in1 (pyNext (.ref I) >>= _) _ _ s
    refine wpAny_bind (W.done s _ _ st fun s' hm => ?_)
    change wpAny _ A.in1 (ret Value.none) _ _ s'
    rw [List.take_of_length_le (by omega)] at hS
    exact wpAny_pure (hR s' (hm.mono sb) (hS.keep fun o e => hm.heap a o aw e))
  | succ k ih =>
    intro i s hk hi st hS hR
    have lt : i < n := by omega
    refine codeAny_builtin F.entry_set_update_loop ?_
    rw [Around.under_plainId F.plain_set_update_loop _]
    change wpAny _ A.in1 (pyNext (.ref I) >>= _) _ _ s
    refine wpAny_bind (W.item i s _ _ lt st fun v s' hP st' hm => ?_)
    obtain ⟨x, t, hx, rfl⟩ := hval i v hP
    have hS' : At w s'.heap a (xs.take i) := hS.keep fun o e => hm.heap a o aw e
    change wpAny _ A.in1 (holding [Value.str x t] (setAdd a (.str x t)) >>= _) _ _ s'
    refine wpAny_bind (wpAny_holding ?_)
    unfold setAdd
    refine wpAny_holding (wpAny_bind ((PySem.strKind P w).pyHash (k := x) (strKind_is _ _ _ _) ?_))
    refine add (s := { s' with toks := s'.toks + 1 }) hS' (by rw [List.length_take]; omega) fun b h' hsb hS2 => ?_
    have hS3 : At w h' a (xs.take (i + 1)) := by rw [List.take_add_one, hx]; exact hS2
    refine wpAny_pure ⟨plainId_quiet F.plain_set_update_loop _, ih (i + 1) _ (by omega) lt (W.frame _ s' _ _ st' (Nat.le_succ _) fun c hc o e => ?_) hS3 fun s'' hm'' hS'' => ?_⟩
    · rw [hsb.2 c fun z : c = a => hSf (by rw [← z]; exact hc)]; exact e
    · refine hR s'' (Moved.trans W.gtrans ((hm.mono sb).then_heap (Nat.le_succ _) fun c o hc e => ?_) hm'') hS''
      rw [hsb.2 c fun z : c = a => hc (by rw [z]; exact List.mem_cons_self)]; exact e
set_option maxHeartbeats 3200000 in
/-- set(t), t a tuple of texts -/
theorem made {l : Addr} {items : Array Value} {xs : List Str} {Q : Value → Shared → Prop} (hh : A.handled = none) (hl : s.heap.IsTuple l items) (hi : StrsAre items.toList xs) (h64 : xs.length < 63)
    (h : ∀ (h' : Heap) (tk : Nat), At w h' s.heap.objs.size xs → (∀ b o, s.heap.get? b = some o → h'.get? b = some o) → Q (.ref s.heap.objs.size) { s with heap := h', toks := tk }) :
    wpAny (model P w) A (call (.type "set") [.ref l]) Q E s := by
  have isz : items.size = xs.length := by
    have q := hi.length
    rwa [Array.length_toList] at q
  obtain ⟨c, tl, hmro⟩ := F.called_set.mro
  have m1 := F.called_set.made
  have m2 := F.called_set.sub
  refine wpAny_call (codeAny_of_tree ?_)
  change wpAny _ _ (callAny (.type "set") _) _ _ _
  refine wpAny_pure ⟨Code.quiet_builtin _ (by decide +kernel), codeAny_builtin F.entry_type_call ?_⟩
  rw [Around.under_plain (weight_type_call_type "set" [.ref l] []) rfl]
  have m3 := F.called_set.notType
  have m4 := F.called_set.canCreate
  have m5 := F.typeCall_set_1 (.ref l)
  repeat (any_goals (first | assumption | wp_step))
  refine codeAny_mono (code_set_led1 (.ref l) (E := E) (Q₁ := fun ob s₁ => ob = .ref s.heap.objs.size ∧ s₁ = { s with heap := s.heap.push (eo w) }) ⟨rfl, rfl⟩) fun r s₁ hr => ?_
  cases r with
  | error e => exact hr
  | ok fl =>
    cases fl with
    | ret ob =>
      obtain ⟨rfl, rfl⟩ := hr
      have hS : (s.heap.push (eo w)).get? s.heap.objs.size = some (eo w) := Heap.get?_push_size _ rfl
      have hT : Shared.TypeIs { s with heap := s.heap.push (eo w) } (.ref s.heap.objs.size) "set" := ⟨_, hS, rfl⟩
      have m6 := F.called_set.init.lookup
      have m7 := F.called_set.init.bind (.ref s.heap.objs.size)
      repeat (any_goals (first | assumption | wp_step))
      refine codeAny_mono (codeAny_call_builtin (R := wants (fun r s₂ => r = .none ∧ ∃ h' tk, s₂ = { s with heap := h', toks := tk } ∧ At w h' s.heap.objs.size xs ∧ (∀ b o, s.heap.get? b = some o → h'.get? b = some o)) E) F.called_set.init.plain F.entry_set_init (check_set_init_1 hT ?_)) fun r₂ s₂ hr₂ => ?_
      · obtain ⟨ol, hol, hcl, nl, hdl⟩ := hl
        obtain ⟨ocls, odict, odata, oslots⟩ := ol
        simp only at hcl hdl
        subst hcl; subst hdl
        have p1 := F.sub_tuple_set
        have p2 := F.sub_tuple_frozenset
        have p3 : (Value.type "tuple" == Value.type "dict") = false := by decide
        have p4 : (s.heap.push (eo w)).get? l = some { cls := .type "tuple", dict := odict, data := .seq items nl, slots := oslots } := Heap.get?_push_of_some _ hol
        have l1 : (s.heap.push (eo w)).IsTuple l items := ⟨_, p4, rfl, nl, rfl⟩
        unfold Builtin.«set.__init__» noKeywords Builtin.Frozenset.updateFrom
        generalize hPI : pyIter = PI
        wp_walk
        subst hPI
        refine wpAny_pyIter_tuple l1 (wpAny_bind (wpAny_runValue ?_))
        have lS : l < s.heap.objs.size := Heap.lt_size hol
        have z1 : (s.heap.push (eo w)).objs.size = s.heap.objs.size + 1 := Heap.size_push ..
        have nI : l ≠ (s.heap.push (eo w)).objs.size := by rw [z1]; exact Nat.ne_of_lt (Nat.lt_succ_of_lt lS)
        have nS : s.heap.objs.size ∉ [(s.heap.push (eo w)).objs.size, l] := by
          rw [z1]
          intro z
          rcases List.mem_cons.mp z with z | z
          · exact Nat.ne_of_lt (Nat.lt_succ_self _) z
          · exact Nat.ne_of_gt lS (List.mem_singleton.mp z)
        have hv : ∀ (i : Nat) (v : Value), items[i]? = some v → ∃ x t, xs[i]? = some x ∧ v = .str x t := fun i v hv => by
          have hi' : i < xs.length := by rw [← isz]; exact (Array.getElem?_eq_some_iff.mp hv).1
          obtain ⟨t, e⟩ := SS.strs_at hi i v (by rw [Array.getElem?_toList]; exact hv)
          exact ⟨xs[i], t, List.getElem?_eq_getElem hi', by rw [e, List.getD_eq_getElem?_getD, List.getElem?_eq_getElem hi']; rfl⟩
        refine loop ((Walks.tuple (by simp [hh]) _ l nI items).toS) nS xs isz h64 hv (items.size - 0) 0 _ (by omega) (Nat.zero_le _) ⟨⟨_, Heap.get?_push_size _ rfl, rfl, rfl⟩, l1.push _⟩ ?s0 ?r0
        case s0 => exact at_fresh (Heap.get?_push_of_some _ hS)
        case r0 =>
          intro s' hm hS'
          obtain ⟨h', g2, d', tk', os'⟩ := s'
          have eg : g2 = s.gens := hm.gens
          have ed : d' = s.drawn := hm.drawn
          have eo' : os' = s.os := hm.os
          subst eg; subst ed; subst eo'
          refine wpAny_pure (wpAny_pure ⟨rfl, h', tk', rfl, hS', fun b o e => ?_⟩)
          have b0 : b < s.heap.objs.size := Heap.lt_size e
          refine hm.heap b o (fun z => ?_) (Heap.get?_push_of_some _ (Heap.get?_push_of_some _ e))
          rcases List.mem_cons.mp z with z | z
          · exact Nat.ne_of_lt b0 z
          · have z2 : b = (s.heap.push (eo w)).objs.size := List.mem_singleton.mp z
            rw [z1] at z2
            exact Nat.ne_of_lt (Nat.lt_succ_of_lt b0) z2
      · cases r₂ with
        | error e => exact hr₂
        | ok fl₂ =>
          cases fl₂ with
          | ret r =>
            obtain ⟨rfl, h', tk, rfl, hS', hk'⟩ := hr₂
            repeat (any_goals (first | assumption | wp_step))
            exact h _ _ hS' hk'
          | _ => exact hr₂.elim
    | _ => exact hr.elim
theorem txs_of : ∀ (l : List Value), (∀ v ∈ l, ∃ x tk, v = Value.str x tk) → StrsAre l (l.map PyProof.Rows.strOf)
  | [], _ => .nil
  | v :: l, h => by
    obtain ⟨x, tk, rfl⟩ := h v List.mem_cons_self
    exact .cons x tk (txs_of l fun u hu => h u (List.mem_cons_of_mem _ hu))
/-- sorted(s), s the set -/
theorem sorted {Q : Value → Shared → Prop} (R : At w s.heap a L) (hh : A.handled = none) (h64 : L.length < 64)
    (hQ : ∀ s' p (out : Array Value) (c : Nat) (ys : List Str), (∀ b o, s.heap.get? b = some o → s'.heap.get? b = some o) → s'.gens = s.gens → s'.os = s.os → s.heap.objs.size ≤ p → s'.heap.get? p = some (seqObj "list" out c) → StrsAre out.toList ys → sortedS ys = true → ys.Nodup →
      (∀ x, x ∈ ys ↔ x ∈ L) → Q (.ref p) s') :
    wpAny (model P w) A (call (.builtin "sorted") [.ref a]) Q E s := by
  obtain ⟨o, es, ep, t, ho, hex, hd, N⟩ := R
  have b0 : es.size < scanBound := by have := N.sz; unfold scanBound; omega
  refine Calls.call_function_entry kind_sorted plain_sorted entry_sorted (args_sorted1 _) ?_
  unfold Builtin.«sorted»
  refine wpAny_bind (m := checkCount "sorted" 1 1 _) (wpAny_pure (wpAny_bind (collect_set (A := A.in1) hh ⟨o, ho, hex.1, hd⟩ N.fi b0 N.ri N.le fun s1 vs k1 hz g1 o1 pm => ?_)))
  have vl : vs.length = es.size := by rw [pm.length_eq, List.length_map, Array.length_toList]
  have hI : StrsAre vs (vs.map PyProof.Rows.strOf) := txs_of vs fun v hv => by
    obtain ⟨e, he, q⟩ := List.mem_map.mp (pm.mem_iff.mp hv)
    obtain ⟨x, tk, h1, _⟩ := N.tx e he
    exact ⟨x, tk, by rw [← q]; exact h1⟩
  have pk : (vs.map PyProof.Rows.strOf).Perm (es.toList.map kS) := by
    have q := pm.map PyProof.Rows.strOf
    rw [List.map_map] at q
    refine q.trans (List.Perm.of_eq (List.map_congr_left fun e he => ?_))
    obtain ⟨x, tk, h1, _⟩ := N.tx e he
    show PyProof.Rows.strOf e.2 = kS e
    unfold kS
    rw [h1]; rfl
  have vs64 : vs.length < 64 := by have := N.sz; omega
  refine wpAny_bind (wpAny_newList ?_ (by rw [sizeLine_eq]; omega))
  have oL : (s1.heap.push (seqObj "list" vs.toArray 0)).get? s1.heap.objs.size = some (seqObj "list" vs.toArray 0) := Heap.get?_push_size _ rfl
  refine wpAny_bind (wpAny_holding (wpAny_call_entry slot_list_sort ⟨_, oL, rfl⟩ entry_list_sort (list_sort_treeK strKind_oneLt oL hI.keysOf (fun v₁ v₂ rest e => keyKind_strs (by rw [← e]; exact hI)) vs64 fun st' hp hs => ?_) (args_list_sort _)))
  obtain ⟨ys, y1, y2, y3⟩ := sorted_out_str hI hp hs
  obtain ⟨c, hc⟩ := sortedHeap_at (vs := vs) (out := (arrOf st').map (·.2)) oL
  have py : ys.Perm (es.toList.map kS) := y2.trans pk
  refine ⟨_, rfl, wpAny_pure ⟨_, rfl, hQ _ s1.heap.objs.size _ c ys (fun b u e => ?_) g1 o1 hz hc y1 y3 (py.nodup_iff.mpr N.nd) fun x => by rw [py.mem_iff, ← N.mem x]⟩⟩
  have q := k1 b u e
  have lt := Heap.lt_size q
  show (sortedHeap (s1.heap.push (seqObj "list" vs.toArray 0)) s1.heap.objs.size vs _).get? b = some u
  rw [sortedHeap_old (Nat.ne_of_lt lt) (by rw [size_push']; exact Nat.lt_succ_of_lt lt)]
  exact Heap.get?_push_of_some _ q
end JSet


set_option Elab.async false
set_option linter.all false
set_option maxRecDepth 100000
set_option maxHeartbeats 4000000
/-! J10: sorted(set(t)) as data. -/
namespace JSet
open PySem PySem.Spec PyProof.Rows L2
def SetS (w : World) (a : Addr) (L : List Str) : HO := .ext fun h => At w h a L
theorem setS_new {w : World} {P : Program} {H : Hp} {h : Heap} {a : Addr} {L : List Str} (R : At w h a L) : ObjOk P w H h a (SetS w a L) := by
  let ⟨o, _, _, _, q, _⟩ := R
  exact ⟨R, ⟨o, q⟩, fun _ _ z k => At.keep z k⟩
section
variable {X : Cx}
theorem setS_get {pins : List (Addr × Obj)} {σ : L2.St} {H : Hp} {s : Shared} {a : Addr} {L : List Str} (I : Inv X pins σ H s) (ha : H a = some (SetS X.w a L)) : At X.w s.heap a L := (I.hok a _ ha).1
def rMk (K : PySem.W.Frag) (w : World) : List V → Hp → VK → Prop := fun vs H Q => ∃ (l : Addr) (xs : List Str), vs = [V.ref l] ∧ SqT K H l (xs.map V.str) ∧ xs.length < 63 ∧ ∀ p, H p = none → Q (.ref p) (upd H p (SetS w p xs))
theorem cr_mk (hc : X.calm = true) : CallR X (.type "set") (rMk X.K X.w) := by
  intro pins s σ H vs us Q I r h
  obtain ⟨l, xs, rfl, hs, h64, q⟩ := h
  obtain ⟨its, rv, pl, hz⟩ := I.tuple hs
  rw [Vals.ref1 r]
  have fr : H s.heap.objs.size = none := I.hok.fresh (Nat.le_refl _)
  refine made (I.ok.hd hc) pl (by simpa using L2.strsAre_of rv) h64 fun h' tk hA hk => ⟨.ref s.heap.objs.size, upd H s.heap.objs.size (SetS X.w s.heap.objs.size xs), I.laid (t' := tk) hk (Nat.le_refl _) (setS_new hA), rfl, q _ fr⟩
def rSo (w : World) : List V → Hp → VK → Prop := fun vs H Q => ∃ (a : Addr) (L : List Str), vs = [V.ref a] ∧ H a = some (SetS w a L) ∧ L.length < 64 ∧
  ∀ (ys : List Str) (p : Addr), sortedS ys = true → ys.Nodup → (∀ x, x ∈ ys ↔ x ∈ L) → H p = none → Q (.ref p) (upd H p (.lst (ys.map V.str)))
theorem cr_so (hc : X.calm = true) : CallR X (.builtin "sorted") (rSo X.w) := by
  intro pins s σ H vs us Q I r h
  obtain ⟨a, L, rfl, ha, h64, q⟩ := h
  rw [Vals.ref1 r]
  refine sorted (setS_get I ha) (I.ok.hd hc) h64 fun s' p out c ys k g o hp hg hi y1 y2 y3 => ?_
  have yl : ys.length ≤ L.length := by
    refine (List.Nodup.length_le_of_subset ?_ ?_)
    · exact y2
    · exact fun x hx => (y3 x).1 hx
  have hl : (ys.map V.str).length ≤ sizeLine := by rw [List.length_map, sizeLine_eq]; omega
  have fr : H p = none := I.hok.fresh hp
  have J1 : Inv X pins σ (upd H p (.lst (ys.map V.str))) { s with heap := s'.heap, gens := s'.gens, drawn := s'.drawn, toks := s'.toks } :=
    I.call (ch := []) (Un.laid k hp fr) (I.hok.laid k hp ⟨hl, out.toList, c, vals_of_strs hi, hg⟩) (by rw [g]; exact I.bare) (fun _ z => nomatch z)
  have es : s' = { s with heap := s'.heap, gens := s'.gens, drawn := s'.drawn, toks := s'.toks } := by
    obtain ⟨_, _, _, _, _⟩ := s'
    obtain ⟨_, _, _, _, _⟩ := s
    cases o
    rfl
  rw [es]
  exact ⟨.ref p, _, J1, rfl, q ys p y1 y2 y3 fr⟩
end
/-! ### the sorted list of few texts, each once -/
def lt (x y : Str) : Bool := decide (x.cps.toList < y.cps.toList)
def ins (x : Str) : List Str → List Str
  | [] => [x]
  | y :: ys => if lt x y then x :: y :: ys else if x = y then y :: ys else y :: ins x ys
def sortU (xs : List Str) : List Str := xs.foldr ins []
def L (x : Str) : List Nat := x.cps.toList
theorem L_inj {x y : Str} (h : L x = L y) : x = y := by
  have a := SX.S_tl x
  have b := SX.S_tl y
  rw [← a, ← b]
  exact congrArg SX.S h
theorem lt_of {x y : Str} (h : ¬ L x < L y) (hne : x ≠ y) : L y < L x := by
  by_cases z : L y < L x
  · exact z
  · exact absurd (L_inj (List.le_antisymm (List.not_lt.mp z) (List.not_lt.mp h))) hne
def Up (l : List Str) : Prop := l.Pairwise fun a b => L a < L b
theorem mem_ins (x z : Str) : ∀ ys : List Str, z ∈ ins x ys ↔ z = x ∨ z ∈ ys
  | [] => by simp [ins]
  | y :: ys => by
    unfold ins
    split
    · simp
    · split
      · rename_i h; subst h; simp
      · simp only [List.mem_cons, mem_ins x z ys]
        constructor
        · rintro (h | h | h)
          · exact .inr (.inl h)
          · exact .inl h
          · exact .inr (.inr h)
        · rintro (h | h | h)
          · exact .inr (.inl h)
          · exact .inl h
          · exact .inr (.inr h)
theorem up_ins (x : Str) : ∀ {ys : List Str}, Up ys → Up (ins x ys)
  | [], _ => List.pairwise_singleton _ _
  | y :: ys, h => by
    obtain ⟨h1, h2⟩ := List.pairwise_cons.mp h
    unfold ins
    split
    · rename_i q
      have q' : L x < L y := of_decide_eq_true q
      refine List.pairwise_cons.mpr ⟨fun z hz => ?_, h⟩
      rcases List.mem_cons.mp hz with rfl | hz
      · exact q'
      · exact List.lt_trans q' (h1 z hz)
    · rename_i q
      have q' : ¬ L x < L y := fun z => q (decide_eq_true z)
      split
      · exact h
      · rename_i hne
        refine List.pairwise_cons.mpr ⟨fun z hz => ?_, up_ins x h2⟩
        rcases (mem_ins x z ys).1 hz with rfl | hz
        · exact lt_of q' hne
        · exact h1 z hz
theorem up_sortU : ∀ xs : List Str, Up (sortU xs)
  | [] => List.Pairwise.nil
  | x :: xs => up_ins x (up_sortU xs)
theorem mem_sortU (z : Str) : ∀ xs : List Str, z ∈ sortU xs ↔ z ∈ xs
  | [] => Iff.rfl
  | x :: xs => by
    show z ∈ ins x (sortU xs) ↔ _
    rw [mem_ins, mem_sortU z xs, List.mem_cons]
theorem up_eq : ∀ {xs ys : List Str}, Up xs → Up ys → (∀ z, z ∈ xs ↔ z ∈ ys) → xs = ys
  | [], [], _, _, _ => rfl
  | [], y :: ys, _, _, h => by have := (h y).2 List.mem_cons_self; cases this
  | x :: xs, [], _, _, h => by have := (h x).1 List.mem_cons_self; cases this
  | x :: xs, y :: ys, hx, hy, h => by
    obtain ⟨x1, x2⟩ := List.pairwise_cons.mp hx
    obtain ⟨y1, y2⟩ := List.pairwise_cons.mp hy
    have e : x = y := by
      rcases List.mem_cons.mp ((h x).1 List.mem_cons_self) with e | m1
      · exact e
      · rcases List.mem_cons.mp ((h y).2 List.mem_cons_self) with e | m2
        · exact e.symm
        · exact absurd (List.lt_trans (y1 x m1) (x1 y m2)) (List.lt_irrefl _)
    subst e
    have t : ∀ z, z ∈ xs ↔ z ∈ ys := fun z => by
      have hz := h z
      constructor
      · intro m
        rcases List.mem_cons.mp (hz.1 (List.mem_cons_of_mem _ m)) with e | m'
        · subst e; exact absurd (x1 z m) (List.lt_irrefl _)
        · exact m'
      · intro m
        rcases List.mem_cons.mp (hz.2 (List.mem_cons_of_mem _ m)) with e | m'
        · subst e; exact absurd (y1 z m) (List.lt_irrefl _)
        · exact m'
    rw [up_eq x2 y2 t]
theorem ris_le : ∀ (l : List Str) (p : Str), risingS p l = true → (p :: l).Pairwise fun a b => L a ≤ L b
  | [], p, _ => List.pairwise_singleton _ _
  | x :: r, p, h => by
    have h' : (!_ && risingS x r) = true := h
    rw [Bool.and_eq_true, Bool.not_eq_true', ltCps_eq, decide_eq_false_iff_not] at h'
    have ih := ris_le r x h'.2
    have px : L p ≤ L x := List.not_lt.mp h'.1
    refine List.pairwise_cons.mpr ⟨fun z hz => ?_, ih⟩
    rcases List.mem_cons.mp hz with rfl | hz
    · exact px
    · exact List.le_trans px ((List.pairwise_cons.mp ih).1 z hz)
theorem up_of {ys : List Str} (h : sortedS ys = true) (nd : ys.Nodup) : Up ys := by
  have le : ys.Pairwise fun a b => L a ≤ L b := by
    cases ys with
    | nil => exact List.Pairwise.nil
    | cons y ys => exact ris_le ys y h
  refine (le.and nd).imp fun {a b} q => ?_
  by_cases z : L a < L b
  · exact z
  · exact absurd (L_inj (List.le_antisymm q.1 (List.not_lt.mp z))) q.2
end JSet
namespace J
open PySem PySem.Spec L2
section
variable {X : Cx} {ca : Ct} {W : WX} {e : Expr} {pos : Pos} {g : GE}
/-- sorted(set(e)), e a tuple of few texts -/
def fSortSet (_ : S) : D → Option D
  | .tup ds => (strsD ds).bind fun xs => if decide (xs.length < 63) then some (.lst ((JSet.sortU xs).map D.str)) else none
  | _ => none
def gSortSet (g : GE) : GE := fun ρ s => (g ρ s).bind fun d s1 => R.ofO (fSortSet s1 d) s1
theorem je_sortSet {p p2 q : Pos} (hc : X.calm = true) (h1 : X.mg "sorted" = none) (h2 : X.mg "set" = none) (he : JE X ca W e g) (g1 : Gl X "sorted" := by rfl) (g2 : Gl X "set" := by rfl)
    (he1 : starEach [.Call (.Name "set" p2) [e] [] q] X.env = (false, eval (.Call (.Name "set" p2) [e] [] q) X.env) :: starEach [] X.env := by rfl) (he2 : starEach [e] X.env = (false, eval e X.env) :: starEach [] X.env := by rfl)
    (hp1 : (backTo pos (starEach [] X.env)).any (·.1) = false := by rfl) (hp2 : (backTo q (starEach [] X.env)).any (·.1) = false := by rfl) :
    JE X ca W (.Call (.Name "sorted" p) [.Call (.Name "set" p2) [e] [] q] [] pos) (gSortSet g) :=
  PE.imp (pe_callB (JSet.cr_so hc) g1 h1 bt_sorted (pa_cons (pe_callTy (JSet.cr_mk hc) g2 h2 bt_set (pa_cons he pa_nil he2) (he := he2) (hpl := hp2)) pa_nil he1) (he := he1) (hpl := hp1)) fun σ H Q ⟨ι, ρ, s, hr, hm, h⟩ => bindE famE hr hm h fun ι1 s1 d v H1 l1 hr1 hm1 rd h1 => by
    cases rd with
    | tup h3 h4 =>
      simp only [fSortSet] at h1
      cases e2 : strsD _ with
      | none => rw [e2] at h1; exact h1.elim
      | some xs =>
        rw [e2] at h1
        simp only [Option.bind_some] at h1
        have e3 := strsD_eq e2
        subst e3
        split at h1
        · rename_i hl
          have hl := of_decide_eq_true hl
          have e4 := reps_strsV h4
          subst e4
          refine ⟨_, xs, rfl, h3.sq, hl, fun p1 hp1 => ?_⟩
          obtain ⟨l2, m2⟩ := hm1.new (o := JSet.SetS X.w p1 xs) hp1
          refine ⟨p1, xs, rfl, upd_same, by omega, fun ys p3 y1 y2 y3 hp3 => ?_⟩
          obtain ⟨l3, m3⟩ := m2.new (o := .lst (ys.map V.str)) hp3
          have ey : ys = JSet.sortU xs := JSet.up_eq (JSet.up_of y1 y2) (JSet.up_sortU xs) fun z => (y3 z).trans (JSet.mem_sortU z xs).symm
          subst ey
          exact h1 _ _ _ (l2.trans l3) m3 (.lst upd_same (m2.ne hp3) (reps_strs _))
        · exact h1.elim
    | _ => exact h1.elim
def gDic0 : GE := fun _ s => .ok (.obj s.length) (s ++ [.dic []])
theorem je_dict0 : JE X ca W (.Dict [] [] pos) gDic0 := PE.imp pe_dnewK fun σ H Q ⟨ι, ρ, s, hr, hm, h⟩ p hp => by
  obtain ⟨l, m⟩ := hm.alloc (o := .dK []) (u := .dic []) hp trivial fun l => ⟨[], upd_same, .nil⟩
  exact h _ _ _ l m (.obj (by simp [← hm.len]))
end
end J


set_option Elab.async false
set_option linter.all false
set_option maxRecDepth 100000
set_option maxHeartbeats 4000000
/-! J11: instances: fields read and stored, methods called, made by the class. -/
namespace J
open PySem PySem.Spec L2
section
variable {K : PySem.W.Frag} {ca : Ct} {ι : Wd} {H : Hp} {s : S}
theorem RepF.look {f : Str} : ∀ {fs : List (Str × D)} {ws : List (Str × V)}, RepF K ι H fs ws → (∀ d, fs.lookup f = some d → ∃ v, ws.lookup f = some v ∧ Rep K ι H d v) ∧ (fs.lookup f = none → ws.lookup f = none)
  | _, _, .nil => ⟨fun _ h => (by cases h), fun _ => rfl⟩
  | (g, d) :: fs, (g', v) :: ws, .cons ⟨e, r⟩ t => by
    have e : g = g' := e
    subst e
    have ih := RepF.look (f := f) t
    by_cases z : f == g
    · simp only [List.lookup_cons, z]
      exact ⟨fun x hx => by cases hx; exact ⟨v, rfl, r⟩, fun h => by cases h⟩
    · have z : (f == g) = false := by simpa using z
      simp only [List.lookup_cons, z]
      exact ih
def putD (f : Str) (d : D) : List (Str × D) → List (Str × D)
  | [] => [(f, d)]
  | (g, x) :: r => if g = f then (g, d) :: r else (g, x) :: putD f d r
theorem RepF.put {f : Str} {d : D} {v : V} (r : Rep K ι H d v) : ∀ {fs : List (Str × D)} {ws : List (Str × V)}, RepF K ι H fs ws → RepF K ι H (putD f d fs) (putF f v ws)
  | _, _, .nil => .cons ⟨rfl, r⟩ .nil
  | (g, x) :: fs, (g', y) :: ws, .cons ⟨e, q⟩ t => by
    have e : g = g' := e
    subst e
    unfold putD putF
    split
    · exact .cons ⟨rfl, r⟩ t
    · exact .cons ⟨rfl, q⟩ (RepF.put r t)
theorem RepF.len : ∀ {fs : List (Str × D)} {ws : List (Str × V)}, RepF K ι H fs ws → fs.length = ws.length
  | _, _, .nil => rfl
  | _ :: _, _ :: _, .cons _ t => by simp [RepF.len t]
end
section
variable {X : Cx} {ca : Ct} {W : WX} {e o value : Expr} {es : List Expr} {f : Str} {pos pos' apos : Pos} {g go gv : GE}
/-- the instance's fields -/
def insOf (c : Nat) (s : S) : D → Option (List (Str × D))
  | .obj n => match s[n]? with
    | some (.ins c' fs) => if c' = c then some fs else none
    | _ => none
  | _ => none
theorem insOf_at {K : PySem.W.Frag} {ι : Wd} {H : Hp} {s : S} (m : Sim K ca ι s H) {c : Nat} {d : D} {v : V} {fs : List (Str × D)} (r : Rep K ι H d v) (h : insOf c s d = some fs) : ∃ n a dx ws, d = .obj n ∧ v = .ref a ∧ ι.ι[n]? = some a ∧ H a = some (.ins (ca.c c) dx ws) ∧ RepF K ι H fs ws := by
  cases r with
  | @obj a n hn =>
    simp only [insOf] at h
    split at h
    · rename_i c' fs' hs
      split at h
      · rename_i hc
        cases h
        subst hc
        obtain ⟨dx, ws, h1, h2⟩ := m.ob n a _ hn hs
        exact ⟨n, a, dx, ws, rfl, rfl, hn, h1, h2⟩
      · cases h
    · cases h
  | _ => cases h
def gFld (c : Nat) (f : Str) (g : GE) : GE := fun ρ s => (g ρ s).bind fun d s1 => R.ofO ((insOf c s1 d).bind fun fs => fs.lookup f) s1
theorem je_fld {c : Nat} (hC : Cls X.K (ca.c c)) (hN : NoAttr X.K (ca.c c) f) (he : JE X ca W e g) (hb : attributeBase e f X.env (eval e X.env) = eval e X.env := by rfl) : JE X ca W (.Attribute e f pos) (gFld c f g) :=
  PE.imp (pe_fld he hb) fun σ H Q ⟨ι, ρ, s, hr, hm, h⟩ => bindE famE hr hm h fun ι1 s1 d v H1 l1 hr1 hm1 rd h1 => by
    cases e1 : insOf c s1 d with
    | none => rw [e1] at h1; exact h1.elim
    | some fs =>
      rw [e1] at h1
      simp only [Option.bind_some] at h1
      cases e2 : fs.lookup f with
      | none => rw [e2] at h1; exact h1.elim
      | some x =>
        rw [e2] at h1
        obtain ⟨n, a, dx, ws, rfl, rfl, _, h2, h3⟩ := insOf_at hm1 rd e1
        obtain ⟨y, h4, h5⟩ := (h3.look (f := f)).1 x e2
        exact ⟨a, _, dx, ws, y, rfl, h2, hC, hN, h4, h1 _ _ _ .refl hm1 h5⟩
/-- o.f = value -/
def sFldJ (c : Nat) (f : Str) (go gv : GE) : GS := fun ρ s => (gv ρ s).bind fun x s1 => (go ρ s1).bind fun d s2 => match d with
  | .obj n => (match insOf c s2 (.obj n) with
    | some fs => if fs.length < 1000 then .ok (.nx ρ) (s2.set n (.ins c (putD f x fs))) else .no
    | none => .no)
  | _ => .no
theorem js_fld {c : Nat} (hC : Cls X.K (ca.c c)) (hN : NoAttr X.K (ca.c c) f) (ho : JE X ca W o go) (hv : JE X ca W value gv) (hs : swapsWith value (some (.Attribute o f pos')) pos.line X.env = pure false := by rfl) :
    JS X ca W (.Assign [.Attribute o f pos'] value pos) (sFldJ c f go gv) :=
  PS.imp (ps_fld ho hv hs) fun D σ H ⟨ι, ρ, s, hr, hm, h⟩ => bindE famS hr hm h fun ι1 s1 x v H1 l1 hr1 hm1 rx h1 => bindE famS hr1 hm1 h1 fun ι2 s2 d u H2 l2 hr2 hm2 rd h2 => by
    split at h2
    · rename_i n
      split at h2
      · rename_i fs e1
        split at h2
        · rename_i hl
          obtain ⟨n', a, dx, ws, e, rfl, hn, h3, h4⟩ := insOf_at hm2 rd e1
          cases e
          refine ⟨a, _, dx, ws, rfl, h3, hC, hN, by rw [← h4.len]; exact hl, ?_⟩
          obtain ⟨l, m'⟩ := hm2.write (o := .ins (ca.c c) dx (putF f v ws)) (u := .ins c (putD f x fs)) hn trivial fun l => ⟨dx, _, upd_same, (h4.mono l).put ((rx.mono l2).mono l)⟩
          exact h2 _ _ _ l m' (hr2.mono l)
        · exact h2.elim
      · exact h2.elim
    · exact h2.elim
/-- a method by its mirror: o.m(..) -/
structure JMeth (P : Program) (w : World) (K : PySem.W.Frag) (mg : Str → Option Value) (base : Heap) (ca : Ct) (k c : Nat) (m : Str) (n : Nat) (F : List D → S → R D) : Prop where
  ex : ∃ g fd ps, Meth K (ca.c c) m g ∧ Binds K fd ps [] ∧ ps.length = n + 1 ∧ FnOk P w K mg base (L2.CX P w) k g fd ps (spJ K ca (n + 1) F)
theorem pe_methJ {CX : CXT} {k : Nat} {C g : Addr} {m : Str} {fd : FuncData} {ps : List Str} {sp : Sp} {E : L2.St → XK} {ta : TE} {t : TA} {pl : Sem Bool} (he : PE X o ta) (c : Cls X.K C) (hm : Meth X.K C m g) (F : FnOk X.prog X.w X.K X.mg X.base CX k g fd ps sp) (hr : Room k X.A) (hb : Binds X.K fd ps []) (hx : ∀ σ, PassesAt CX X σ (E σ)) (ha : PA X (e :: es) t) (hst : starEach (e :: es) X.env = (false, eval e X.env) :: starEach es X.env := by rfl) (hpl : (backTo pos (starEach es X.env)).any (·.1) = false := by rfl)
    (ht : eval (.Call (.Attribute o m apos) (e :: es) [] pos) X.env = (do
      let ov ← eval o X.env; standAt apos.atName
      let (f, first) ← holding [ov] (getMethod ov m pl); callWith pos f first (backTo pos (starEach (e :: es) X.env)) (backToKw pos (keywordEach [] X.env))) := by rfl) :
    PE X (.Call (.Attribute o m apos) (e :: es) [] pos) (fun σ H Q => ta σ H fun x H1 => ∃ a dx fs, x = .ref a ∧ H1 a = some (.ins C dx fs) ∧ fs.lookup m = none ∧ t σ H1 fun vs H2 => sp (x :: vs) H2 Q (E σ)) := by
  refine ⟨fun pins s σ H Q I h => PySem.W.methodCall_KW (pl := pl) (thn (he.run pins s σ H _ I h) fun u s1 ⟨x, H1, I1, rx, q⟩ => ?_) ht⟩
  obtain ⟨a, dx, fs, rfl, ea, l, q⟩ := q
  obtain rfl : u = Value.ref a := rx
  refine getmeth_ok I1 ea c hm l (PySem.W.callWith_K (first := [.ref a]) (h₀ := X.base) I.ok.mod.kin hm.kp (thn (ha.run pos pins s1 σ H1 _ I1 q) fun us s2 q2 => ?_) hst hpl)
  obtain ⟨vs, H2, I2, r, q2⟩ := q2
  exact ⟨I2.kIn, run_fnS (us := .ref a :: us) (vs := .ref a :: vs) F hr hb (hx σ) I2 (.cons rfl r) q2⟩
theorem pe_methJ0 {CX : CXT} {k : Nat} {C g : Addr} {m : Str} {fd : FuncData} {ps : List Str} {sp : Sp} {E : L2.St → XK} {ta : TE} {pl : Sem Bool} (he : PE X o ta) (c : Cls X.K C) (hm : Meth X.K C m g) (F : FnOk X.prog X.w X.K X.mg X.base CX k g fd ps sp) (hr : Room k X.A) (hb : Binds X.K fd ps []) (hx : ∀ σ, PassesAt CX X σ (E σ))
    (ht : eval (.Call (.Attribute o m apos) [] [] pos) X.env = (do
      let ov ← eval o X.env; standAt apos.atName
      let (f, first) ← holding [ov] (getMethod ov m pl); callWith pos f first (backTo pos (starEach [] X.env)) (backToKw pos (keywordEach [] X.env))) := by rfl) :
    PE X (.Call (.Attribute o m apos) [] [] pos) (fun σ H Q => ta σ H fun x H1 => ∃ a dx fs, x = .ref a ∧ H1 a = some (.ins C dx fs) ∧ fs.lookup m = none ∧ sp [x] H1 Q (E σ)) := by
  refine ⟨fun pins s σ H Q I h => PySem.W.methodCall_KW (pl := pl) (thn (he.run pins s σ H _ I h) fun u s1 ⟨x, H1, I1, rx, q⟩ => ?_) ht⟩
  obtain ⟨a, dx, fs, rfl, ea, l, q⟩ := q
  obtain rfl : u = Value.ref a := rx
  exact getmeth_ok I1 ea c hm l (PySem.W.callWith_K0 (first := [.ref a]) I1.kIn hm.kp (run_fnS (us := [.ref a]) (vs := [.ref a]) F hr hb (hx σ) I1 (.cons rfl .nil) q))
/-- o.m(..): o's class is the c-th, its fields do not hide m -/
def gMeth (c n : Nat) (m : Str) (F : List D → S → R D) (go : GE) (gr : GA) : GE := fun ρ s => (go ρ s).bind fun d s1 => match insOf c s1 d with
  | some fs => if (fs.lookup m).isNone then (gr ρ s1).bind fun ds s2 => if ds.length = n then F (d :: ds) s2 else .no else .no
  | none => .no
theorem je_meth {c k n : Nat} {m : Str} {F : List D → S → R D} {gr : GA} (hC : Cls X.K (ca.c c)) (h : JMeth X.prog X.w X.K X.mg X.base ca k c m n F) (hr : Room k X.A) (tk : Takes X W) (ho : JE X ca W o go) (ha : JA X ca W (e :: es) gr) {pl : Sem Bool}
    (hst : starEach (e :: es) X.env = (false, eval e X.env) :: starEach es X.env := by rfl) (hpl : (backTo pos (starEach es X.env)).any (·.1) = false := by rfl)
    (ht : eval (.Call (.Attribute o m apos) (e :: es) [] pos) X.env = (do
      let ov ← eval o X.env; standAt apos.atName
      let (f, first) ← holding [ov] (getMethod ov m pl); callWith pos f first (backTo pos (starEach (e :: es) X.env)) (backToKw pos (keywordEach [] X.env))) := by rfl) :
    JE X ca W (.Call (.Attribute o m apos) (e :: es) [] pos) (gMeth c n m F go gr) := by
  obtain ⟨g', fd, ps, hm, hb, hn, F'⟩ := h.ex
  refine PE.imp (pe_methJ (pl := pl) ho hC hm F' hr hb (fun σ => passAt tk σ) ha hst hpl ht) fun σ H Q ⟨ι, ρ, s, hrs, hms, h⟩ => bindE famE hrs hms h fun ι1 s1 d v H1 l1 hr1 hm1 rd h1 => ?_
  cases e1 : insOf c s1 d with
  | none => rw [e1] at h1; exact h1.elim
  | some fs =>
    rw [e1] at h1
    simp only at h1
    split at h1
    · rename_i hno
      obtain ⟨n', a, dx, ws, rfl, rfl, hn', h2, h3⟩ := insOf_at hm1 rd e1
      refine ⟨a, dx, ws, rfl, h2, (h3.look (f := m)).2 (Option.isNone_iff_eq_none.mp hno), bindA famE hr1 hm1 h1 fun ι2 s2 ds vs H2 l2 hr2 hm2 rs h4 => ?_⟩
      split at h4
      · rename_i hl
        exact ⟨ι2, _, s2, .cons (rd.mono l2) rs, hm2, by simp [hl], h4⟩
      · exact h4.elim
    · exact h1.elim
theorem je_meth0 {c k : Nat} {m : Str} {F : List D → S → R D} (hC : Cls X.K (ca.c c)) (h : JMeth X.prog X.w X.K X.mg X.base ca k c m 0 F) (hr : Room k X.A) (tk : Takes X W) (ho : JE X ca W o go) {pl : Sem Bool}
    (ht : eval (.Call (.Attribute o m apos) [] [] pos) X.env = (do
      let ov ← eval o X.env; standAt apos.atName
      let (f, first) ← holding [ov] (getMethod ov m pl); callWith pos f first (backTo pos (starEach [] X.env)) (backToKw pos (keywordEach [] X.env))) := by rfl) :
    JE X ca W (.Call (.Attribute o m apos) [] [] pos) (gMeth c 0 m F go gaNil) := by
  obtain ⟨g', fd, ps, hm, hb, hn, F'⟩ := h.ex
  refine PE.imp (pe_methJ0 (pl := pl) ho hC hm F' hr hb (fun σ => passAt tk σ) ht) fun σ H Q ⟨ι, ρ, s, hrs, hms, h⟩ => bindE famE hrs hms h fun ι1 s1 d v H1 l1 hr1 hm1 rd h1 => ?_
  cases e1 : insOf c s1 d with
  | none => rw [e1] at h1; exact h1.elim
  | some fs =>
    rw [e1] at h1
    simp only at h1
    split at h1
    · rename_i hno
      obtain ⟨n', a, dx, ws, rfl, rfl, hn', h2, h3⟩ := insOf_at hm1 rd e1
      exact ⟨a, dx, ws, rfl, h2, (h3.look (f := m)).2 (Option.isNone_iff_eq_none.mp hno), ι1, _, s1, .cons rd .nil, hm1, rfl, h1⟩
    · exact h1.elim
/-- C(..): a new instance of the c-th class, then its __init__, which errs never -/
def gMake (c n : Nat) (F : List D → S → R D) (gr : GA) : GE := fun ρ s => (gr ρ s).bind fun ds s1 => if ds.length = n then (noErr (F (.obj s1.length :: ds) (s1 ++ [.ins c []]))).bind fun r s2 => match r with
  | .non => .ok (.obj s1.length) s2
  | _ => .no else .no
structure JMake (P : Program) (w : World) (K : PySem.W.Frag) (mg : Str → Option Value) (base : Heap) (ca : Ct) (k c : Nat) (x : Str) (n : Nat) (F : List D → S → R D) : Prop where
  ex : ∃ g fd ps, mg x = some (.ref (ca.c c)) ∧ Mk K (ca.c c) g ∧ Binds K fd ps [] ∧ ps.length = n + 1 ∧ FnOk P w K mg base (L2.CX P w) k g fd ps (spJ K ca (n + 1) F)
theorem je_make {c k n : Nat} {x : Str} {p : Pos} {F : List D → S → R D} {gr : GA} (h : JMake X.prog X.w X.K X.mg X.base ca k c x n F) (hr : Room (k + 1) X.A) (hx : Passes (L2.CX X.prog X.w) X (fun _ _ _ => False)) (ha : JA X ca W (e :: es) gr) (hg : Gl X x := by rfl) (hdb : (x == ("__debug__" : Str)) = false := by decide)
    (he : starEach (e :: es) X.env = (false, eval e X.env) :: starEach es X.env := by rfl) (hpl : (backTo pos (starEach es X.env)).any (·.1) = false := by rfl) : JE X ca W (.Call (.Name x p) (e :: es) [] pos) (gMake c n F gr) := by
  obtain ⟨g', fd, ps, hm, M, hb, hn, F'⟩ := h.ex
  refine PE.imp (pe_make M F' hr hg hm hb .nil hx ha hdb he hpl) fun σ H Q ⟨ι, ρ, s, hrs, hms, h⟩ => bindA famE hrs hms h fun ι1 s1 ds vs H1 l1 hr1 hm1 rs h1 x' dx hx' hd' hne => ?_
  split at h1
  · rename_i hl
    obtain ⟨l2, m2⟩ := hm1.new (o := .own x') hd'
    have f2 : upd H1 dx (.own x') x' = none := by rw [upd_ne (fun z => hne z.symm)]; exact hx'
    obtain ⟨l3, m3⟩ := m2.alloc (o := .ins (ca.c c) dx []) (u := .ins c []) f2 trivial fun l => ⟨dx, [], upd_same, .nil⟩
    have ho : (ι1.ι ++ [x'])[s1.length]? = some x' := by rw [← hm1.len]; simp
    refine ⟨_, .obj s1.length :: ds, s1 ++ [.ins c []], ?_, m3, by simp [hl], ?_⟩
    · rw [List.append_nil]
      exact .cons (.obj ho) ((rs.mono l2).mono l3)
    · cases e1 : F (.obj s1.length :: ds) (s1 ++ [.ins c []]) with
      | err _ _ => rw [e1] at h1; exact h1.elim
      | no => rw [e1] at h1; exact h1.elim
      | ok r s2 =>
        rw [e1] at h1
        simp only [noErr, R.bind_ok] at h1
        intro ι4 v4 H4 l4 m4 r4
        cases r4 with
        | non =>
          refine ⟨rfl, h1 ι4 _ H4 ((l2.trans l3).trans l4) m4 ?_⟩
          exact (Rep.obj (K := X.K) (H := upd (upd H1 dx (.own x')) x' (.ins (ca.c c) dx [])) (ι := ⟨ι1.ι ++ [x'], x' :: ι1.M⟩) ho).mono l4
        | _ => exact h1.elim
  · exact h1.elim
end
end J


set_option Elab.async false
set_option linter.all false
set_option maxRecDepth 100000
set_option maxHeartbeats 4000000
/-! J12: dicts keyed by ints and texts: asked, stored; a new mutable list by repeating; a comprehension whose list is mutable. -/
namespace J
open PySem PySem.Spec L2
def keyD : D → Option Key
  | .int i => some (.inl i)
  | .str x => some (.inr x)
  | _ => none
def valD (kvs : List (Key × D)) (k : Key) : Option D := (kvs.find? fun kv => decide (kv.1 = k)).map (·.2)
def putKD (kvs : List (Key × D)) (k : Key) (d : D) : List (Key × D) := if (kvs.any fun kv => decide (kv.1 = k)) = true then kvs.map (fun kv => if kv.1 = k then (kv.1, d) else kv) else kvs ++ [(k, d)]
section
variable {K : PySem.W.Frag} {ca : Ct} {ι : Wd} {H : Hp} {s : S}
theorem keyD_rep {d : D} {v : V} {k : Key} (r : Rep K ι H d v) (h : keyD d = some k) : v = kV k := by
  cases r <;> cases h <;> rfl
theorem RepF.val {k : Key} : ∀ {fs : List (Key × D)} {ws : List (Key × V)}, RepF K ι H fs ws → (∀ d, valD fs k = some d → ∃ v, valV ws k = some v ∧ Rep K ι H d v) ∧ (valD fs k = none → valV ws k = none)
  | _, _, .nil => ⟨fun _ h => (by cases h), fun _ => rfl⟩
  | (g, d) :: fs, (g', v) :: ws, .cons ⟨e, r⟩ t => by
    have e : g = g' := e
    subst e
    have ih := RepF.val (k := k) t
    by_cases z : g = k
    · subst z
      refine ⟨fun x hx => ?_, fun h => ?_⟩
      · have : d = x := by simpa [valD, List.find?_cons] using hx
        subst this
        exact ⟨v, valV_pos rfl, r⟩
      · simp [valD, List.find?_cons] at h
    · rw [valV_neg (p := (g, v)) z]
      have e2 : valD ((g, d) :: fs) k = valD fs k := by simp [valD, List.find?_cons, z]
      rw [e2]
      exact ih
theorem RepF.anyK {k : Key} : ∀ {fs : List (Key × D)} {ws : List (Key × V)}, RepF K ι H fs ws → (fs.any fun kv => decide (kv.1 = k)) = (ws.any fun kv => decide (kv.1 = k))
  | _, _, .nil => rfl
  | (g, d) :: fs, (g', v) :: ws, .cons ⟨e, r⟩ t => by
    have e : g = g' := e
    subst e
    simp only [List.any_cons, RepF.anyK (k := k) t]
theorem RepF.mapK {k : Key} {d : D} {v : V} (r : Rep K ι H d v) : ∀ {fs : List (Key × D)} {ws : List (Key × V)}, RepF K ι H fs ws → RepF K ι H (fs.map fun kv => if kv.1 = k then (kv.1, d) else kv) (ws.map fun kv => if kv.1 = k then (kv.1, v) else kv)
  | _, _, .nil => .nil
  | (g, x) :: fs, (g', y) :: ws, .cons ⟨e, q⟩ t => by
    have e : g = g' := e
    subst e
    simp only [List.map_cons]
    by_cases z : g = k
    · rw [if_pos z, if_pos z]; exact .cons ⟨rfl, r⟩ (RepF.mapK r t)
    · rw [if_neg z, if_neg z]; exact .cons ⟨rfl, q⟩ (RepF.mapK r t)
theorem RepF.snoc {k : Key} {d : D} {v : V} (r : Rep K ι H d v) : ∀ {fs : List (Key × D)} {ws : List (Key × V)}, RepF K ι H fs ws → RepF K ι H (fs ++ [(k, d)]) (ws ++ [(k, v)])
  | _, _, .nil => .cons ⟨rfl, r⟩ .nil
  | _ :: _, _ :: _, .cons q t => .cons q (RepF.snoc r t)
theorem RepF.putK {k : Key} {d : D} {v : V} (r : Rep K ι H d v) {fs : List (Key × D)} {ws : List (Key × V)} (h : RepF K ι H fs ws) : RepF K ι H (putKD fs k d) (L2.putK ws k v) := by
  unfold putKD L2.putK
  rw [h.anyK]
  split
  · exact h.mapK r
  · exact h.snoc r
theorem RepF.lenK : ∀ {fs : List (Key × D)} {ws : List (Key × V)}, RepF K ι H fs ws → fs.length = ws.length
  | _, _, .nil => rfl
  | _ :: _, _ :: _, .cons _ t => by simp [RepF.lenK t]
def dicOf (s : S) : D → Option (List (Key × D))
  | .obj n => match s[n]? with
    | some (.dic kvs) => some kvs
    | _ => none
  | _ => none
theorem dicOf_at (m : Sim K ca ι s H) {d : D} {v : V} {fs : List (Key × D)} (r : Rep K ι H d v) (h : dicOf s d = some fs) : ∃ n a ws, d = .obj n ∧ v = .ref a ∧ ι.ι[n]? = some a ∧ H a = some (.dK ws) ∧ RepF K ι H fs ws := by
  cases r with
  | @obj a n hn =>
    simp only [dicOf] at h
    split at h
    · rename_i kvs hs
      cases h
      obtain ⟨ws, h1, h2⟩ := m.ob n a _ hn hs
      exact ⟨n, a, ws, rfl, rfl, hn, h1, h2⟩
    · cases h
  | _ => cases h
end
section
variable {X : Cx} {ca : Ct} {W : WX} {e o i value : Expr} {es : List Expr} {pos pos' apos : Pos} {g go gi gv gx : GE}
def fDGet (s : S) (x y : D) : Option D := (dicOf s x).bind fun kvs => (keyD y).bind fun k => valD kvs k
theorem je_dget {j : Nat} (hr : Room j X.A) (ho : JE X ca W o go) (hi : JE X ca W i gi) (hs : NoSl i := by exact fun _ _ => rfl) : JE X ca W (.Subscript o i pos) (gOp2 fDGet go gi) :=
  PE.imp (pe_dget (hu_of hr) ho hi hs) fun σ H Q ⟨ι, ρ, s, hrs, hm, h⟩ => bindE famE hrs hm h fun ι1 s1 x v H1 l1 hr1 hm1 rx h1 => bindE famE hr1 hm1 h1 fun ι2 s2 y u H2 l2 hr2 hm2 ry h2 => by
    cases e1 : dicOf s2 x with
    | none => simp [fDGet, e1] at h2; exact h2.elim
    | some kvs =>
      cases e2 : keyD y with
      | none => simp [fDGet, e1, e2] at h2; exact h2.elim
      | some k =>
        cases e3 : valD kvs k with
        | none => simp [fDGet, e1, e2, e3] at h2; exact h2.elim
        | some d =>
          simp only [fDGet, e1, e2, e3, Option.bind_some, R.ofO_some] at h2
          obtain ⟨n, a, ws, rfl, rfl, hn, h3, h4⟩ := dicOf_at hm2 (rx.mono l2) e1
          obtain ⟨z, h5, h6⟩ := (h4.val (k := k)).1 d e3
          have hk := keyD_rep ry e2
          subst hk
          refine ⟨a, z, rfl, ?_, h2 _ _ _ .refl hm2 h6⟩
          rw [← h5]; exact DGet.k h3
/-- o[i] = value, o a dict -/
def sDPutJ (gv go gi : GE) : GS := fun ρ s => (gv ρ s).bind fun x s1 => (go ρ s1).bind fun d s2 => (gi ρ s2).bind fun y s3 => match d with
  | .obj n => (match dicOf s3 (.obj n), keyD y with
    | some kvs, some k => if fitL (kvs.length + 1) then .ok (.nx ρ) (s3.set n (.dic (putKD kvs k x))) else .no
    | _, _ => .no)
  | _ => .no
theorem js_dput {j : Nat} (hr : Room j X.A) (hv : JE X ca W value gv) (ho : JE X ca W o go) (hi : JE X ca W i gi) (hs : swapsWith value (some (.Subscript o i pos')) pos.line X.env = pure false := by rfl) : JS X ca W (.Assign [.Subscript o i pos'] value pos) (sDPutJ gv go gi) :=
  PS.imp (ps_dput (hu_of hr) ho hi hv hs) fun D σ H ⟨ι, ρ, s, hrs, hm, h⟩ => bindE famS hrs hm h fun ι1 s1 x v H1 l1 hr1 hm1 rx h1 => bindE famS hr1 hm1 h1 fun ι2 s2 d u H2 l2 hr2 hm2 rd h2 => bindE famS hr2 hm2 h2 fun ι3 s3 y w H3 l3 hr3 hm3 ry h3 => by
    split at h3
    · rename_i n
      split at h3
      · rename_i kvs k e1 e2
        split at h3
        · rename_i hl
          obtain ⟨n', a, ws, e, rfl, hn, h4, h5⟩ := dicOf_at hm3 (rd.mono l3) e1
          cases e
          have hk := keyD_rep ry e2
          subst hk
          have hl := fitL_le hl
          refine ⟨a, _, rfl, DPut.k h4 (by rw [← h5.lenK]; omega), ?_⟩
          obtain ⟨l, m'⟩ := hm3.write (o := .dK (L2.putK ws k v)) (u := .dic (putKD kvs k x)) hn trivial fun l => ⟨_, upd_same, (h5.mono l).putK (((rx.mono l2).mono l3).mono l)⟩
          exact h3 _ _ _ l m' (hr3.mono l)
        · exact h3.elim
      · exact h3.elim
    · exact h3.elim
/-- xs * n as a new mutable list -/
def gRepM (ga gb : GE) : GE := fun ρ s => (ga ρ s).bind fun x s1 => (gb ρ s1).bind fun y s2 => match x, y with
  | .lst ds, .int j => if decide (-(2 ^ 63) ≤ j) && decide (j < 2 ^ 63) && fitL (ds.length * j.toNat) then .ok (.obj s2.length) (s2 ++ [.lst (List.replicate j.toNat ds).flatten]) else .no
  | _, _ => .no
theorem je_repM {a b : Expr} {ga gb : GE} (ha : JE X ca W a ga) (hb : JE X ca W b gb) : JE X ca W (.BinOp a .Mult b pos) (gRepM ga gb) :=
  PE.imp (pe_op op_rep ha hb) fun σ H Q ⟨ι, ρ, s, hrs, hm, h⟩ => bindE famE hrs hm h fun ι1 s1 x v H1 l1 hr1 hm1 rx h1 => bindE famE hr1 hm1 h1 fun ι2 s2 y u H2 l2 hr2 hm2 ry h2 => by
    have rx := rx.mono l2
    cases rx with
    | lst q1 q2 q3 =>
      cases ry with
      | int j =>
        simp only at h2
        split at h2
        · rename_i hl
          simp only [Bool.and_eq_true, decide_eq_true_eq] at hl
          obtain ⟨⟨k1, k2⟩, k3⟩ := hl
          refine ⟨_, _, _, rfl, rfl, q1, k1, k2, by rw [← q3.length]; exact fitL_le k3, fun p hp => ?_⟩
          obtain ⟨l, m⟩ := hm2.alloc (o := .lst (List.replicate j.toNat _).flatten) (u := .lst (List.replicate j.toNat _).flatten) hp trivial fun l => ⟨_, upd_same, (q3.flat _).mono l⟩
          exact h2 _ _ _ l m (.obj (by simp [← hm2.len]))
        · exact h2.elim
      | _ => exact h2.elim
    | _ => exact h2.elim
end
end J


set_option Elab.async false
set_option linter.all false
set_option maxRecDepth 100000
set_option maxHeartbeats 4000000
/-! J13: a comprehension whose list is a mutable object; d.get(k, x). -/
namespace J
open PySem PySem.Spec L2
theorem Sim.adopt {K : PySem.W.Frag} {ca : Ct} {ι : Wd} {s : S} {H : Hp} (m : Sim K ca ι s H) {p : Addr} {u : IO} (hM : p ∈ ι.M) (hn : p ∉ ι.ι) (r : Ke ι H ⟨ι.ι ++ [p], ι.M⟩ H → RepO K ca ⟨ι.ι ++ [p], ι.M⟩ H p u) : Ke ι H ⟨ι.ι ++ [p], ι.M⟩ H ∧ Sim K ca ⟨ι.ι ++ [p], ι.M⟩ (s ++ [u]) H := by
  have l : Ke ι H ⟨ι.ι ++ [p], ι.M⟩ H := ⟨List.prefix_append _ _, fun a o h _ n => ⟨h, n⟩, fun _ _ h => h, fun _ _ _ h => h⟩
  refine ⟨l, by simp [m.len], List.nodup_append.mpr ⟨m.nd, by simp, fun a ha b hb => ?_⟩, fun a ha => ?_, m.tr, m.tab.keep fun a o h n => ⟨h, n⟩, fun n a x hi hs => ?_⟩
  · have : b = p := by simpa using hb
    subst this
    exact fun z => hn (z ▸ ha)
  · rcases List.mem_append.mp ha with z | z
    · exact m.sub a z
    · rw [show a = p by simpa using z]; exact hM
  · by_cases hlt : n < ι.ι.length
    · have hi' : ι.ι[n]? = some a := by rw [← hi]; exact (List.getElem?_append_left hlt).symm
      have hs' : s[n]? = some x := by rw [← hs]; exact (List.getElem?_append_left (by rw [← m.len]; exact hlt)).symm
      exact (m.ob n a x hi' hs').monoK l rfl
    · have e1 : n = ι.ι.length := by
        have := (List.getElem?_eq_some_iff.mp hi).1
        simp at this; omega
      subst e1
      have ea : a = p := by simpa using hi.symm
      have ex : x = u := by
        rw [m.len] at hs
        simpa using hs.symm
      subst ea ex
      exact r l
theorem Le.adopt {ι ι' : Wd} {H H' : Hp} {p : Addr} (l : Le ι H ι' H') (h : H p = none) : Le ι H ⟨ι'.ι ++ [p], ι'.M⟩ H' :=
  ⟨⟨l.pre.trans (List.prefix_append _ _), l.keep, l.tup, l.frz⟩, fun a u q t n => ⟨(l.stay a u q t n).1, fun z => by
    rcases List.mem_append.mp z with z | z
    · exact (l.stay a u q t n).2 z
    · exact ne_of_none q h (by simpa using z)⟩, l.sub⟩
def gLcO (own : List Nat) (gi : GA) (t : TD) (gt : GT) (ge : GE) : GE := fun ρ s => (gi ρ s).bind fun ds s1 => if fitL ds.length then (lcLoop t gt ge (wipeD own ρ) ds s1).bind fun ys s2 => .ok (.obj s2.length) (s2 ++ [.lst ys]) else .no
theorem tG_lcO {ca : Ct} {K : PySem.W.Frag} {W : WX} {own : List Nat} {gi : GA} {t : TD} {gt : GT} {ge : GE} {tgt : TG} {σ : L2.St} {H : Hp} {Q : VK}
    (to : ∀ {ι : Wd} {H : Hp} {ρ ρ' : Env} {σ : L2.St} {d : D} {v : V} {Q : L2.St → Hp → Prop}, RelS K ι H (wipeD own ρ) (wipe σ own) → Rep K ι H d v → t d (wipeD own ρ) = some ρ' → (∀ σ', RelS K ι H ρ' σ' → wipe σ' own = wipe σ own → Q σ' H) → tgt v (wipe σ own) H Q)
    (h : tG K ca W (gLcO own gi t gt ge) σ H Q) : tLc (tI K ca W gi) tgt (tT K ca W0 gt) (tG K ca W0 ge) own σ H Q := by
  obtain ⟨ι, ρ, s, hr, hm, h⟩ := h
  refine ⟨ι, ρ, s, hr, hm, ?_⟩
  unfold gLcO at h
  cases e : gi ρ s with
  | err x s1 => rw [e] at h; exact h
  | no => rw [e] at h; exact h
  | ok ds s1 =>
    rw [e] at h
    intro ι1 J H1 l1 hm1 it Da hDa
    simp only [R.bind_ok] at h
    split at h
    · rename_i hfit
      obtain ⟨lo, mo⟩ := hm1.open (o := .lst []) hDa trivial
      have nι : Da ∉ ι1.ι := fun z => hm1.ne hDa (hm1.sub _ z)
      -- the invariant
      refine ⟨fun i m H' => m = ds.length - i ∧ ∃ ι' s' acc vs, Le ι1 H1 ι' H' ∧ Da ∈ ι'.M ∧ Da ∉ ι'.ι ∧ Sim K ca ι' s' H' ∧ H' Da = some (.lst vs) ∧ Reps K ι' H' acc vs ∧ acc.length ≤ i ∧
        PostE K ca ι H ((lcLoop t gt ge (wipeD own ρ) (ds.drop i) s').bind fun ys s2 => .ok (.obj s2.length) (s2 ++ [(_root_.J.IO.lst (acc ++ ys))])) Q (fun cv dd H' => W cv dd σ H'), ⟨_, rfl, ⟨ι1.ι, Da :: ι1.M⟩, s1, [], [], lo, List.mem_cons_self, nι, mo, upd_same, .nil, Nat.le_refl _, h⟩, ?_⟩
      rintro i m H' ⟨rfl, ι', s', acc, vs, l', hDM, hDι, hm', hD', hacc, hlen, h'⟩
      obtain ⟨i1, i2⟩ := it ι' H' l'
      have l0 := l1.trans l'
      by_cases hlt : i < ds.length
      · have hd : ds[i]? = some ds[i] := List.getElem?_eq_getElem hlt
        obtain ⟨g1, g2⟩ := i1 i _ hd
        refine .inr ⟨g1, fun H2 => ∃ ι' s' acc vs, Le ι1 H1 ι' H2 ∧ Da ∈ ι'.M ∧ Da ∉ ι'.ι ∧ Sim K ca ι' s' H2 ∧ H2 Da = some (.lst vs) ∧ Reps K ι' H2 acc vs ∧ acc.length ≤ i + 1 ∧
          PostE K ca ι H ((lcLoop t gt ge (wipeD own ρ) (ds.drop (i + 1)) s').bind fun ys s2 => .ok (.obj s2.length) (s2 ++ [(_root_.J.IO.lst (acc ++ ys))])) Q (fun cv dd H' => W cv dd σ H'), fun H2 w => ⟨_, by omega, rfl, w⟩, fun x H2 y => ?_⟩
        obtain ⟨rfl, rx⟩ := g2 x H2 y
        rw [List.drop_eq_getElem_cons hlt] at h'
        unfold lcLoop at h'
        cases e2 : t ds[i] (wipeD own ρ) with
        | none => rw [e2] at h'; exact h'.elim
        | some ρ2 =>
          rw [e2] at h'
          simp only at h'
          refine to ((hr.mono l0).wipe own) rx e2 fun σ2 hr2 hw2 => ⟨hw2, ι', ρ2, s', hr2, hm', ?_⟩
          cases e3 : gt ρ2 s' with
          | err x s4 => rw [e3] at h'; exact h'.elim
          | no => rw [e3] at h'; exact h'.elim
          | ok k s4 =>
            rw [e3] at h'
            simp only [noErr, R.bind_ok] at h'
            intro ι3 H3 l3 m3
            have d3 := l3.stay _ _ hD' noTab_lst hDι
            cases k with
            | false =>
              rw [if_neg Bool.false_ne_true]
              simp only [Bool.false_eq_true, if_false] at h'
              exact ⟨ι3, s4, acc, vs, l'.trans l3, l3.sub _ hDM, d3.2, m3, d3.1, hacc.mono l3, by omega, h'⟩
            | true =>
              rw [if_pos rfl]
              simp only [if_true] at h'
              refine ⟨ι3, ρ2, s4, hr2.mono l3, m3, ?_⟩
              cases e4 : ge ρ2 s4 with
              | err x s5 => rw [e4] at h'; exact h'.elim
              | no => rw [e4] at h'; exact h'.elim
              | ok y s5 =>
                rw [e4] at h'
                simp only [R.bind_ok] at h'
                intro ι4 v4 H4 l4 m4 r4
                have d4 := l4.stay _ _ d3.1 noTab_lst d3.2
                obtain ⟨kf, mf⟩ := m4.fill (o := .lst (vs ++ [v4])) (l4.sub _ (l3.sub _ hDM)) d4.2 trivial
                have hv : vs.length = acc.length := (hacc.length).symm
                refine ⟨vs, d4.1, ?_, ι4, s5, acc ++ [y], vs ++ [v4], ((l'.trans l3).trans l4).updNone hDa, l4.sub _ (l3.sub _ hDM), d4.2, mf, upd_same, (Reps.monoK kf ((hacc.mono l3).mono l4)).append (.cons (Rep.monoK kf r4) .nil), by simp; omega, ?_⟩
                · have := fitL_le hfit
                  omega
                · cases e5 : lcLoop t gt ge (wipeD own ρ) (ds.drop (i + 1)) s5 with
                  | ok ys s6 => rw [e5] at h'; simpa using h'
                  | err x s6 => rw [e5] at h'; exact h'
                  | no => rw [e5] at h'; exact h'
      · refine .inl ⟨i2 i (by omega), ?_⟩
        rw [List.drop_eq_nil_of_le (by omega)] at h'
        simp only [lcLoop, R.bind_ok, List.append_nil] at h'
        obtain ⟨la, ms⟩ := hm'.adopt hDM hDι (u := .lst acc) fun l => ⟨vs, hD', Reps.monoK l hacc⟩
        exact h' _ _ H' (l1.trans (l'.adopt hDa)) ms (.obj (by simp [← hm'.len]))
    · exact h.elim

section
variable {X : Cx} {ca : Ct} {W : WX} {e o i f : Expr} {pos apos cpos : Pos} {go gi gx : GE}
theorem je_lcO {elt iter : Expr} {ifs : List Expr} {scope : Scope} {i : Nat} {x : Str} {tpos : Pos} {gi : GA} {gt : GT} {ge : GE} (hc : X.calm = true) (hN : X.N.Nodup) (hi : JI X ca W (.Name x tpos) iter gi) (ok : BlkOk X.N X.env.scope scope [(x, i)])
    (hg : ∀ (s : Shared) (H : Hp) (C : Addr) (cl : List (Str × Addr)) (fp : List Addr), PG (X.blk s H scope (compEnvC scope cl C X.env) fp) (.Name x tpos) (gName i))
    (ht : ∀ (s : Shared) (H : Hp) (C : Addr) (cl : List (Str × Addr)) (fp : List Addr), JTs (X.blk s H scope (compEnvC scope cl C X.env) fp) ca W0 ifs gt)
    (he : ∀ (s : Shared) (H : Hp) (C : Addr) (cl : List (Str × Addr)) (fp : List Addr), JE (X.blk s H scope (compEnvC scope cl C X.env) fp) ca W0 elt ge) (hs : ∀ x, foldedSetIterable iter X.env x = pure x := by intro _; rfl) :
    JE X ca W (.ListComp elt [⟨.Name x tpos, iter, ifs, 0⟩] scope pos) (gLcO [i] gi (dName i) gt ge) :=
  PE.imp (pe_lc (own := [(x, i)]) (g := gName i) (wi := tI X.K ca W gi) (tt := tT X.K ca W0 gt) (te := tG X.K ca W0 ge) hc hN hi ok hg ht he hs) fun σ H Q h => tG_lcO (own := [i]) (fun {ι H ρ ρ' σ d v Q} r rd e k => by
    cases e
    refine k _ (r.set rd i) ?_
    show ((wipe σ [i]).set i (some v)).set i none = (σ.set i none)
    show ((σ.set i none).set i (some v)).set i none = (σ.set i none)
    rw [List.set_set, List.set_set]) h

/-- d.get(k, x) -/
def gDGet2 (go gi gx : GE) : GE := fun ρ s => (go ρ s).bind fun d s1 => match dicOf s1 d with
  | some _ => (gi ρ s1).bind fun y s2 => (gx ρ s2).bind fun x s3 => (match dicOf s3 d, keyD y with
    | some kvs, some k => .ok ((valD kvs k).getD x) s3
    | _, _ => .no)
  | none => .no
theorem je_dget2 {j : Nat} (hr : Room j X.A) (ho : JE X ca W o go) (he : JE X ca W e gi) (hf : JE X ca W f gx) (m : M2 X o "get" apos e f cpos := by exact ⟨rfl, rfl, rfl, rfl⟩) : JE X ca W (.Call (.Attribute o "get" apos) [e, f] [] cpos) (gDGet2 go gi gx) :=
  PE.imp (pe_dget2 (hu_of hr) ho he hf m) fun σ H Q ⟨ι, ρ, s, hrs, hm, h⟩ => bindE famE hrs hm h fun ι1 s1 d v H1 l1 hr1 hm1 rd h1 => by
    split at h1
    · rename_i kvs0 e0
      obtain ⟨n0, a, ws0, rfl, rfl, hn0, h2, _⟩ := dicOf_at hm1 rd e0
      refine ⟨a, rfl, .inl ⟨ws0, .inl h2⟩, bindE famE hr1 hm1 h1 fun ι2 s2 y u H2 l2 hr2 hm2 ry h3 => bindE famE hr2 hm2 h3 fun ι3 s3 x w H3 l3 hr3 hm3 rx h4 => ?_⟩
      split at h4
      · rename_i kvs k e1 e2
        obtain ⟨n, a', ws, e, e', hn, h5, h6⟩ := dicOf_at hm3 ((rd.mono l2).mono l3) e1
        cases e'
        have hk := keyD_rep ry e2
        subst hk
        refine ⟨valV ws k, DGet.k h5, ?_⟩
        cases e3 : valD kvs k with
        | none =>
          rw [(h6.val (k := k)).2 e3]
          rw [e3] at h4
          exact h4 _ _ _ .refl hm3 rx
        | some d' =>
          obtain ⟨z, h7, h8⟩ := (h6.val (k := k)).1 d' e3
          rw [h7]
          rw [e3] at h4
          exact h4 _ _ _ .refl hm3 h8
      · exact h4.elim
    · exact h1.elim
end
end J


set_option Elab.async false
set_option linter.all false
set_option maxRecDepth 100000
set_option maxHeartbeats 4000000
/-! J14: a dict written with text keys, as a mutable object. -/
namespace J
open PySem PySem.Spec L2
theorem R.bind_assoc {α β γ : Type} (r : R α) (k : α → S → R β) (l : β → S → R γ) : (r.bind k).bind l = r.bind fun a s => (k a s).bind l := by cases r <;> rfl
def gKV : List (Str × GE) → Env → S → R (List (Key × D))
  | [], _, s => .ok [] s
  | (k, g) :: r, ρ, s => (g ρ s).bind fun d s1 => (gKV r ρ s1).bind fun ps s2 => .ok ((.inr k, d) :: ps) s2
def mergeD (ps : List (Key × D)) : List (Key × D) := ps.foldl (fun acc kv => putKD acc kv.1 kv.2) []
def gDisp (kgs : List (Str × GE)) : GE := fun ρ s => if decide (kgs.length ≤ 15) then (gKV kgs ρ s).bind fun ps s1 => .ok (.obj s1.length) (s1 ++ [.dic (mergeD ps)]) else .no
section
variable {K : PySem.W.Frag} {ca : Ct} {W : WX} {σ : L2.St} {ρ : Env}
theorem famB {ι0 : Wd} {H0 : Hp} {Q : VK} {E : XK} : Fam K ca E (fun ι H (r : R D) => Le ι0 H0 ι H ∧ PostE K ca ι0 H0 r Q E) :=
  ⟨fun h l => ⟨h.1.trans l, h.2⟩, fun h ι' cv dd H' l m x => h.2 ι' cv dd H' (h.1.trans l) m x, fun h => h.2⟩
theorem tPairs_g {ι0 : Wd} {H0 : Hp} {Q : VK} : ∀ (kgs : List (Str × GE)) {ι : Wd} {s : S} {H : Hp} {k : List (Key × D) → S → R D} {P : List (V × V) → Hp → Prop}, RelS K ι H ρ σ → Sim K ca ι s H → (Le ι0 H0 ι H ∧ PostE K ca ι0 H0 ((gKV kgs ρ s).bind k) Q (fun cv dd H' => W cv dd σ H')) →
    (∀ ι' s' ps (vs : List (Key × V)) H', Le ι H ι' H' → Sim K ca ι' s' H' → RepF K ι' H' ps vs → vs.length = kgs.length → (Le ι0 H0 ι' H' ∧ PostE K ca ι0 H0 (k ps s') Q (fun cv dd H' => W cv dd σ H')) → P (vs.map fun kv => (kV kv.1, kv.2)) H') →
    tPairs (kgs.map fun q => (tC (.str q.1), tG K ca W q.2)) σ H P
  | [], ι, s, H, k, P, hr, hm, h, st => st ι s [] [] H .refl hm .nil rfl h
  | (x, g) :: kgs, ι, s, H, k, P, hr, hm, h, st => by
    have e : (gKV ((x, g) :: kgs) ρ s).bind k = (g ρ s).bind fun d s1 => ((gKV kgs ρ s1).bind fun ps s2 => k ((.inr x, d) :: ps) s2) := by
      show ((g ρ s).bind fun d s1 => (gKV kgs ρ s1).bind fun ps s2 => .ok ((.inr x, d) :: ps) s2).bind k = _
      rw [R.bind_assoc]
      congr 1
      funext d s1
      rw [R.bind_assoc]; rfl
    rw [e] at h
    refine bindE (famB (ι0 := ι0) (H0 := H0)) hr hm h fun ι1 s1 d v H1 l1 hr1 hm1 rd h1 => ?_
    refine tPairs_g kgs hr1 hm1 h1 fun ι2 s2 ps vs H2 l2 hm2 rs hl h2 => ?_
    exact st ι2 s2 ((.inr x, d) :: ps) ((.inr x, v) :: vs) H2 (l1.trans l2) hm2 (.cons ⟨rfl, rd.mono l2⟩ rs) (by simp [hl]) h2
theorem RepF.merge {ι : Wd} {H : Hp} : ∀ {ps : List (Key × D)} {vs : List (Key × V)} {as : List (Key × D)} {bs : List (Key × V)}, RepF K ι H ps vs → RepF K ι H as bs → RepF K ι H (ps.foldl (fun acc kv => putKD acc kv.1 kv.2) as) (mergeK bs vs)
  | _, _, _, _, .nil, h => h
  | (g, d) :: ps, (g', v) :: vs, as, bs, .cons ⟨e, r⟩ t, h => by
    have e : g = g' := e
    subst e
    have z := RepF.merge t (RepF.putK (k := g) r h)
    exact z
end
section
variable {X : Cx} {ca : Ct} {W : WX} {pos : Pos}
theorem je_disp {keys : List (Option Expr)} {values : List Expr} {kgs : List (Str × GE)} (h : PPs X pos keys values (kgs.map fun q => (tC (.str q.1), tG X.K ca W q.2))) (hall : keys.all (·.isSome) = true := by rfl) (hl : keys.length = values.length := by rfl) (h0 : keys ≠ [] := by exact fun z => by cases z) (h15 : keys.length ≤ 15 := by decide) :
    JE X ca W (.Dict keys values pos) (gDisp kgs) :=
  PE.imp (pe_disp h hall hl h0 h15) fun σ H Q ⟨ι, ρ, s, hrs, hm, h⟩ p hp => by
    unfold gDisp at h
    split at h
    · rename_i hk
      have hk := of_decide_eq_true hk
      obtain ⟨lo, mo⟩ := hm.open (o := .dK []) hp trivial
      have nι : p ∉ ι.ι := fun z => hm.ne hp (hm.sub _ z)
      refine tPairs_g (ι0 := ι) (H0 := H) kgs (hrs.mono lo) mo ⟨lo, h⟩ fun ι2 s2 ps vs H2 l2 hm2 rs hlen h2 => ?_
      have hst := l2.stay _ _ upd_same (fun _ z => by cases z) nι
      refine ⟨hst.1, vs, rfl, by omega, ?_⟩
      have hM := l2.sub p List.mem_cons_self
      obtain ⟨kf, mf⟩ := hm2.fill (o := .dK (mergeK [] vs)) hM hst.2 trivial
      obtain ⟨la, ma⟩ := mf.adopt hM hst.2 (u := .dic (mergeD ps)) fun l => ⟨_, upd_same, RepF.monoK l (RepF.monoK kf (RepF.merge rs .nil))⟩
      exact h2.2 _ _ _ ((h2.1.updNone hp).adopt hp) ma (.obj (by simp [← hm2.len]))
    · exact h.elim
end
end J


set_option Elab.async false
set_option linter.all false
set_option maxRecDepth 100000
set_option maxHeartbeats 4000000
/-! J15: targets that store into objects: fields, dicts, tuples of such. -/
namespace J
open PySem PySem.Spec L2
abbrev TD2 := D → Env → S → R Env
abbrev TDs2 := List D → Env → S → R Env
def PostG (K : PySem.W.Frag) (ca : Ct) (ι : Wd) (H : Hp) (r : R Env) (Q : L2.St → Hp → Prop) : Prop := match r with
  | .ok ρ' s' => ∀ ι' σ' H', Le ι H ι' H' → Sim K ca ι' s' H' → RelS K ι' H' ρ' σ' → Q σ' H'
  | _ => False
theorem famG {K : PySem.W.Frag} {ca : Ct} {E : XK} {Q : L2.St → Hp → Prop} : Fam K ca E (fun ι H r => PostG K ca ι H r Q) := ⟨fun {ι H ι' H' r} h l => by
  cases r with
  | ok d s => exact fun ι2 σ2 H2 l2 m q => h ι2 σ2 H2 (l.trans l2) m q
  | err e s => exact h
  | no => exact h, fun h => h.elim, fun h => h⟩
def tg2 (K : PySem.W.Frag) (ca : Ct) (t : TD2) : TG := fun v σ H Q => ∃ ι ρ s d, RelS K ι H ρ σ ∧ Sim K ca ι s H ∧ Rep K ι H d v ∧ PostG K ca ι H (t d ρ s) Q
def tgs2 (K : PySem.W.Frag) (ca : Ct) (t : TDs2) : TGs := fun vs σ H Q => ∃ ι ρ s ds, RelS K ι H ρ σ ∧ Sim K ca ι s H ∧ Reps K ι H ds vs ∧ PostG K ca ι H (t ds ρ s) Q
def JG2 (X : Cx) (ca : Ct) (tg : Expr) (t : TD2) : Prop := PG X tg (tg2 X.K ca t)
def JGs2 (X : Cx) (ca : Ct) (tgs : List Expr) (t : TDs2) : Prop := PGs X tgs (tgs2 X.K ca t)
section
variable {X : Cx} {ca : Ct} {W : WX} {e o i tg : Expr} {es : List Expr} {f : Str} {pos : Pos} {g go gi : GE}
def d2Name (i : Nat) : TD2 := fun d ρ s => .ok (ρ.set i (some d)) s
theorem jg2_name (i : Nat) {x : Str} (hN : X.N.Nodup) (hi : X.N[i]? = some x := by rfl) (hx : Loc X.env.scope x := by first | exact Or.inl rfl | exact Or.inr rfl) (hf : X.fn x = true ∨ X.env.scope.names.lookup x = some .local := by first | exact .inl rfl | exact .inr rfl) : JG2 X ca (.Name x pos) (d2Name i) :=
  PG.imp (pg_name (i := i) hN hi hx hf) fun v σ H Q ⟨ι, ρ, s, d, hr, hm, rd, q⟩ => q ι _ H .refl hm (hr.set rd i)
theorem pg_fldJ {to : TE} (ho : PE X o to) (ha : ∀ v, assign (.Attribute o f pos) X.env v = (do
      let ov ← holding [v] (eval o X.env)
      standAt pos.atName; holding [v, ov] (setAttr ov f v); release [v, ov] []) := by intro _; rfl) :
    PG X (.Attribute o f pos) (fun v σ H Q => to σ H fun x H1 => ∃ a C dx fs, x = .ref a ∧ H1 a = some (.ins C dx fs) ∧ Cls X.K C ∧ NoAttr X.K C f ∧ fs.length < 1000 ∧ Q σ (upd H1 a (.ins C dx (putF f v fs)))) := by
  refine ⟨fun pins s σ H v u Q I r h => ?_⟩
  rw [ha]
  refine wpAny_bind (wpAny_holding (thn (ho.run pins s σ H _ I h) fun ov s1 ⟨x, H1, I1, r1, a, C, dx, fs, ex, ea, c, n, l, q⟩ => ?_))
  subst ex
  obtain rfl : ov = Value.ref a := r1
  exact wpAny_bind (wpAny_standAt (wpAny_bind (wpAny_holding (setattr_ok I1 ea c n l r fun s2 I2 => wpAny_release ⟨σ, _, I2, q⟩))))
def d2Fld (c : Nat) (f : Str) (go : GE) : TD2 := fun x ρ s => (go ρ s).bind fun d s1 => match d with
  | .obj n => (match insOf c s1 (.obj n) with
    | some fs => if fs.length < 1000 then .ok ρ (s1.set n (.ins c (putD f x fs))) else .no
    | none => .no)
  | _ => .no
theorem jg2_fld {c : Nat} (hC : Cls X.K (ca.c c)) (hN : NoAttr X.K (ca.c c) f) (ho : JE X ca W o go) : JG2 X ca (.Attribute o f pos) (d2Fld c f go) :=
  PG.imp (pg_fldJ ho) fun v σ H Q ⟨ι, ρ, s, x, hr, hm, rx, h⟩ => bindE famG hr hm h fun ι1 s1 d u H1 l1 hr1 hm1 rd h1 => by
    split at h1
    · rename_i n
      split at h1
      · rename_i fs e1
        split at h1
        · rename_i hl
          obtain ⟨n', a, dx, ws, e, rfl, hn, h3, h4⟩ := insOf_at hm1 rd e1
          cases e
          refine ⟨a, _, dx, ws, rfl, h3, hC, hN, by rw [← h4.len]; exact hl, ?_⟩
          obtain ⟨l, m'⟩ := hm1.write (o := .ins (ca.c c) dx (putF f v ws)) (u := .ins c (putD f x fs)) hn trivial fun l => ⟨dx, _, upd_same, (h4.mono l).put ((rx.mono l1).mono l)⟩
          exact h1 _ _ _ l m' (hr1.mono l)
        · exact h1.elim
      · exact h1.elim
    · exact h1.elim
def rSetD : V → V → V → Hp → (Hp → Prop) → Prop := fun o i v H Q => ∃ a H', o = .ref a ∧ DPut H a i v H' ∧ Q H'
theorem set_dict (hu : X.A.units + 1 < cLine) : PSet X rSetD := by
  intro pins s σ H o i v ov iv u Q I ro ri rv h
  obtain ⟨a, H', rfl, g, q⟩ := h
  obtain rfl : ov = Value.ref a := ro
  exact d_setItem hu I g ri rv fun s' I' => ⟨H', I', q⟩
def d2Put (go gi : GE) : TD2 := fun x ρ s => (go ρ s).bind fun d s1 => (gi ρ s1).bind fun y s2 => match d with
  | .obj n => (match dicOf s2 (.obj n), keyD y with
    | some kvs, some k => if fitL (kvs.length + 1) then .ok ρ (s2.set n (.dic (putKD kvs k x))) else .no
    | _, _ => .no)
  | _ => .no
theorem jg2_put {j : Nat} (hr : Room j X.A) (ho : JE X ca W o go) (hi : JE X ca W i gi) (ha : ∀ v, assign (.Subscript o i pos) X.env v = (do
      let ov ← holding [v] (eval o X.env)
      let iv ← holding [v, ov] (eval i X.env)
      standAt pos; holding [v, ov, iv] (setItem ov iv v); release [v, ov, iv] []) := by intro _; rfl) : JG2 X ca (.Subscript o i pos) (d2Put go gi) :=
  PG.imp (pg_sub ho hi (set_dict (hu_of hr)) ha) fun v σ H Q ⟨ι, ρ, s, x, hrs, hm, rx, h⟩ => bindE famG hrs hm h fun ι1 s1 d u H1 l1 hr1 hm1 rd h1 => bindE famG hr1 hm1 h1 fun ι2 s2 y w H2 l2 hr2 hm2 ry h2 => by
    split at h2
    · rename_i n
      split at h2
      · rename_i kvs k e1 e2
        split at h2
        · rename_i hl
          obtain ⟨n', a, ws, e, rfl, hn, h4, h5⟩ := dicOf_at hm2 (rd.mono l2) e1
          cases e
          have hk := keyD_rep ry e2
          subst hk
          have hl := fitL_le hl
          refine ⟨a, _, rfl, DPut.k h4 (by rw [← h5.lenK]; omega), ?_⟩
          obtain ⟨l, m'⟩ := hm2.write (o := .dK (L2.putK ws k v)) (u := .dic (putKD kvs k x)) hn trivial fun l => ⟨_, upd_same, (h5.mono l).putK (((rx.mono l1).mono l2).mono l)⟩
          exact h2 _ _ _ l m' (hr2.mono l)
        · exact h2.elim
      · exact h2.elim
    · exact h2.elim
def ds2Nil : TDs2 := fun ds ρ s => match ds with | [] => .ok ρ s | _ => .no
def ds2Cons (t : TD2) (r : TDs2) : TDs2 := fun ds ρ s => match ds with | d :: ds => (t d ρ s).bind (r ds) | _ => .no
theorem jgs2_nil : JGs2 X ca [] ds2Nil := PGs.imp pgs_nil fun v σ H Q ⟨ι, ρ, s, ds, hr, hm, rs, q⟩ => by
  cases rs with
  | nil => exact ⟨rfl, q ι _ H .refl hm hr⟩
  | cons _ _ => exact q.elim
theorem jgs2_cons {t : TD2} {r : TDs2} (h1 : JG2 X ca e t) (h2 : JGs2 X ca es r) (hs : (assignEach (e :: es) X.env).map (·.2) = assign e X.env :: (assignEach es X.env).map (·.2) := by rfl) : JGs2 X ca (e :: es) (ds2Cons t r) :=
  PGs.imp (pgs_cons h1 h2 hs) fun v σ H Q ⟨ι, ρ, s, ds, hr, hm, rs, q⟩ => by
    cases rs with
    | nil => exact q.elim
    | cons rd rs =>
      refine ⟨_, _, rfl, ι, ρ, s, _, hr, hm, rd, ?_⟩
      simp only [ds2Cons] at q
      cases e1 : t _ ρ s with
      | ok ρ1 s1 =>
        rw [e1] at q
        exact fun ι1 σ1 H1 l1 m1 r1 => ⟨ι1, ρ1, s1, _, r1, m1, rs.mono l1, famG.mono (E := fun _ _ _ => True) q l1⟩
      | err _ _ => rw [e1] at q; exact q.elim
      | no => rw [e1] at q; exact q.elim
def d2Tup (n : Nat) (t : TDs2) : TD2 := fun d ρ s => match d with | .tup ds => if ds.length = n then t ds ρ s else .no | _ => .no
theorem jg2_tup {t : TDs2} {k n : Nat} (hc : X.calm = true) (h : JGs2 X ca es t) (hn : (assignEach es X.env).length = n := by rfl) (hst : (assignEach es X.env).findIdx? (·.1) = none := by rfl) : JG2 X ca (.Tuple es k pos) (d2Tup n t) :=
  PG.imp (pg_tup hc h hn hst) fun v σ H Q ⟨ι, ρ, s, d, hr, hm, rd, q⟩ => by
    cases rd with
    | tup h1 h2 =>
      simp only [d2Tup] at q
      split at q
      · rename_i hl
        exact ⟨_, _, rfl, h1.sq, by rw [← h2.length]; exact hl, ι, ρ, s, _, hr, hm, h2, q⟩
      · exact q.elim
    | _ => exact q.elim
def sAsg2 (g : GE) (t : TD2) : GS := fun ρ s => (g ρ s).bind fun d s1 => match t d ρ s1 with
  | .ok ρ1 s2 => .ok (.nx ρ1) s2
  | _ => .no
theorem js_asg2 {t : TD2} (he : JE X ca W e g) (hg : JG2 X ca tg t) (hs : swapsWithSole [tg] e pos.line X.env = pure false := by rfl) (hw : swappedStores [tg] e X.env = pure none := by rfl) (h1 : (assignEach [tg] X.env).map (·.2) = [assign tg X.env] := by rfl) : JS X ca W (.Assign [tg] e pos) (sAsg2 g t) :=
  PS.imp (ps_asg he hg hs hw h1) fun D σ H ⟨ι, ρ, s, hr, hm, h⟩ => bindE famS hr hm h fun ι1 s1 d v H1 l1 hr1 hm1 rd h1 => by
    refine ⟨ι1, ρ, s1, d, hr1, hm1, rd, ?_⟩
    split at h1
    · rename_i ρ1 s2 e2
      rw [e2]
      exact fun ι' σ' H' l m r => h1 ι' σ' H' l m r
    · exact h1.elim
end
end J


set_option Elab.async false
set_option linter.all false
set_option maxRecDepth 100000
set_option maxHeartbeats 4000000
/-! J16: list(d), sorted of ints, extend. -/
namespace J
open PySem PySem.Spec L2
def keyDD : Key → D
  | .inl i => .int i
  | .inr x => .str x
def fKeys (s : S) (d : D) : Option D := (dicOf s d).map fun kvs => .lst (kvs.map fun kv => keyDD kv.1)
def insI (x : Int) : List Int → List Int
  | [] => [x]
  | y :: ys => if x ≤ y then x :: y :: ys else y :: insI x ys
def sortI (ns : List Int) : List Int := ns.foldr insI []
theorem insI_perm (x : Int) : ∀ ys, (insI x ys).Perm (x :: ys)
  | [] => List.Perm.refl _
  | y :: ys => by
    unfold insI
    split
    · exact List.Perm.refl _
    · exact ((insI_perm x ys).cons y).trans (List.Perm.swap x y ys)
theorem sortI_perm : ∀ ns, (sortI ns).Perm ns
  | [] => List.Perm.refl _
  | n :: ns => (insI_perm n (sortI ns)).trans ((sortI_perm ns).cons n)
theorem insI_up (x : Int) : ∀ {ys : List Int}, ys.Pairwise (· ≤ ·) → (insI x ys).Pairwise (· ≤ ·)
  | [], _ => List.pairwise_singleton _ _
  | y :: ys, h => by
    obtain ⟨h1, h2⟩ := List.pairwise_cons.mp h
    unfold insI
    split
    · rename_i q
      refine List.pairwise_cons.mpr ⟨fun z hz => ?_, h⟩
      rcases List.mem_cons.mp hz with rfl | hz
      · exact q
      · have := h1 z hz; omega
    · rename_i q
      refine List.pairwise_cons.mpr ⟨fun z hz => ?_, insI_up x h2⟩
      rcases List.mem_cons.mp ((insI_perm x ys).mem_iff.mp hz) with rfl | hz
      · omega
      · exact h1 z hz
theorem sortI_up : ∀ ns, (sortI ns).Pairwise (· ≤ ·)
  | [] => List.Pairwise.nil
  | n :: ns => insI_up n (sortI_up ns)
theorem sort_uniq : ∀ {xs ys : List Int}, xs.Perm ys → xs.Pairwise (· ≤ ·) → ys.Pairwise (· ≤ ·) → xs = ys
  | [], ys, p, _, _ => by rw [List.nil_perm.mp p]
  | x :: xs, [], p, _, _ => by have := p.length_eq; simp at this
  | x :: xs, y :: ys, p, hx, hy => by
    obtain ⟨x1, x2⟩ := List.pairwise_cons.mp hx
    obtain ⟨y1, y2⟩ := List.pairwise_cons.mp hy
    have e : x = y := by
      rcases List.mem_cons.mp (p.mem_iff.mp List.mem_cons_self) with e | m1
      · exact e
      · rcases List.mem_cons.mp (p.mem_iff.mpr List.mem_cons_self) with e | m2
        · exact e.symm
        · have a := y1 x m1
          have b := x1 y m2
          omega
    subst e
    rw [sort_uniq ((List.perm_cons x).mp p) x2 y2]
def fSortI (s : S) (x : D) : Option D := ((itemsL s x).bind intsD).bind fun ns => if decide (ns.length < 64) then some (.lst ((sortI ns).map D.int)) else none
section
variable {K : PySem.W.Frag} {ca : Ct} {ι : Wd} {H : Hp}
theorem reps_intsV : ∀ {ns : List Int} {vs : List V}, Reps K ι H (ns.map D.int) vs → vs = ns.map V.int
  | [], _, h => by cases h; rfl
  | n :: ns, _, h => by
    cases h with
    | cons r t => cases r; rw [reps_intsV t]; rfl
theorem reps_ints : ∀ ns : List Int, Reps K ι H (ns.map D.int) (ns.map V.int)
  | [] => .nil
  | n :: ns => .cons (.int n) (reps_ints ns)
theorem reps_keys : ∀ {fs : List (Key × D)} {ws : List (Key × V)}, RepF K ι H fs ws → Reps K ι H (fs.map fun kv => keyDD kv.1) (ws.map fun kv => kV kv.1)
  | _, _, .nil => .nil
  | (g, d) :: fs, (g', v) :: ws, .cons ⟨e, r⟩ t => by
    have e : g = g' := e
    subst e
    cases g with
    | inl i => exact .cons (.int i) (reps_keys t)
    | inr x => exact .cons (.str x) (reps_keys t)
end
section
variable {X : Cx} {ca : Ct} {W : WX} {e o : Expr} {es : List Expr} {pos apos : Pos} {g ge go : GE}
theorem cj_keys (hc : X.calm = true) : CallR X (.type "list") (rCJ X.K ca (f1 fKeys)) := by
  refine cj1 (call_listD hc) fun ι s H d v x Q m r hf q => ?_
  simp only [fKeys, Option.map_eq_some_iff] at hf
  obtain ⟨kvs, e1, rfl⟩ := hf
  obtain ⟨n, a, ws, rfl, rfl, hn, h1, h2⟩ := dicOf_at m r e1
  refine ⟨a, ws, rfl, .inl h1, fun p hp => ?_⟩
  obtain ⟨l, m'⟩ := m.new (o := .lst (ws.map fun kv => kV kv.1)) hp
  exact q _ _ _ l m' (.lst upd_same (m.ne hp) (reps_keys (h2.mono l)))
theorem cj_sortI : CallR X (.builtin "sorted") (rCJ X.K ca (f1 fSortI)) := by
  refine cj1 cr_sorted fun ι s H d v x Q m r hf q => ?_
  simp only [fSortI] at hf
  cases e1 : itemsL s d with
  | none => rw [e1] at hf; cases hf
  | some ds =>
    rw [e1] at hf
    simp only [Option.bind_some] at hf
    cases e2 : intsD ds with
    | none => rw [e2] at hf; cases hf
    | some ns =>
      rw [e2] at hf
      simp only [Option.bind_some] at hf
      split at hf
      · rename_i hl
        cases hf
        obtain ⟨a, vs, rfl, h1, h2⟩ := m.items r e1
        have e3 := intsD_eq e2
        subst e3
        have e4 := reps_intsV h2
        subst e4
        refine ⟨a, ns, rfl, h1, of_decide_eq_true hl, fun ns' p p1 p2 hp => ?_⟩
        have e5 : ns' = sortI ns := sort_uniq (p1.trans (sortI_perm ns).symm) p2 (sortI_up ns)
        subst e5
        obtain ⟨l, m'⟩ := m.new (o := .lst ((sortI ns).map V.int)) hp
        exact q _ _ _ l m' (.lst upd_same (m.ne hp) (reps_ints _))
      · cases hf
/-- o.extend(e), e a list that does not change -/
def gExt (go ge : GE) : GE := fun ρ s => (go ρ s).bind fun x s1 => match x with
  | .obj n => (match s1[n]? with
    | some (.lst _) => (ge ρ s1).bind fun y s2 => (match s2[n]?, y with
      | some (.lst ds), .lst zs => if fitL (ds.length + zs.length) then .ok .non (s2.set n (.lst (ds ++ zs))) else .no
      | _, _ => .no)
    | _ => .no)
  | _ => .no
theorem je_extend (ho : JE X ca W o go) (he : JE X ca W e ge) (hbase : attributeBase o "extend" X.env (eval o X.env) = eval o X.env := by rfl)
    (hfew : ((backTo pos (starEach [e] X.env)).all (fun x => !x.1) && (backToKw pos (keywordEach [] X.env)).all (fun x => x.1.isSome)
      && decide ([e].length + ([] : List Keyword).length + (if ([] : List Keyword).isEmpty then 0 else 1) < 30)) = true := by rfl)
    (hline : (apos.endLine == pos.line) = true := by rfl) (hs : starEach [e] X.env = (false, eval e X.env) :: starEach [] X.env := by rfl) (hplain : (backTo pos (starEach [] X.env)).any (·.1) = false := by rfl) :
    JE X ca W (.Call (.Attribute o "extend" apos) [e] [] pos) (gExt go ge) :=
  PE.imp (pe_bm F.plainAttrs_list F.slot_list_extend F.type_list_extend mt_extend ho (pa_cons he pa_nil hs) hbase hfew hline hs hplain) fun σ H Q ⟨ι, ρ, s, hr, hm, h⟩ => bindE famE hr hm h fun ι1 s1 x v H1 l1 hr1 hm1 rx h1 => by
    cases rx with
    | @obj a n hn =>
      simp only at h1
      split at h1
      · rename_i ds1 hd1
        obtain ⟨vs1, k1, k2⟩ := hm1.ob n a _ hn hd1
        refine ⟨.inl ⟨rfl, vs1, SqL.of k1⟩, bindE famE hr1 hm1 h1 fun ι2 s2 y u H2 l2 hr2 hm2 ry h2 => ?_⟩
        split at h2
        · rename_i ds zs hds
          split at h2
          · rename_i hc
            have hn2 : ι2.ι[n]? = some a := by
              obtain ⟨t, ht⟩ := l2.toKe.pre
              rw [← ht, List.getElem?_append_left (List.getElem?_eq_some_iff.mp hn).1]; exact hn
            obtain ⟨vs, k3, k4⟩ := hm2.ob n a _ hn2 hds
            cases ry with
            | lst q1 q2 q3 =>
              refine ⟨a, _, vs, _, rfl, rfl, k3, q1, by rw [← k4.length, ← q3.length]; exact fitL_le hc, ?_⟩
              obtain ⟨l, m'⟩ := hm2.write (o := .lst (vs ++ _)) (u := .lst (ds ++ zs)) hn2 trivial fun l => ⟨_, upd_same, (k4.mono l).append (q3.mono l)⟩
              exact h2 _ _ _ l m' .non
          · exact h2.elim
        · exact h2.elim
      · exact h1.elim
    | _ => exact h1.elim
end
end J


set_option Elab.async false
set_option linter.all false
set_option maxRecDepth 100000
set_option maxHeartbeats 4000000
/-! J17: the later words, applied; plain lemmas about the store. -/
namespace J
open PySem L2
@[simp] theorem ap_fld (c : Nat) (f : Str) (g : GE) (ρ : Env) (s : S) : gFld c f g ρ s = (g ρ s).bd (fun d s1 => R.ofO ((insOf c s1 d).bind fun fs => fs.lookup f) s1) .mk := id rfl
@[simp] theorem ap_sfld (c : Nat) (f : Str) (go gv : GE) (ρ : Env) (s : S) : sFldJ c f go gv ρ s = (gv ρ s).bd (fun x s1 => (go ρ s1).bd (fun d s2 => match d with
  | .obj n => (match insOf c s2 (.obj n) with
    | some fs => if fs.length < 1000 then .ok (.nx ρ) (s2.set n (.ins c (putD f x fs))) else .no
    | none => .no)
  | _ => .no) .mk) .mk := id rfl
@[simp] theorem ap_meth (c n : Nat) (m : Str) (F : List D → S → R D) (go : GE) (gr : GA) (ρ : Env) (s : S) : gMeth c n m F go gr ρ s = (go ρ s).bd (fun d s1 => match insOf c s1 d with
  | some fs => if (fs.lookup m).isNone then (gr ρ s1).bd (fun ds s2 => if ds.length = n then F (d :: ds) s2 else .no) .mk else .no
  | none => .no) .mk := id rfl
@[simp] theorem ap_make (c n : Nat) (F : List D → S → R D) (gr : GA) (ρ : Env) (s : S) : gMake c n F gr ρ s = (gr ρ s).bd (fun ds s1 => if ds.length = n then (noErr (F (.obj s1.length :: ds) (s1 ++ [.ins c []]))).bd (fun r s2 => match r with
  | .non => .ok (.obj s1.length) s2
  | _ => .no) .mk else .no) .mk := id rfl
@[simp] theorem noErr_k {α : Type} (a : α) (s : S) : noErr (R.ok a s) = .ok a s := id rfl
@[simp] theorem ap_lcO (own : List Nat) (gi : GA) (t : TD) (gt : GT) (ge : GE) (ρ : Env) (s : S) : gLcO own gi t gt ge ρ s = (gi ρ s).bd (fun ds s1 => if fitL ds.length then (lcLoop t gt ge (wipeD own ρ) ds s1).bd (fun ys s2 => .ok (.obj s2.length) (s2 ++ [.lst ys])) .mk else .no) .mk := id rfl
@[simp] theorem ap_dget2 (go gi gx : GE) (ρ : Env) (s : S) : gDGet2 go gi gx ρ s = (go ρ s).bd (fun d s1 => match dicOf s1 d with
  | some _ => (gi ρ s1).bd (fun y s2 => (gx ρ s2).bd (fun x s3 => (match dicOf s3 d, keyD y with
    | some kvs, some k => .ok ((valD kvs k).getD x) s3
    | _, _ => .no)) .mk) .mk
  | none => .no) .mk := id rfl
@[simp] theorem ap_kv0 (ρ : Env) (s : S) : gKV [] ρ s = .ok [] s := id rfl
@[simp] theorem ap_kv1 (k : Str) (g : GE) (r : List (Str × GE)) (ρ : Env) (s : S) : gKV ((k, g) :: r) ρ s = (g ρ s).bd (fun d s1 => (gKV r ρ s1).bd (fun ps s2 => .ok ((.inr k, d) :: ps) s2) .mk) .mk := id rfl
@[simp] theorem ap_disp (kgs : List (Str × GE)) (ρ : Env) (s : S) : gDisp kgs ρ s = if decide (kgs.length ≤ 15) then (gKV kgs ρ s).bd (fun ps s1 => .ok (.obj s1.length) (s1 ++ [.dic (mergeD ps)])) .mk else .no := id rfl
@[simp] theorem ap_ext (go ge : GE) (ρ : Env) (s : S) : gExt go ge ρ s = (go ρ s).bd (fun x s1 => match x with
  | .obj n => (match s1[n]? with
    | some (.lst _) => (ge ρ s1).bd (fun y s2 => (match s2[n]?, y with
      | some (.lst ds), .lst zs => if fitL (ds.length + zs.length) then .ok .non (s2.set n (.lst (ds ++ zs))) else .no
      | _, _ => .no)) .mk
    | _ => .no)
  | _ => .no) .mk := id rfl
@[simp] theorem ap_app (go ge : GE) (ρ : Env) (s : S) : gApp go ge ρ s = (go ρ s).bd (fun x s1 => match x with
  | .obj n => (match s1[n]? with
    | some (.lst _) => (ge ρ s1).bd (fun y s2 => (match s2[n]? with
      | some (.lst ds) => if fitL (ds.length + 1) then .ok .non (s2.set n (.lst (ds ++ [y]))) else .no
      | _ => .no)) .mk
    | _ => .no)
  | _ => .no) .mk := id rfl
@[simp] theorem ap_dput (gv go gi : GE) (ρ : Env) (s : S) : sDPutJ gv go gi ρ s = (gv ρ s).bd (fun x s1 => (go ρ s1).bd (fun d s2 => (gi ρ s2).bd (fun y s3 => match d with
  | .obj n => (match dicOf s3 (.obj n), keyD y with
    | some kvs, some k => if fitL (kvs.length + 1) then .ok (.nx ρ) (s3.set n (.dic (putKD kvs k x))) else .no
    | _, _ => .no)
  | _ => .no) .mk) .mk) .mk := id rfl
@[simp] theorem ap_d2Name (i : Nat) (d : D) (ρ : Env) (s : S) : d2Name i d ρ s = .ok (ρ.set i (some d)) s := id rfl
@[simp] theorem ap_d2Fld (c : Nat) (f : Str) (go : GE) (x : D) (ρ : Env) (s : S) : d2Fld c f go x ρ s = (go ρ s).bd (fun d s1 => match d with
  | .obj n => (match insOf c s1 (.obj n) with
    | some fs => if fs.length < 1000 then .ok ρ (s1.set n (.ins c (putD f x fs))) else .no
    | none => .no)
  | _ => .no) .mk := id rfl
@[simp] theorem ap_d2Put (go gi : GE) (x : D) (ρ : Env) (s : S) : d2Put go gi x ρ s = (go ρ s).bd (fun d s1 => (gi ρ s1).bd (fun y s2 => match d with
  | .obj n => (match dicOf s2 (.obj n), keyD y with
    | some kvs, some k => if fitL (kvs.length + 1) then .ok ρ (s2.set n (.dic (putKD kvs k x))) else .no
    | _, _ => .no)
  | _ => .no) .mk) .mk := id rfl
@[simp] theorem ap_ds2Nil (ρ : Env) (s : S) : ds2Nil [] ρ s = .ok ρ s := id rfl
@[simp] theorem ap_ds2Cons (t : TD2) (r : TDs2) (d : D) (ds : List D) (ρ : Env) (s : S) : ds2Cons t r (d :: ds) ρ s = (t d ρ s).bd (r ds) .mk := id rfl
@[simp] theorem ap_d2Tup (n : Nat) (t : TDs2) (ds : List D) (ρ : Env) (s : S) : d2Tup n t (.tup ds) ρ s = if ds.length = n then t ds ρ s else .no := id rfl
@[simp] theorem ap_asg2 (g : GE) (t : TD2) (ρ : Env) (s : S) : sAsg2 g t ρ s = (g ρ s).bd (fun d s1 => match t d ρ s1 with
  | .ok ρ1 s2 => .ok (.nx ρ1) s2
  | _ => .no) .mk := id rfl
@[simp] theorem ap_dict0 (ρ : Env) (s : S) : gDic0 ρ s = .ok (.obj s.length) (s ++ [.dic []]) := id rfl
@[simp] theorem ap_par3' (i j l : Nat) (gr : GA) (ρ : Env) (s : S) : sPar3 i j l gr ρ s = (gr ρ s).bd (fun ds s1 => match ds with | [d, e, f] => .ok (.nx (((ρ.set i (some d)).set j (some e)).set l (some f))) s1 | _ => .no) .mk := id rfl
@[simp] theorem ap_fDGet (s : S) (x y : D) : fDGet s x y = (dicOf s x).bind fun kvs => (keyD y).bind fun k => valD kvs k := id rfl
@[simp] theorem ap_keyI (i : Int) : keyD (.int i) = some (.inl i) := id rfl
@[simp] theorem ap_keyS (x : Str) : keyD (.str x) = some (.inr x) := id rfl
@[simp] theorem ap_idxO (s : S) (n : Nat) (i : Int) : fIdx s (.obj n) (.int i) = (itemsL s (.obj n)).bind fun ds => atI ds i := id rfl
@[simp] theorem ap_lenO (s : S) (n : Nat) : fLen s (.obj n) = (itemsL s (.obj n)).map fun ds => .int ds.length := id rfl
@[simp] theorem ap_slO (s : S) (n : Nat) (lo hi : Option Int) : fSl s (.obj n) lo hi = (itemsL s (.obj n)).map fun ds => .lst (cutD ds lo hi) := id rfl
@[simp] theorem ap_tupO (s : S) (n : Nat) : fTuple s (.obj n) = (itemsL s (.obj n)).map .tup := id rfl
theorem itemsO {s : S} {n : Nat} {ds : List D} (h : s[n]? = some (.lst ds)) : itemsL s (.obj n) = some ds := by simp [itemsL, h]
theorem insO {s : S} {n c : Nat} {fs : List (Str × D)} (h : s[n]? = some (.ins c fs)) : insOf c s (.obj n) = some fs := by simp [insOf, h]
theorem dicO {s : S} {n : Nat} {kvs : List (Key × D)} (h : s[n]? = some (.dic kvs)) : dicOf s (.obj n) = some kvs := by simp [dicOf, h]
theorem putO {s : S} {n k : Nat} {ds : List D} {x : D} (h : s[n]? = some (.lst ds)) (hk : k < ds.length) : putL s (.obj n) (.int k) x = some (s.set n (.lst (ds.set k x))) := by
  have : ixN ds.length (k : Int) = some k := by simp [ixN, hk]
  simp [putL, h, this]
theorem repM_at {ga gb : GE} {ρ : Env} {s s1 s2 : S} {ds : List D} {j : Int} (ha : ga ρ s = .ok (.lst ds) s1) (hb : gb ρ s1 = .ok (.int j) s2) (h1 : -(2 ^ 63) ≤ j) (h2 : j < 2 ^ 63) (h3 : ds.length * j.toNat ≤ 16777216) :
    gRepM ga gb ρ s = .ok (.obj s2.length) (s2 ++ [.lst (List.replicate j.toNat ds).flatten]) := by
  unfold gRepM
  rw [ha]
  simp only [R.bind_ok, hb]
  rw [if_pos (by rw [decide_eq_true h1, decide_eq_true h2]; exact decide_eq_true h3)]
theorem atI_map {α : Type} (f : α → D) (xs : List α) (k : Nat) (h : k < xs.length) : atI (xs.map f) (k : Int) = some (f xs[k]) := by
  rw [atI_nat _ _ (by simpa using h)]; simp
theorem atI_range (f : Nat → D) (n k : Nat) (h : k < n) : atI ((List.range n).map f) (k : Int) = some (f k) := by
  rw [atI_map _ _ _ (by simpa using h)]; simp
end J


set_option Elab.async false
set_option linter.all false
set_option maxRecDepth 100000
set_option maxHeartbeats 4000000
/-! A0: the own model of a run: instructions, designs, what must be done ahead, events. Plain Lean, no program in sight. -/
namespace G
inductive Ins where
  | read (r x : Int) | write (x n : Int) | copy (x r : Int) | fence | guard (r n : Int)
def Ins.isR : Ins → Bool | .read _ _ => true | _ => false
def Ins.isW : Ins → Bool | .write _ _ => true | .copy _ _ => true | _ => false
def Ins.isG : Ins → Bool | .guard _ _ => true | _ => false
def Ins.isF : Ins → Bool | .fence => true | _ => false
def Ins.cellO : Ins → Option Int | .read _ x => some x | .write x _ => some x | .copy x _ => some x | _ => none
structure Des where
  gr : Bool
  gw : Bool
  own : Bool
  rr : Bool
  rw : Bool
  ss : Bool
  wr : Bool
  ww : Bool
def rdP (cs : List Ins) (reg : Int) (k : Nat) : Bool := match cs[k]? with | some (.read r _) => r == reg | _ => false
def wrP (cs : List Ins) (cell : Int) (k : Nat) : Bool := match cs[k]? with | some (.write x _) => x == cell | some (.copy x _) => x == cell | _ => false
def lastP (p : Nat → Bool) (n : Nat) : Option Nat := ((List.range n).filter p).getLast?
def askB (cs : List Ins) (i j : Nat) : Bool := match cs[j]? with
  | some (.copy _ r) => lastP (rdP cs r) j == some i
  | some (.guard r _) => lastP (rdP cs r) j == some i
  | _ => false
def ownB (cs : List Ins) (i j : Nat) : Bool := match cs[j]? with
  | some (.read _ x) => (match lastP (wrP cs x) j with
    | some k => (match cs[k]? with
      | some (.copy _ r) => lastP (rdP cs r) k == some i
      | _ => false)
    | none => false)
  | _ => false
/-- the pair of letters is held by the design -/
def pairB (d : Des) : Ins → Ins → Bool
  | .read _ _, .read _ _ => d.rr
  | .read _ _, .write _ _ => d.rw
  | .read _ _, .copy _ _ => d.rw
  | .write _ _, .read _ _ => d.wr
  | .copy _ _, .read _ _ => d.wr
  | .write _ _, .write _ _ => d.ww
  | .write _ _, .copy _ _ => d.ww
  | .copy _ _, .write _ _ => d.ww
  | .copy _ _, .copy _ _ => d.ww
  | .guard _ _, .read _ _ => d.gr
  | .guard _ _, .write _ _ => d.gw
  | .guard _ _, .copy _ _ => d.gw
  | _, _ => false
/-- what must be done ahead, by kinds alone -/
def kindB (d : Des) (a b : Ins) : Bool :=
  if b.isG then false
  else if a.isG || !(a.cellO == b.cellO) then pairB d a b
  else if b.isW then true
  else if a.isW then !d.own else d.ss
def keepB (d : Des) (cs : List Ins) (i j : Nat) : Bool := match cs[i]?, cs[j]? with
  | some a, some b => (a.isF || b.isF || (a.isG && b.isG)) || askB cs i j || (d.own && ownB cs i j) || kindB d a b
  | _, _ => false
/-- a core as far as it has come -/
structure Co where
  done : List Bool
  taken : List Int
  ends : Nat
structure St where
  cos : List Co
  cells : List Int
abbrev Prog := List (List Ins)
def co0 (cs : List Ins) : Co := ⟨List.replicate cs.length false, List.replicate cs.length 0, cs.length⟩
def st0 (P : Prog) : St := ⟨P.map co0, [0, 0, 0]⟩
def Co.dn (c : Co) (i : Nat) : Bool := c.done[i]?.getD false
def Co.tk (c : Co) (i : Nat) : Int := c.taken[i]?.getD 0
def wordC (cs : List Ins) (c : Co) (p : Nat) (r : Int) : Int := match lastP (rdP cs r) p with | some k => c.tk k | none => 0
def writtenC (cs : List Ins) (c : Co) (p : Nat) : Int := match cs[p]? with
  | some (.write _ n) => n
  | some (.copy _ r) => wordC cs c p r
  | _ => 0
def cellAt (cells : List Int) (x : Int) : Int := cells[x.toNat]?.getD 0
def seenC (cs : List Ins) (c : Co) (cells : List Int) (p : Nat) (x : Int) : Int := match lastP (wrP cs x) p with
  | some k => if c.dn k then cellAt cells x else writtenC cs c k
  | none => cellAt cells x
/-- the guard there ends its core -/
def stopsC (cs : List Ins) (c : Co) (p : Nat) : Bool := match cs[p]? with
  | some (.guard r n) => wordC cs c p r != n
  | _ => false
def canC (d : Des) (cs : List Ins) (c : Co) (p : Nat) : Bool :=
  !c.dn p && decide (p ≤ c.ends) && ((List.range p).all fun i => !keepB d cs i p || c.dn i) && (!stopsC cs c p || !(c.done.drop (p + 1)).any id)
def doC (cs : List Ins) (c : Co) (cells : List Int) (p : Nat) : Co × List Int := match cs[p]? with
  | some (.read _ x) => (⟨c.done.set p true, c.taken.set p (seenC cs c cells p x), c.ends⟩, cells)
  | some (.write x n) => (⟨c.done.set p true, c.taken, c.ends⟩, cells.set x.toNat n)
  | some (.copy x r) => (⟨c.done.set p true, c.taken, c.ends⟩, cells.set x.toNat (wordC cs c p r))
  | some (.guard r n) => (⟨c.done.set p true, c.taken, if wordC cs c p r = n then c.ends else p⟩, cells)
  | _ => (⟨c.done.set p true, c.taken, c.ends⟩, cells)
def eventsC (d : Des) (cs : List Ins) (c : Co) : List Nat := (List.range cs.length).filter (canC d cs c)
def coAt (s : St) (i : Nat) : Co := s.cos[i]?.getD ⟨[], [], 0⟩
def csAt (P : Prog) (i : Nat) : List Ins := P[i]?.getD []
def eventsP (d : Des) (P : Prog) (s : St) : List (Nat × Nat) := (List.range P.length).flatMap fun i => (eventsC d (csAt P i) (coAt s i)).map fun p => (i, p)
def doP (P : Prog) (s : St) (e : Nat × Nat) : St :=
  let r := doC (csAt P e.1) (coAt s e.1) s.cells e.2
  ⟨s.cos.set e.1 r.1, r.2⟩
def overC (c : Co) : Bool := (c.done.take (c.ends + 1)).all id
def overP (s : St) : Bool := s.cos.all overC
/-- the words of the two registers at the end -/
def regC (cs : List Ins) (c : Co) (r : Int) : Int := match lastP (fun k => rdP cs r k && c.dn k) cs.length with | some k => c.tk k | none => 0
def outP (P : Prog) (s : St) : List (Int × Int) × List Int := ((List.range P.length).map fun i => (regC (csAt P i) (coAt s i) 0, regC (csAt P i) (coAt s i) 1), s.cells)
/-- form -/
structure CoOk (cs : List Ins) (c : Co) : Prop where
  ld : c.done.length = cs.length
  lt : c.taken.length = cs.length
  le : c.ends ≤ cs.length
structure StOk (P : Prog) (s : St) : Prop where
  lc : s.cos.length = P.length
  l3 : s.cells.length = 3
  co : ∀ i, i < P.length → CoOk (csAt P i) (coAt s i)
theorem lastP_lt {p : Nat → Bool} {n k : Nat} (h : lastP p n = some k) : k < n ∧ p k = true := by
  have := List.mem_of_getLast? h
  simpa using this
/-- what is not done took nothing -/
def Tk0 (c : Co) : Prop := ∀ i, c.dn i = false → c.tk i = 0
theorem co0_ok (cs : List Ins) : CoOk cs (co0 cs) := ⟨by simp [co0], by simp [co0], Nat.le_refl _⟩
theorem co0_tk0 (cs : List Ins) : Tk0 (co0 cs) := fun i _ => by
  simp only [Co.tk, co0, List.getElem?_replicate]; split <;> rfl
theorem st0_ok (P : Prog) : StOk P (st0 P) := ⟨by simp [st0], rfl, fun i h => by
  have : coAt (st0 P) i = co0 (csAt P i) := by simp [coAt, csAt, st0, h]
  rw [this]; exact co0_ok _⟩
theorem dn_set {c : Co} {p i : Nat} {t : List Int} {e : Nat} (h : p < c.done.length) : (Co.mk (c.done.set p true) t e).dn i = if i = p then true else c.dn i := by
  simp only [Co.dn, List.getElem?_set]
  by_cases hi : p = i
  · subst hi; simp [h]
  · have : ¬ i = p := fun z => hi z.symm
    simp [hi, this]
theorem tk_set {c : Co} {p i : Nat} {t : List Bool} {e : Nat} {v : Int} (h : p < c.taken.length) : (Co.mk t (c.taken.set p v) e).tk i = if i = p then v else c.tk i := by
  simp only [Co.tk, List.getElem?_set]
  by_cases hi : p = i
  · subst hi; simp [h]
  · have : ¬ i = p := fun z => hi z.symm
    simp [hi, this]
theorem doC_ok {cs : List Ins} {c : Co} {cells : List Int} {p : Nat} (hp : p < cs.length) (h : CoOk cs c) (h3 : cells.length = 3) : CoOk cs (doC cs c cells p).1 ∧ (doC cs c cells p).2.length = 3 := by
  have le := h.le
  unfold doC
  rw [List.getElem?_eq_getElem hp]
  cases cs[p] with
  | read r x => exact ⟨⟨by simp [h.ld], by simp [h.lt], h.le⟩, h3⟩
  | write x n => exact ⟨⟨by simp [h.ld], h.lt, h.le⟩, by simp [h3]⟩
  | copy x r => exact ⟨⟨by simp [h.ld], h.lt, h.le⟩, by simp [h3]⟩
  | guard r n => exact ⟨⟨by simp [h.ld], h.lt, by simp only; split <;> omega⟩, h3⟩
  | fence => exact ⟨⟨by simp [h.ld], h.lt, h.le⟩, h3⟩
theorem doC_tk0 {cs : List Ins} {c : Co} {cells : List Int} {p : Nat} (hp : p < cs.length) (h : CoOk cs c) (t0 : Tk0 c) : Tk0 (doC cs c cells p).1 := by
  have hd : p < c.done.length := by rw [h.ld]; exact hp
  have ht : p < c.taken.length := by rw [h.lt]; exact hp
  have tk1 : ∀ e, Tk0 ⟨c.done.set p true, c.taken, e⟩ := fun e i z => by
    rw [dn_set hd] at z
    split at z
    · cases z
    · exact t0 i z
  unfold doC
  rw [List.getElem?_eq_getElem hp]
  cases cs[p] with
  | read r x =>
    intro i z
    have z1 : (Co.mk (c.done.set p true) c.taken c.ends).dn i = false := z
    rw [dn_set hd] at z1
    split at z1
    · cases z1
    · rename_i hne
      have := tk_set (c := c) (p := p) (i := i) (t := c.done.set p true) (e := c.ends) (v := seenC cs c cells p x) ht
      rw [if_neg hne] at this
      exact this.trans (t0 i z1)
  | write x n => exact tk1 _
  | copy x r => exact tk1 _
  | guard r n => exact tk1 _
  | fence => exact tk1 _
theorem coAt_set {s : St} {c i : Nat} {x : Co} {cells : List Int} (h : c < s.cos.length) : coAt ⟨s.cos.set c x, cells⟩ i = if i = c then x else coAt s i := by
  simp only [coAt, List.getElem?_set]
  by_cases hi : c = i
  · subst hi; simp [h]
  · have : ¬ i = c := fun z => hi z.symm
    simp [hi, this]
theorem doP_ok {P : Prog} {s : St} {e : Nat × Nat} (h : StOk P s) (h1 : e.1 < P.length) (h2 : e.2 < (csAt P e.1).length) : StOk P (doP P s e) := by
  obtain ⟨k1, k2⟩ := doC_ok h2 (h.co e.1 h1) h.l3
  refine ⟨by simp [doP, h.lc], k2, fun i hi => ?_⟩
  show CoOk _ (coAt ⟨s.cos.set e.1 _, _⟩ i)
  rw [coAt_set (by rw [h.lc]; exact h1)]
  split
  · rename_i e'; rw [e']; exact k1
  · exact h.co i hi
/-! ### rows -/
def runRow (P : Prog) (t : St) (row : List (Nat × Nat)) : St := row.foldl (doP P) t
/-- the event can come -/
structure CanE (d : Des) (P : Prog) (t : St) (e : Nat × Nat) : Prop where
  c : e.1 < P.length
  p : e.2 < (csAt P e.1).length
  ok : canC d (csAt P e.1) (coAt t e.1) e.2 = true
def RowOk (d : Des) (P : Prog) : St → List (Nat × Nat) → Prop
  | _, [] => True
  | t, e :: r => CanE d P t e ∧ RowOk d P (doP P t e) r
theorem mem_events {d : Des} {P : Prog} {t : St} {e : Nat × Nat} : e ∈ eventsP d P t ↔ CanE d P t e := by
  simp only [eventsP, List.mem_flatMap, List.mem_range, List.mem_map, eventsC, List.mem_filter]
  constructor
  · rintro ⟨i, hi, p, ⟨hp, hc⟩, rfl⟩
    exact ⟨hi, hp, hc⟩
  · rintro ⟨h1, h2, h3⟩
    exact ⟨e.1, h1, e.2, ⟨h2, h3⟩, rfl⟩
theorem RowOk.at {d : Des} {P : Prog} : ∀ {t : St} {row : List (Nat × Nat)}, RowOk d P t row → ∀ k (h : k < row.length), CanE d P (runRow P t (row.take k)) row[k]
  | _, e :: r, h, 0, _ => h.1
  | t, e :: r, h, k + 1, hk => RowOk.at (t := doP P t e) (row := r) h.2 k (by simpa using hk)
theorem RowOk.snoc {d : Des} {P : Prog} : ∀ {t : St} {row : List (Nat × Nat)} {e : Nat × Nat}, RowOk d P t row → CanE d P (runRow P t row) e → RowOk d P t (row ++ [e])
  | _, [], _, _, h => ⟨h, trivial⟩
  | t, f :: r, e, h, h2 => ⟨h.1, RowOk.snoc (t := doP P t f) h.2 h2⟩
theorem runRow_snoc (P : Prog) (t : St) (row : List (Nat × Nat)) (e : Nat × Nat) : runRow P t (row ++ [e]) = doP P (runRow P t row) e := by simp [runRow]
theorem runRow_take {P : Prog} {t : St} {row : List (Nat × Nat)} {k : Nat} (h : k < row.length) : runRow P t (row.take (k + 1)) = doP P (runRow P t (row.take k)) row[k] := by
  rw [List.take_succ_eq_append_getElem h, runRow_snoc]
theorem runRow_ok {d : Des} {P : Prog} : ∀ {t : St} {row : List (Nat × Nat)}, StOk P t → RowOk d P t row → StOk P (runRow P t row)
  | _, [], h, _ => h
  | t, e :: r, h, h2 => runRow_ok (t := doP P t e) (row := r) (doP_ok h h2.1.c h2.1.p) h2.2
def AllTk0 (P : Prog) (t : St) : Prop := ∀ i, i < P.length → Tk0 (coAt t i)
theorem doP_tk0 {P : Prog} {s : St} {e : Nat × Nat} (h : StOk P s) (t0 : AllTk0 P s) (h1 : e.1 < P.length) (h2 : e.2 < (csAt P e.1).length) : AllTk0 P (doP P s e) := fun i hi => by
  show Tk0 (coAt ⟨s.cos.set e.1 _, _⟩ i)
  rw [coAt_set (by rw [h.lc]; exact h1)]
  split
  · exact doC_tk0 h2 (h.co e.1 h1) (t0 e.1 h1)
  · exact t0 i hi
end G


set_option Elab.async false
set_option linter.all false
set_option maxRecDepth 100000
set_option maxHeartbeats 4000000
namespace G
open PySem PySem.Spec L2 J
open PyProof.Rows (envOfC)
def top (i : Nat) : Stmt := PySem.Challenge.pw_pairskept_k03_whole_rows.main.body.getD i (.Pass ⟨0, 0, 0, 0⟩)
def mst (i k : Nat) : Stmt := (match top i with | .ClassDef _ _ _ b _ _ _ _ _ _ _ => b | _ => []).getD k (.Pass ⟨0, 0, 0, 0⟩)
def c_REGISTERS : D := (.int 2)
def c_CELLS : D := (.int 3)
def c_WORDS : D := (.int 10)
def c_MOST_CORES : D := (.int 3)
def c_MOST_CORE : D := (.int 5)
def c_MOST_PROGRAM : D := (.int 10)
def c_WRITING : D := (.tup [(.str (PySem.Str.ofString "write")), (.str (PySem.Str.ofString "copy"))])
def c_NAMES : D := (.tup [(.str (PySem.Str.ofString "gr")), (.str (PySem.Str.ofString "gw")), (.str (PySem.Str.ofString "own")), (.str (PySem.Str.ofString "rr")), (.str (PySem.Str.ofString "rw")), (.str (PySem.Str.ofString "ss")), (.str (PySem.Str.ofString "wr")), (.str (PySem.Str.ofString "ww"))])
structure Fx (K : PySem.W.Frag) (mg : Str → Option Value) (ca : Ct) : Prop where
  bi_all : mg "all" = none
  bi_any : mg "any" = none
  bi_bool : mg "bool" = none
  bi_int : mg "int" = none
  bi_isinstance : mg "isinstance" = none
  bi_len : mg "len" = none
  bi_list : mg "list" = none
  bi_min : mg "min" = none
  bi_range : mg "range" = none
  bi_sorted : mg "sorted" = none
  bi_str : mg "str" = none
  bi_sum : mg "sum" = none
  bi_tuple : mg "tuple" = none
  c_REGISTERS : ConstJ K mg "REGISTERS" c_REGISTERS
  c_CELLS : ConstJ K mg "CELLS" c_CELLS
  c_WORDS : ConstJ K mg "WORDS" c_WORDS
  c_MOST_CORES : ConstJ K mg "MOST_CORES" c_MOST_CORES
  c_MOST_CORE : ConstJ K mg "MOST_CORE" c_MOST_CORE
  c_MOST_PROGRAM : ConstJ K mg "MOST_PROGRAM" c_MOST_PROGRAM
  c_WRITING : ConstJ K mg "WRITING" c_WRITING
  c_NAMES : ConstJ K mg "NAMES" c_NAMES
  x_NotMade : ExcJ K mg ca 0 "NotMade"
  xb : ∃ C, mg "PairError" = some (.ref C) ∧ ∀ i ∈ ([0] : List Nat), PySem.W.exmOne K (.ref (ca.c i)) (.ref C) = some true
  xc : ∀ i ∈ ([0] : List Nat), ExcC K (ca.c i)
  xk : ∀ i j : Nat, i ∈ ([0] : List Nat) → j ∈ ([0] : List Nat) → PySem.W.kitOne K (.ref (ca.c i)) (.ref (ca.c j)) = some (decide (i = j))
  d_wall : ∃ f fd, mg "_wall" = some (.ref f) ∧ FunD K "_wall" "_wall" (defArgs (top 0)) (defBody (top 0)) (defScope (top 0)) [] [] f fd
  d_is_integer : ∃ f fd, mg "is_integer" = some (.ref f) ∧ FunD K "is_integer" "is_integer" (defArgs (top 2)) (defBody (top 2)) (defScope (top 2)) [] [] f fd
  d_is_in : ∃ f fd, mg "is_in" = some (.ref f) ∧ FunD K "is_in" "is_in" (defArgs (top 3)) (defBody (top 3)) (defScope (top 3)) [] [] f fd
  d_is_list : ∃ f fd, mg "is_list" = some (.ref f) ∧ FunD K "is_list" "is_list" (defArgs (top 4)) (defBody (top 4)) (defScope (top 4)) [] [] f fd
  d_is_instruction : ∃ f fd, mg "is_instruction" = some (.ref f) ∧ FunD K "is_instruction" "is_instruction" (defArgs (top 19)) (defBody (top 19)) (defScope (top 19)) [] [] f fd
  d_is_core : ∃ f fd, mg "is_core" = some (.ref f) ∧ FunD K "is_core" "is_core" (defArgs (top 20)) (defBody (top 20)) (defScope (top 20)) [] [] f fd
  d_need_program : ∃ f fd, mg "need_program" = some (.ref f) ∧ FunD K "need_program" "need_program" (defArgs (top 21)) (defBody (top 21)) (defScope (top 21)) [] [] f fd
  d_cell_of : ∃ f fd, mg "cell_of" = some (.ref f) ∧ FunD K "cell_of" "cell_of" (defArgs (top 22)) (defBody (top 22)) (defScope (top 22)) [] [] f fd
  d_asked_of : ∃ f fd, mg "asked_of" = some (.ref f) ∧ FunD K "asked_of" "asked_of" (defArgs (top 23)) (defBody (top 23)) (defScope (top 23)) [] [] f fd
  d_last_read : ∃ f fd, mg "last_read" = some (.ref f) ∧ FunD K "last_read" "last_read" (defArgs (top 24)) (defBody (top 24)) (defScope (top 24)) [] [] f fd
  d_last_writing : ∃ f fd, mg "last_writing" = some (.ref f) ∧ FunD K "last_writing" "last_writing" (defArgs (top 25)) (defBody (top 25)) (defScope (top 25)) [] [] f fd
  d_is_design : ∃ f fd, mg "is_design" = some (.ref f) ∧ FunD K "is_design" "is_design" (defArgs (top 28)) (defBody (top 28)) (defScope (top 28)) [] [] f fd
  d_need_design : ∃ f fd, mg "need_design" = some (.ref f) ∧ FunD K "need_design" "need_design" (defArgs (top 29)) (defBody (top 29)) (defScope (top 29)) [] [] f fd
  d_letter_of : ∃ f fd, mg "letter_of" = some (.ref f) ∧ FunD K "letter_of" "letter_of" (defArgs (top 30)) (defBody (top 30)) (defScope (top 30)) [] [] f fd
  d_asks_read : ∃ f fd, mg "asks_read" = some (.ref f) ∧ FunD K "asks_read" "asks_read" (defArgs (top 31)) (defBody (top 31)) (defScope (top 31)) [] [] f fd
  d_own_read : ∃ f fd, mg "own_read" = some (.ref f) ∧ FunD K "own_read" "own_read" (defArgs (top 32)) (defBody (top 32)) (defScope (top 32)) [] [] f fd
  d_keeps : ∃ f fd, mg "keeps" = some (.ref f) ∧ FunD K "keeps" "keeps" (defArgs (top 33)) (defBody (top 33)) (defScope (top 33)) [] [] f fd
  d_need_run : ∃ f fd, mg "need_run" = some (.ref f) ∧ FunD K "need_run" "need_run" (defArgs (top 36)) (defBody (top 36)) (defScope (top 36)) [] [] f fd
  d_is_event : ∃ f fd, mg "is_event" = some (.ref f) ∧ FunD K "is_event" "is_event" (defArgs (top 37)) (defBody (top 37)) (defScope (top 37)) [] [] f fd
  d_events_behind : ∃ f fd, mg "events_behind" = some (.ref f) ∧ FunD K "events_behind" "events_behind" (defArgs (top 38)) (defBody (top 38)) (defScope (top 38)) [] [] f fd
  d_has_ended : ∃ f fd, mg "has_ended" = some (.ref f) ∧ FunD K "has_ended" "has_ended" (defArgs (top 39)) (defBody (top 39)) (defScope (top 39)) [] [] f fd
  d_told_by : ∃ f fd, mg "told_by" = some (.ref f) ∧ FunD K "told_by" "told_by" (defArgs (top 40)) (defBody (top 40)) (defScope (top 40)) [] [] f fd
  d_law_taken : ∃ f fd, mg "_law_taken" = some (.ref f) ∧ FunD K "_law_taken" "_law_taken" (defArgs (top 42)) (defBody (top 42)) (defScope (top 42)) [] [] f fd
  d_law_pick : ∃ f fd, mg "_law_pick" = some (.ref f) ∧ FunD K "_law_pick" "_law_pick" (defArgs (top 43)) (defBody (top 43)) (defScope (top 43)) [] [] f fd
  d_law_alike : ∃ f fd, mg "_law_alike" = some (.ref f) ∧ FunD K "_law_alike" "_law_alike" (defArgs (top 44)) (defBody (top 44)) (defScope (top 44)) [] [] f fd
  d_law_instruction : ∃ f fd, mg "_law_instruction" = some (.ref f) ∧ FunD K "_law_instruction" "_law_instruction" (defArgs (top 45)) (defBody (top 45)) (defScope (top 45)) [] [] f fd
  d_law_program : ∃ f fd, mg "_law_program" = some (.ref f) ∧ FunD K "_law_program" "_law_program" (defArgs (top 46)) (defBody (top 46)) (defScope (top 46)) [] [] f fd
  d_law_design : ∃ f fd, mg "_law_design" = some (.ref f) ∧ FunD K "_law_design" "_law_design" (defArgs (top 47)) (defBody (top 47)) (defScope (top 47)) [] [] f fd
  d_law_letter : ∃ f fd, mg "_law_letter" = some (.ref f) ∧ FunD K "_law_letter" "_law_letter" (defArgs (top 48)) (defBody (top 48)) (defScope (top 48)) [] [] f fd
  d_law_cell : ∃ f fd, mg "_law_cell" = some (.ref f) ∧ FunD K "_law_cell" "_law_cell" (defArgs (top 49)) (defBody (top 49)) (defScope (top 49)) [] [] f fd
  d_law_last : ∃ f fd, mg "_law_last" = some (.ref f) ∧ FunD K "_law_last" "_law_last" (defArgs (top 50)) (defBody (top 50)) (defScope (top 50)) [] [] f fd
  d_law_must : ∃ f fd, mg "_law_must" = some (.ref f) ∧ FunD K "_law_must" "_law_must" (defArgs (top 51)) (defBody (top 51)) (defScope (top 51)) [] [] f fd
  d_law_begin : ∃ f fd, mg "_law_begin" = some (.ref f) ∧ FunD K "_law_begin" "_law_begin" (defArgs (top 52)) (defBody (top 52)) (defScope (top 52)) [] [] f fd
  d_law_word : ∃ f fd, mg "_law_word" = some (.ref f) ∧ FunD K "_law_word" "_law_word" (defArgs (top 53)) (defBody (top 53)) (defScope (top 53)) [] [] f fd
  d_law_written : ∃ f fd, mg "_law_written" = some (.ref f) ∧ FunD K "_law_written" "_law_written" (defArgs (top 54)) (defBody (top 54)) (defScope (top 54)) [] [] f fd
  d_law_can : ∃ f fd, mg "_law_can" = some (.ref f) ∧ FunD K "_law_can" "_law_can" (defArgs (top 55)) (defBody (top 55)) (defScope (top 55)) [] [] f fd
  d_law_events : ∃ f fd, mg "_law_events" = some (.ref f) ∧ FunD K "_law_events" "_law_events" (defArgs (top 56)) (defBody (top 56)) (defScope (top 56)) [] [] f fd
  d_law_do : ∃ f fd, mg "_law_do" = some (.ref f) ∧ FunD K "_law_do" "_law_do" (defArgs (top 57)) (defBody (top 57)) (defScope (top 57)) [] [] f fd
  d_law_over : ∃ f fd, mg "_law_over" = some (.ref f) ∧ FunD K "_law_over" "_law_over" (defArgs (top 58)) (defBody (top 58)) (defScope (top 58)) [] [] f fd
  d_law_outcome : ∃ f fd, mg "_law_outcome" = some (.ref f) ∧ FunD K "_law_outcome" "_law_outcome" (defArgs (top 59)) (defBody (top 59)) (defScope (top 59)) [] [] f fd
  d_law_not_made : ∃ f fd, mg "_law_not_made" = some (.ref f) ∧ FunD K "_law_not_made" "_law_not_made" (defArgs (top 60)) (defBody (top 60)) (defScope (top 60)) [] [] f fd
  k_Run : Cls K (ca.c 50)
  n_Run_ahead : NoAttr K (ca.c 50) "ahead"
  n_Run_cells : NoAttr K (ca.c 50) "cells"
  n_Run_design : NoAttr K (ca.c 50) "design"
  n_Run_done : NoAttr K (ca.c 50) "done"
  n_Run_ends : NoAttr K (ca.c 50) "ends"
  n_Run_program : NoAttr K (ca.c 50) "program"
  n_Run_taken : NoAttr K (ca.c 50) "taken"
  m_Run_elders : ∃ f fd, Meth K (ca.c 50) "elders" f ∧ FunD K "elders" "Run.elders" (defArgs (mst 35 1)) (defBody (mst 35 1)) (defScope (mst 35 1)) [] [] f fd
  m_Run___init__ : ∃ f fd, mg "Run" = some (.ref (ca.c 50)) ∧ Mk K (ca.c 50) f ∧ FunD K "__init__" "Run.__init__" (defArgs (mst 35 0)) (defBody (mst 35 0)) (defScope (mst 35 0)) [] [] f fd
  m_Run_word : ∃ f fd, Meth K (ca.c 50) "word" f ∧ FunD K "word" "Run.word" (defArgs (mst 35 3)) (defBody (mst 35 3)) (defScope (mst 35 3)) [] [] f fd
  m_Run_can : ∃ f fd, Meth K (ca.c 50) "can" f ∧ FunD K "can" "Run.can" (defArgs (mst 35 4)) (defBody (mst 35 4)) (defScope (mst 35 4)) [] [] f fd
  m_Run_events : ∃ f fd, Meth K (ca.c 50) "events" f ∧ FunD K "events" "Run.events" (defArgs (mst 35 5)) (defBody (mst 35 5)) (defScope (mst 35 5)) [] [] f fd
  m_Run_has_ended : ∃ f fd, Meth K (ca.c 50) "has_ended" f ∧ FunD K "has_ended" "Run.has_ended" (defArgs (mst 35 6)) (defBody (mst 35 6)) (defScope (mst 35 6)) [] [] f fd
  m_Run_written : ∃ f fd, Meth K (ca.c 50) "written" f ∧ FunD K "written" "Run.written" (defArgs (mst 35 9)) (defBody (mst 35 9)) (defScope (mst 35 9)) [] [] f fd
  m_Run_seen : ∃ f fd, Meth K (ca.c 50) "seen" f ∧ FunD K "seen" "Run.seen" (defArgs (mst 35 10)) (defBody (mst 35 10)) (defScope (mst 35 10)) [] [] f fd
  m_Run_do : ∃ f fd, Meth K (ca.c 50) "do" f ∧ FunD K "do" "Run.do" (defArgs (mst 35 7)) (defBody (mst 35 7)) (defScope (mst 35 7)) [] [] f fd
  m_Run_outcome : ∃ f fd, Meth K (ca.c 50) "outcome" f ∧ FunD K "outcome" "Run.outcome" (defArgs (mst 35 11)) (defBody (mst 35 11)) (defScope (mst 35 11)) [] [] f fd
section
variable {P : Program} {w : World} {K : PySem.W.Frag} {mg : Str → Option Value} {base : Heap} {ca : Ct}
abbrev s_is_integer : Stmt := top 2
def b_is_integer : GS := sRet (gAndV (gF (fIsi) (gaCons (gVar 0) (gaCons (gC (.ty "int")) (gaNil)))) (gNotV (gF (fIsi) (gaCons (gVar 0) (gaCons (gC (.ty "bool")) (gaNil))))))
def F_is_integer : List D → S → R D := runF 1 b_is_integer
theorem sc_is_integer : FnScope ["value"] ["value"] (defScope s_is_integer) := ⟨rfl, rfl, rfl, by decide +kernel, rfl, by decide +kernel, by decide +kernel⟩
theorem j_is_integer (Fx : Fx K mg ca) : JFn P w K mg base ca 1 "is_integer" 1 F_is_integer := by
  obtain ⟨f, fd, hm, F⟩ := Fx.d_is_integer
  refine ⟨⟨f, fd, ["value"], hm, F.kp, F.bindsN (fun _ _ _ _ _ _ us hl => match us, hl with | [_], _ => rfl), rfl, fnJD F sc_is_integer fun cdv A outer s H E hr => ?_⟩⟩
  have tk : Takes (cxOf (L2.CX P w) P w K mg base ["value"] "is_integer" (defScope s_is_integer) f cdv A outer s H E) (fun cls d _ H => E cls d H) := takes_of rfl rfl rfl rfl
  exact jss_one (js_ret (je_and (je_B cj_isinstance Fx.bi_isinstance bt_isinstance (ja_cons (je_var 0) (ja_cons (je_ty Fx.bi_int bt_int) (ja_nil)))) (je_one (je_not (je_B cj_isinstance Fx.bi_isinstance bt_isinstance (ja_cons (je_var 0) (ja_cons (je_ty Fx.bi_bool bt_bool) (ja_nil))))))))
abbrev s_is_in : Stmt := top 3
def b_is_in : GS := sRet (gAndV (gCall 1 (F_is_integer) (gaCons (gVar 0) (gaNil))) (gChain fLe fLe (gVar 1) (gVar 0) (gVar 2)))
def F_is_in : List D → S → R D := runF 3 b_is_in
theorem sc_is_in : FnScope ["value", "least", "most"] ["value", "least", "most"] (defScope s_is_in) := ⟨rfl, rfl, rfl, by decide +kernel, rfl, by decide +kernel, by decide +kernel⟩
theorem j_is_in (Fx : Fx K mg ca) : JFn P w K mg base ca 2 "is_in" 3 F_is_in := by
  obtain ⟨f, fd, hm, F⟩ := Fx.d_is_in
  refine ⟨⟨f, fd, ["value", "least", "most"], hm, F.kp, F.bindsN (fun _ _ _ _ _ _ us hl => match us, hl with | [_, _, _], _ => rfl), rfl, fnJD F sc_is_in fun cdv A outer s H E hr => ?_⟩⟩
  have tk : Takes (cxOf (L2.CX P w) P w K mg base ["value", "least", "most"] "is_in" (defScope s_is_in) f cdv A outer s H E) (fun cls d _ H => E cls d H) := takes_of rfl rfl rfl rfl
  exact jss_one (js_ret (je_and (je_call (j_is_integer Fx) (hr.mono (by decide)) tk (ja_cons (je_var 0) (ja_nil))) (je_one (je_chain oj_le oj_le (je_var 1) (je_var 0) (je_var 2)))))
abbrev s_is_list : Stmt := top 4
def b_is_list : GS := sRet (gAndV (gF (fIsi) (gaCons (gVar 0) (gaCons (gC (.ty "tuple")) (gaNil)))) (gChain fLe fLe (gVar 1) (gF (f1 fLen) (gaCons (gVar 0) (gaNil))) (gVar 2)))
def F_is_list : List D → S → R D := runF 3 b_is_list
theorem sc_is_list : FnScope ["value", "least", "most"] ["value", "least", "most"] (defScope s_is_list) := ⟨rfl, rfl, rfl, by decide +kernel, rfl, by decide +kernel, by decide +kernel⟩
theorem j_is_list (Fx : Fx K mg ca) : JFn P w K mg base ca 1 "is_list" 3 F_is_list := by
  obtain ⟨f, fd, hm, F⟩ := Fx.d_is_list
  refine ⟨⟨f, fd, ["value", "least", "most"], hm, F.kp, F.bindsN (fun _ _ _ _ _ _ us hl => match us, hl with | [_, _, _], _ => rfl), rfl, fnJD F sc_is_list fun cdv A outer s H E hr => ?_⟩⟩
  have tk : Takes (cxOf (L2.CX P w) P w K mg base ["value", "least", "most"] "is_list" (defScope s_is_list) f cdv A outer s H E) (fun cls d _ H => E cls d H) := takes_of rfl rfl rfl rfl
  exact jss_one (js_ret (je_and (je_B cj_isinstance Fx.bi_isinstance bt_isinstance (ja_cons (je_var 0) (ja_cons (je_ty Fx.bi_tuple bt_tuple) (ja_nil)))) (je_one (je_chain oj_le oj_le (je_var 1) (je_B cj_len Fx.bi_len bt_len (ja_cons (je_var 0) (ja_nil))) (je_var 2)))))
abbrev s_is_instruction : Stmt := top 19
def b_is_instruction : GS := sSeq (sIf (gOr (gNot (gB (gCall 3 (F_is_list) (gaCons (gVar 0) (gaCons (gC (.int 1)) (gaCons (gC (.int 3)) (gaNil))))))) (gNot (gB (gF (fIsi) (gaCons (gOp2 fIdx (gVar 0) (gC (.int 0))) (gaCons (gC (.ty "str")) (gaNil))))))) (sRet (gC (.bl false))) (sNext)) (sSeq (sPar 1 2 (gaCons (gOp2 fIdx (gVar 0) (gC (.int 0))) (gaCons (gSl (gVar 0) (goSome (gC (.int 1))) (goNone)) (gaNil)))) (sSeq (sIf (gB (gOp2 fEq (gVar 1) (gC (.str (PySem.Str.ofString "fence"))))) (sRet (gOp2 fEq (gVar 2) (gTup (gaNil)))) (sNext)) (sSeq (sIf (gB (gOp2 fNe (gF (f1 fLen) (gaCons (gVar 2) (gaNil))) (gC (.int 2)))) (sRet (gC (.bl false))) (sNext)) (sSeq (sIf (gB (gOp2 fEq (gVar 1) (gC (.str (PySem.Str.ofString "read"))))) (sRet (gAndV (gCall 3 (F_is_in) (gaCons (gOp2 fIdx (gVar 2) (gC (.int 0))) (gaCons (gC (.int 0)) (gaCons (gOp2 fSub (gC c_REGISTERS) (gC (.int 1))) (gaNil))))) (gCall 3 (F_is_in) (gaCons (gOp2 fIdx (gVar 2) (gC (.int 1))) (gaCons (gC (.int 0)) (gaCons (gOp2 fSub (gC c_CELLS) (gC (.int 1))) (gaNil))))))) (sNext)) (sSeq (sIf (gB (gOp2 fEq (gVar 1) (gC (.str (PySem.Str.ofString "write"))))) (sRet (gAndV (gCall 3 (F_is_in) (gaCons (gOp2 fIdx (gVar 2) (gC (.int 0))) (gaCons (gC (.int 0)) (gaCons (gOp2 fSub (gC c_CELLS) (gC (.int 1))) (gaNil))))) (gCall 3 (F_is_in) (gaCons (gOp2 fIdx (gVar 2) (gC (.int 1))) (gaCons (gC (.int 0)) (gaCons (gOp2 fSub (gC c_WORDS) (gC (.int 1))) (gaNil))))))) (sNext)) (sSeq (sIf (gB (gOp2 fEq (gVar 1) (gC (.str (PySem.Str.ofString "copy"))))) (sRet (gAndV (gCall 3 (F_is_in) (gaCons (gOp2 fIdx (gVar 2) (gC (.int 0))) (gaCons (gC (.int 0)) (gaCons (gOp2 fSub (gC c_CELLS) (gC (.int 1))) (gaNil))))) (gCall 3 (F_is_in) (gaCons (gOp2 fIdx (gVar 2) (gC (.int 1))) (gaCons (gC (.int 0)) (gaCons (gOp2 fSub (gC c_REGISTERS) (gC (.int 1))) (gaNil))))))) (sNext)) (sRet (gAndV (gOp2 fEq (gVar 1) (gC (.str (PySem.Str.ofString "guard")))) (gAndV (gCall 3 (F_is_in) (gaCons (gOp2 fIdx (gVar 2) (gC (.int 0))) (gaCons (gC (.int 0)) (gaCons (gOp2 fSub (gC c_REGISTERS) (gC (.int 1))) (gaNil))))) (gCall 3 (F_is_in) (gaCons (gOp2 fIdx (gVar 2) (gC (.int 1))) (gaCons (gC (.int 0)) (gaCons (gOp2 fSub (gC c_WORDS) (gC (.int 1))) (gaNil))))))))))))))
def F_is_instruction : List D → S → R D := runF 3 b_is_instruction
theorem sc_is_instruction : FnScope ["value", "kind", "rest"] ["value"] (defScope s_is_instruction) := ⟨rfl, rfl, rfl, by decide +kernel, rfl, by decide +kernel, by decide +kernel⟩
theorem j_is_instruction (Fx : Fx K mg ca) : JFn P w K mg base ca 3 "is_instruction" 1 F_is_instruction := by
  obtain ⟨f, fd, hm, F⟩ := Fx.d_is_instruction
  refine ⟨⟨f, fd, ["value"], hm, F.kp, F.bindsN (fun _ _ _ _ _ _ us hl => match us, hl with | [_], _ => rfl), rfl, fnJD F sc_is_instruction fun cdv A outer s H E hr => ?_⟩⟩
  have tk : Takes (cxOf (L2.CX P w) P w K mg base ["value", "kind", "rest"] "is_instruction" (defScope s_is_instruction) f cdv A outer s H E) (fun cls d _ H => E cls d H) := takes_of rfl rfl rfl rfl
  exact jss_cons (js_if (jw_t (jw_or (jt_not (jt_val (je_call (j_is_list Fx) (hr.mono (by decide)) tk (ja_cons (je_var 0) (ja_cons (je_int) (ja_cons (je_int) (ja_nil))))))) (jw_or1 (jt_not (jt_val (je_B cj_isinstance Fx.bi_isinstance bt_isinstance (ja_cons (je_ix (je_var 0) (je_int)) (ja_cons (je_ty Fx.bi_str bt_str) (ja_nil))))))))) (jss_one (js_ret (je_bl))) (jss_nil)) (jss_cons (js_par 1 2 rfl sc_is_instruction.nd (ja_cons (je_ix (je_var 0) (je_int)) (ja_cons (je_slice (je_var 0) (jo_some (je_int)) (jo_none)) (ja_nil)))) (jss_cons (js_if (jt_cmp (oj_eq hr.units) (je_var 1) (je_str)) (jss_one (js_ret (je_cmp (oj_eq hr.units) (je_var 2) (je_tup (ja_nil))))) (jss_nil)) (jss_cons (js_if (jt_cmp (oj_ne hr.units) (je_B cj_len Fx.bi_len bt_len (ja_cons (je_var 2) (ja_nil))) (je_int)) (jss_one (js_ret (je_bl))) (jss_nil)) (jss_cons (js_if (jt_cmp (oj_eq hr.units) (je_var 1) (je_str)) (jss_one (js_ret (je_and (je_call (j_is_in Fx) (hr.mono (by decide)) tk (ja_cons (je_ix (je_var 2) (je_int)) (ja_cons (je_int) (ja_cons (je_op oj_sub (je_k Fx.c_REGISTERS) (je_int)) (ja_nil))))) (je_one (je_call (j_is_in Fx) (hr.mono (by decide)) tk (ja_cons (je_ix (je_var 2) (je_int)) (ja_cons (je_int) (ja_cons (je_op oj_sub (je_k Fx.c_CELLS) (je_int)) (ja_nil))))))))) (jss_nil)) (jss_cons (js_if (jt_cmp (oj_eq hr.units) (je_var 1) (je_str)) (jss_one (js_ret (je_and (je_call (j_is_in Fx) (hr.mono (by decide)) tk (ja_cons (je_ix (je_var 2) (je_int)) (ja_cons (je_int) (ja_cons (je_op oj_sub (je_k Fx.c_CELLS) (je_int)) (ja_nil))))) (je_one (je_call (j_is_in Fx) (hr.mono (by decide)) tk (ja_cons (je_ix (je_var 2) (je_int)) (ja_cons (je_int) (ja_cons (je_op oj_sub (je_k Fx.c_WORDS) (je_int)) (ja_nil))))))))) (jss_nil)) (jss_cons (js_if (jt_cmp (oj_eq hr.units) (je_var 1) (je_str)) (jss_one (js_ret (je_and (je_call (j_is_in Fx) (hr.mono (by decide)) tk (ja_cons (je_ix (je_var 2) (je_int)) (ja_cons (je_int) (ja_cons (je_op oj_sub (je_k Fx.c_CELLS) (je_int)) (ja_nil))))) (je_one (je_call (j_is_in Fx) (hr.mono (by decide)) tk (ja_cons (je_ix (je_var 2) (je_int)) (ja_cons (je_int) (ja_cons (je_op oj_sub (je_k Fx.c_REGISTERS) (je_int)) (ja_nil))))))))) (jss_nil)) (jss_one (js_ret (je_and (je_cmp (oj_eq hr.units) (je_var 1) (je_str)) (je_and (je_call (j_is_in Fx) (hr.mono (by decide)) tk (ja_cons (je_ix (je_var 2) (je_int)) (ja_cons (je_int) (ja_cons (je_op oj_sub (je_k Fx.c_REGISTERS) (je_int)) (ja_nil))))) (je_one (je_call (j_is_in Fx) (hr.mono (by decide)) tk (ja_cons (je_ix (je_var 2) (je_int)) (ja_cons (je_int) (ja_cons (je_op oj_sub (je_k Fx.c_WORDS) (je_int)) (ja_nil))))))))))))))))
abbrev s_is_core : Stmt := top 20
def b_is_core : GS := sRet (gAndV (gCall 3 (F_is_list) (gaCons (gVar 0) (gaCons (gC (.int 0)) (gaCons (gC c_MOST_CORE) (gaNil))))) (gF (f1 fAll) (gaCons (gLc [1] (gItems (gVar 0)) (dName 1) (gYes) (gCall 1 (F_is_instruction) (gaCons (gVar 1) (gaNil)))) (gaNil))))
def F_is_core : List D → S → R D := runF 2 b_is_core
theorem sc_is_core : FnScope ["value", "one"] ["value"] (defScope s_is_core) := ⟨rfl, rfl, rfl, by decide +kernel, rfl, by decide +kernel, by decide +kernel⟩
theorem j_is_core (Fx : Fx K mg ca) : JFn P w K mg base ca 4 "is_core" 1 F_is_core := by
  obtain ⟨f, fd, hm, F⟩ := Fx.d_is_core
  refine ⟨⟨f, fd, ["value"], hm, F.kp, F.bindsN (fun _ _ _ _ _ _ us hl => match us, hl with | [_], _ => rfl), rfl, fnJD F sc_is_core fun cdv A outer s H E hr => ?_⟩⟩
  have tk : Takes (cxOf (L2.CX P w) P w K mg base ["value", "one"] "is_core" (defScope s_is_core) f cdv A outer s H E) (fun cls d _ H => E cls d H) := takes_of rfl rfl rfl rfl
  exact jss_one (js_ret (je_and (je_call (j_is_list Fx) (hr.mono (by decide)) tk (ja_cons (je_var 0) (ja_cons (je_int) (ja_cons (je_k Fx.c_MOST_CORE) (ja_nil))))) (je_one (je_B (cj_all rfl) Fx.bi_all bt_all (ja_cons (je_lc rfl sc_is_core.nd (ji_seq (je_var 0)) (blkOk_by (N := ["value", "one"]) (sc := defScope s_is_core) (by decide +kernel)) (fun _ _ _ _ _ => pg_name (i := 1) sc_is_core.nd rfl (by first | exact Or.inl rfl | exact Or.inr rfl)) (fun _ _ _ _ _ => jts_nil) (fun _ _ _ _ _ => je_call (j_is_instruction Fx) (hr.mono (by decide)) takes0 (ja_cons (je_var 1) (ja_nil)))) (ja_nil))))))
abbrev s_need_program : Stmt := top 21
def b_need_program : GS := sSeq (sIf (gNot (gB (gCall 3 (F_is_list) (gaCons (gVar 0) (gaCons (gC (.int 1)) (gaCons (gC c_MOST_CORES) (gaNil))))))) (sNever) (sNext)) (sFor (dName 1) (gRange1 (gaCons (gF (f1 fLen) (gaCons (gVar 0) (gaNil))) (gaNil))) (sIf (gOr (gNot (gB (gCall 1 (F_is_core) (gaCons (gOp2 fIdx (gVar 0) (gVar 1)) (gaNil))))) (gB (gOp2 fGt (gF (f1 fSum) (gaCons (gLc [2] (gItems (gSl (gVar 0) (goNone) (goSome (gOp2 fAdd (gVar 1) (gC (.int 1)))))) (dName 2) (gYes) (gF (f1 fLen) (gaCons (gVar 2) (gaNil)))) (gaNil))) (gC c_MOST_PROGRAM)))) (sNever) (sNext)))
def F_need_program : List D → S → R D := runF 3 b_need_program
theorem sc_need_program : FnScope ["program", "index", "core"] ["program"] (defScope s_need_program) := ⟨rfl, rfl, rfl, by decide +kernel, rfl, by decide +kernel, by decide +kernel⟩
theorem j_need_program (Fx : Fx K mg ca) : JFn P w K mg base ca 5 "need_program" 1 F_need_program := by
  obtain ⟨f, fd, hm, F⟩ := Fx.d_need_program
  refine ⟨⟨f, fd, ["program"], hm, F.kp, F.bindsN (fun _ _ _ _ _ _ us hl => match us, hl with | [_], _ => rfl), rfl, fnJD F sc_need_program fun cdv A outer s H E hr => ?_⟩⟩
  have tk : Takes (cxOf (L2.CX P w) P w K mg base ["program", "index", "core"] "need_program" (defScope s_need_program) f cdv A outer s H E) (fun cls d _ H => E cls d H) := takes_of rfl rfl rfl rfl
  exact jss_cons (js_if (jt_not (jt_val (je_call (j_is_list Fx) (hr.mono (by decide)) tk (ja_cons (je_var 0) (ja_cons (je_int) (ja_cons (je_k Fx.c_MOST_CORES) (ja_nil))))))) (jss_one (js_never)) (jss_nil)) (jss_one (js_for (passes_of rfl) rfl (ji_range1 Fx.bi_range (ja_cons (je_B cj_len Fx.bi_len bt_len (ja_cons (je_var 0) (ja_nil))) (ja_nil))) (jg_name 1 sc_need_program.nd) (jss_one (js_if (jw_t (jw_or (jt_not (jt_val (je_call (j_is_core Fx) (hr.mono (by decide)) tk (ja_cons (je_ix (je_var 0) (je_var 1)) (ja_nil))))) (jw_or1 (jt_cmp oj_gt (je_B (cj_sum rfl) Fx.bi_sum bt_sum (ja_cons (je_lc rfl sc_need_program.nd (ji_seq (je_slice (je_var 0) (jo_none) (jo_some (je_op oj_add (je_var 1) (je_int))))) (blkOk_by (N := ["program", "index", "core"]) (sc := defScope s_need_program) (by decide +kernel)) (fun _ _ _ _ _ => pg_name (i := 2) sc_need_program.nd rfl (by first | exact Or.inl rfl | exact Or.inr rfl)) (fun _ _ _ _ _ => jts_nil) (fun _ _ _ _ _ => je_B cj_len Fx.bi_len bt_len (ja_cons (je_var 2) (ja_nil)))) (ja_nil))) (je_k Fx.c_MOST_PROGRAM))))) (jss_one (js_never)) (jss_nil)))))
abbrev s_cell_of : Stmt := top 22
def b_cell_of : GS := sSeq (sIf (gB (gOp2 fEq (gOp2 fIdx (gVar 0) (gC (.int 0))) (gC (.str (PySem.Str.ofString "read"))))) (sRet (gOp2 fIdx (gVar 0) (gC (.int 2)))) (sNext)) (sRet (gIf (gB (gOp2 fIn (gOp2 fIdx (gVar 0) (gC (.int 0))) (gC c_WRITING))) (gOp2 fIdx (gVar 0) (gC (.int 1))) (gC .non)))
def F_cell_of : List D → S → R D := runF 1 b_cell_of
theorem sc_cell_of : FnScope ["instruction"] ["instruction"] (defScope s_cell_of) := ⟨rfl, rfl, rfl, by decide +kernel, rfl, by decide +kernel, by decide +kernel⟩
theorem j_cell_of (Fx : Fx K mg ca) : JFn P w K mg base ca 1 "cell_of" 1 F_cell_of := by
  obtain ⟨f, fd, hm, F⟩ := Fx.d_cell_of
  refine ⟨⟨f, fd, ["instruction"], hm, F.kp, F.bindsN (fun _ _ _ _ _ _ us hl => match us, hl with | [_], _ => rfl), rfl, fnJD F sc_cell_of fun cdv A outer s H E hr => ?_⟩⟩
  have tk : Takes (cxOf (L2.CX P w) P w K mg base ["instruction"] "cell_of" (defScope s_cell_of) f cdv A outer s H E) (fun cls d _ H => E cls d H) := takes_of rfl rfl rfl rfl
  exact jss_cons (js_if (jt_cmp (oj_eq hr.units) (je_ix (je_var 0) (je_int)) (je_str)) (jss_one (js_ret (je_ix (je_var 0) (je_int)))) (jss_nil)) (jss_one (js_ret (je_if (jt_cmp (oj_in (J.Room.u65 hr)) (je_ix (je_var 0) (je_int)) (je_k Fx.c_WRITING)) (je_ix (je_var 0) (je_int)) (je_non))))
abbrev s_asked_of : Stmt := top 23
def b_asked_of : GS := sSeq (sIf (gB (gOp2 fEq (gOp2 fIdx (gVar 0) (gC (.int 0))) (gC (.str (PySem.Str.ofString "copy"))))) (sRet (gOp2 fIdx (gVar 0) (gC (.int 2)))) (sNext)) (sRet (gIf (gB (gOp2 fEq (gOp2 fIdx (gVar 0) (gC (.int 0))) (gC (.str (PySem.Str.ofString "guard"))))) (gOp2 fIdx (gVar 0) (gC (.int 1))) (gC .non)))
def F_asked_of : List D → S → R D := runF 1 b_asked_of
theorem sc_asked_of : FnScope ["instruction"] ["instruction"] (defScope s_asked_of) := ⟨rfl, rfl, rfl, by decide +kernel, rfl, by decide +kernel, by decide +kernel⟩
theorem j_asked_of (Fx : Fx K mg ca) : JFn P w K mg base ca 1 "asked_of" 1 F_asked_of := by
  obtain ⟨f, fd, hm, F⟩ := Fx.d_asked_of
  refine ⟨⟨f, fd, ["instruction"], hm, F.kp, F.bindsN (fun _ _ _ _ _ _ us hl => match us, hl with | [_], _ => rfl), rfl, fnJD F sc_asked_of fun cdv A outer s H E hr => ?_⟩⟩
  have tk : Takes (cxOf (L2.CX P w) P w K mg base ["instruction"] "asked_of" (defScope s_asked_of) f cdv A outer s H E) (fun cls d _ H => E cls d H) := takes_of rfl rfl rfl rfl
  exact jss_cons (js_if (jt_cmp (oj_eq hr.units) (je_ix (je_var 0) (je_int)) (je_str)) (jss_one (js_ret (je_ix (je_var 0) (je_int)))) (jss_nil)) (jss_one (js_ret (je_if (jt_cmp (oj_eq hr.units) (je_ix (je_var 0) (je_int)) (je_str)) (je_ix (je_var 0) (je_int)) (je_non))))
abbrev s_last_read : Stmt := top 24
def b_last_read : GS := sSeq (sAsg (gLc [4] (gRange1 (gaCons (gVar 1) (gaNil))) (dName 4) (gAnd (gB (gOp2 fEq (gOp2 fIdx (gOp2 fIdx (gVar 0) (gVar 4)) (gC (.int 0))) (gC (.str (PySem.Str.ofString "read"))))) (gB (gOp2 fEq (gOp2 fIdx (gOp2 fIdx (gVar 0) (gVar 4)) (gC (.int 1))) (gVar 2)))) (gVar 4)) (dName 3)) (sRet (gIf (gB (gOp2 fNe (gVar 3) (gLst (gaNil)))) (gOp2 fIdx (gVar 3) (gNeg (gC (.int 1)))) (gC .non)))
def F_last_read : List D → S → R D := runF 5 b_last_read
theorem sc_last_read : FnScope ["core", "place", "reg", "some", "at"] ["core", "place", "reg"] (defScope s_last_read) := ⟨rfl, rfl, rfl, by decide +kernel, rfl, by decide +kernel, by decide +kernel⟩
theorem j_last_read (Fx : Fx K mg ca) : JFn P w K mg base ca 1 "last_read" 3 F_last_read := by
  obtain ⟨f, fd, hm, F⟩ := Fx.d_last_read
  refine ⟨⟨f, fd, ["core", "place", "reg"], hm, F.kp, F.bindsN (fun _ _ _ _ _ _ us hl => match us, hl with | [_, _, _], _ => rfl), rfl, fnJD F sc_last_read fun cdv A outer s H E hr => ?_⟩⟩
  have tk : Takes (cxOf (L2.CX P w) P w K mg base ["core", "place", "reg", "some", "at"] "last_read" (defScope s_last_read) f cdv A outer s H E) (fun cls d _ H => E cls d H) := takes_of rfl rfl rfl rfl
  exact jss_cons (js_setLc 3 rfl sc_last_read.nd (ji_range1 Fx.bi_range (ja_cons (je_var 1) (ja_nil))) (blkOk_by (N := ["core", "place", "reg", "some", "at"]) (sc := defScope s_last_read) (by decide +kernel)) (fun _ _ _ _ _ => pg_name (i := 4) sc_last_read.nd rfl (by first | exact Or.inl rfl | exact Or.inr rfl)) (fun _ _ _ _ _ => jts_one (jw_t (jw_and (jt_cmp (oj_eq hr.units) (je_ix (je_ix (je_var 0) (je_var 4)) (je_int)) (je_str)) (jw_and1 (jt_cmp (oj_eq hr.units) (je_ix (je_ix (je_var 0) (je_var 4)) (je_int)) (je_var 2)))))) (fun _ _ _ _ _ => je_var 4) (sw_true rfl rfl rfl (by decide +kernel))) (jss_one (js_ret (je_if (jt_cmp (oj_ne hr.units) (je_var 3) (je_lst (ja_nil))) (je_ix (je_var 3) (je_neg (je_int))) (je_non))))
abbrev s_last_writing : Stmt := top 25
def b_last_writing : GS := sSeq (sAsg (gLc [4] (gRange1 (gaCons (gVar 1) (gaNil))) (dName 4) (gAnd (gB (gOp2 fIn (gOp2 fIdx (gOp2 fIdx (gVar 0) (gVar 4)) (gC (.int 0))) (gC c_WRITING))) (gB (gOp2 fEq (gOp2 fIdx (gOp2 fIdx (gVar 0) (gVar 4)) (gC (.int 1))) (gVar 2)))) (gVar 4)) (dName 3)) (sRet (gIf (gB (gOp2 fNe (gVar 3) (gLst (gaNil)))) (gOp2 fIdx (gVar 3) (gNeg (gC (.int 1)))) (gC .non)))
def F_last_writing : List D → S → R D := runF 5 b_last_writing
theorem sc_last_writing : FnScope ["core", "place", "cell", "some", "at"] ["core", "place", "cell"] (defScope s_last_writing) := ⟨rfl, rfl, rfl, by decide +kernel, rfl, by decide +kernel, by decide +kernel⟩
theorem j_last_writing (Fx : Fx K mg ca) : JFn P w K mg base ca 1 "last_writing" 3 F_last_writing := by
  obtain ⟨f, fd, hm, F⟩ := Fx.d_last_writing
  refine ⟨⟨f, fd, ["core", "place", "cell"], hm, F.kp, F.bindsN (fun _ _ _ _ _ _ us hl => match us, hl with | [_, _, _], _ => rfl), rfl, fnJD F sc_last_writing fun cdv A outer s H E hr => ?_⟩⟩
  have tk : Takes (cxOf (L2.CX P w) P w K mg base ["core", "place", "cell", "some", "at"] "last_writing" (defScope s_last_writing) f cdv A outer s H E) (fun cls d _ H => E cls d H) := takes_of rfl rfl rfl rfl
  exact jss_cons (js_setLc 3 rfl sc_last_writing.nd (ji_range1 Fx.bi_range (ja_cons (je_var 1) (ja_nil))) (blkOk_by (N := ["core", "place", "cell", "some", "at"]) (sc := defScope s_last_writing) (by decide +kernel)) (fun _ _ _ _ _ => pg_name (i := 4) sc_last_writing.nd rfl (by first | exact Or.inl rfl | exact Or.inr rfl)) (fun _ _ _ _ _ => jts_one (jw_t (jw_and (jt_cmp (oj_in (J.Room.u65 hr)) (je_ix (je_ix (je_var 0) (je_var 4)) (je_int)) (je_k Fx.c_WRITING)) (jw_and1 (jt_cmp (oj_eq hr.units) (je_ix (je_ix (je_var 0) (je_var 4)) (je_int)) (je_var 2)))))) (fun _ _ _ _ _ => je_var 4) (sw_true rfl rfl rfl (by decide +kernel))) (jss_one (js_ret (je_if (jt_cmp (oj_ne hr.units) (je_var 3) (je_lst (ja_nil))) (je_ix (je_var 3) (je_neg (je_int))) (je_non))))
abbrev s_is_design : Stmt := top 28
def b_is_design : GS := sSeq (sIf (gOr (gNot (gB (gF (fIsi) (gaCons (gVar 0) (gaCons (gC (.ty "tuple")) (gaNil)))))) (gNot (gB (gF (f1 fAll) (gaCons (gLc [2] (gItems (gVar 0)) (dName 2) (gYes) (gAndV (gF (fIsi) (gaCons (gVar 2) (gaCons (gC (.ty "str")) (gaNil)))) (gOp2 fIn (gVar 2) (gC c_NAMES)))) (gaNil)))))) (sRet (gC (.bl false))) (sNext)) (sRet (gF (f1 fAll) (gaCons (gLc [1] (gRange2 (gaCons (gC (.int 1)) (gaCons (gF (f1 fLen) (gaCons (gVar 0) (gaNil))) (gaNil)))) (dName 1) (gYes) (gOp2 fLt (gOp2 fIdx (gVar 0) (gOp2 fSub (gVar 1) (gC (.int 1)))) (gOp2 fIdx (gVar 0) (gVar 1)))) (gaNil))))
def F_is_design : List D → S → R D := runF 3 b_is_design
theorem sc_is_design : FnScope ["value", "index", "one"] ["value"] (defScope s_is_design) := ⟨rfl, rfl, rfl, by decide +kernel, rfl, by decide +kernel, by decide +kernel⟩
theorem j_is_design (Fx : Fx K mg ca) : JFn P w K mg base ca 1 "is_design" 1 F_is_design := by
  obtain ⟨f, fd, hm, F⟩ := Fx.d_is_design
  refine ⟨⟨f, fd, ["value"], hm, F.kp, F.bindsN (fun _ _ _ _ _ _ us hl => match us, hl with | [_], _ => rfl), rfl, fnJD F sc_is_design fun cdv A outer s H E hr => ?_⟩⟩
  have tk : Takes (cxOf (L2.CX P w) P w K mg base ["value", "index", "one"] "is_design" (defScope s_is_design) f cdv A outer s H E) (fun cls d _ H => E cls d H) := takes_of rfl rfl rfl rfl
  exact jss_cons (js_if (jw_t (jw_or (jt_not (jt_val (je_B cj_isinstance Fx.bi_isinstance bt_isinstance (ja_cons (je_var 0) (ja_cons (je_ty Fx.bi_tuple bt_tuple) (ja_nil)))))) (jw_or1 (jt_not (jt_val (je_B (cj_all rfl) Fx.bi_all bt_all (ja_cons (je_lc rfl sc_is_design.nd (ji_seq (je_var 0)) (blkOk_by (N := ["value", "index", "one"]) (sc := defScope s_is_design) (by decide +kernel)) (fun _ _ _ _ _ => pg_name (i := 2) sc_is_design.nd rfl (by first | exact Or.inl rfl | exact Or.inr rfl)) (fun _ _ _ _ _ => jts_nil) (fun _ _ _ _ _ => je_and (je_B cj_isinstance Fx.bi_isinstance bt_isinstance (ja_cons (je_var 2) (ja_cons (je_ty Fx.bi_str bt_str) (ja_nil)))) (je_one (je_cmp (oj_in (J.Room.u65 hr)) (je_var 2) (je_k Fx.c_NAMES))))) (ja_nil)))))))) (jss_one (js_ret (je_bl))) (jss_nil)) (jss_one (js_ret (je_B (cj_all rfl) Fx.bi_all bt_all (ja_cons (je_lc rfl sc_is_design.nd (ji_range2 Fx.bi_range (ja_cons (je_int) (ja_cons (je_B cj_len Fx.bi_len bt_len (ja_cons (je_var 0) (ja_nil))) (ja_nil)))) (blkOk_by (N := ["value", "index", "one"]) (sc := defScope s_is_design) (by decide +kernel)) (fun _ _ _ _ _ => pg_name (i := 1) sc_is_design.nd rfl (by first | exact Or.inl rfl | exact Or.inr rfl)) (fun _ _ _ _ _ => jts_nil) (fun _ _ _ _ _ => je_cmp oj_lt (je_ix (je_var 0) (je_op oj_sub (je_var 1) (je_int))) (je_ix (je_var 0) (je_var 1)))) (ja_nil)))))
abbrev s_need_design : Stmt := top 29
def b_need_design : GS := sIf (gNot (gB (gCall 1 (F_is_design) (gaCons (gVar 0) (gaNil))))) (sNever) (sNext)
def F_need_design : List D → S → R D := runF 1 b_need_design
theorem sc_need_design : FnScope ["design"] ["design"] (defScope s_need_design) := ⟨rfl, rfl, rfl, by decide +kernel, rfl, by decide +kernel, by decide +kernel⟩
theorem j_need_design (Fx : Fx K mg ca) : JFn P w K mg base ca 2 "need_design" 1 F_need_design := by
  obtain ⟨f, fd, hm, F⟩ := Fx.d_need_design
  refine ⟨⟨f, fd, ["design"], hm, F.kp, F.bindsN (fun _ _ _ _ _ _ us hl => match us, hl with | [_], _ => rfl), rfl, fnJD F sc_need_design fun cdv A outer s H E hr => ?_⟩⟩
  have tk : Takes (cxOf (L2.CX P w) P w K mg base ["design"] "need_design" (defScope s_need_design) f cdv A outer s H E) (fun cls d _ H => E cls d H) := takes_of rfl rfl rfl rfl
  exact jss_one (js_if (jt_not (jt_val (je_call (j_is_design Fx) (hr.mono (by decide)) tk (ja_cons (je_var 0) (ja_nil))))) (jss_one (js_never)) (jss_nil))
abbrev s_letter_of : Stmt := top 30
def b_letter_of : GS := sRet (gDictC [((PySem.Str.ofString "read"), (PySem.Str.ofString "r")), ((PySem.Str.ofString "write"), (PySem.Str.ofString "w")), ((PySem.Str.ofString "copy"), (PySem.Str.ofString "w")), ((PySem.Str.ofString "guard"), (PySem.Str.ofString "g")), ((PySem.Str.ofString "fence"), (PySem.Str.ofString "f"))] (gOp2 fIdx (gVar 0) (gC (.int 0))))
def F_letter_of : List D → S → R D := runF 1 b_letter_of
theorem sc_letter_of : FnScope ["instruction"] ["instruction"] (defScope s_letter_of) := ⟨rfl, rfl, rfl, by decide +kernel, rfl, by decide +kernel, by decide +kernel⟩
theorem j_letter_of (Fx : Fx K mg ca) : JFn P w K mg base ca 1 "letter_of" 1 F_letter_of := by
  obtain ⟨f, fd, hm, F⟩ := Fx.d_letter_of
  refine ⟨⟨f, fd, ["instruction"], hm, F.kp, F.bindsN (fun _ _ _ _ _ _ us hl => match us, hl with | [_], _ => rfl), rfl, fnJD F sc_letter_of fun cdv A outer s H E hr => ?_⟩⟩
  have tk : Takes (cxOf (L2.CX P w) P w K mg base ["instruction"] "letter_of" (defScope s_letter_of) f cdv A outer s H E) (fun cls d _ H => E cls d H) := takes_of rfl rfl rfl rfl
  exact jss_one (js_ret (je_dictC (kvs := [((PySem.Str.ofString "read"), (PySem.Str.ofString "r")), ((PySem.Str.ofString "write"), (PySem.Str.ofString "w")), ((PySem.Str.ofString "copy"), (PySem.Str.ofString "w")), ((PySem.Str.ofString "guard"), (PySem.Str.ofString "g")), ((PySem.Str.ofString "fence"), (PySem.Str.ofString "f"))]) hr (pps_cons pe_str pe_str (pps_cons pe_str pe_str (pps_cons pe_str pe_str (pps_cons pe_str pe_str (pps_cons pe_str pe_str (pps_nil)))))) (je_ix (je_var 0) (je_int))))
abbrev s_asks_read : Stmt := top 31
def b_asks_read : GS := sSeq (sAsg (gCall 1 (F_asked_of) (gaCons (gOp2 fIdx (gVar 0) (gVar 2)) (gaNil))) (dName 3)) (sRet (gAndV (gOp2 fIsN (gVar 3) (gC .non)) (gOp2 fEq (gCall 3 (F_last_read) (gaCons (gVar 0) (gaCons (gVar 2) (gaCons (gVar 3) (gaNil))))) (gVar 1))))
def F_asks_read : List D → S → R D := runF 4 b_asks_read
theorem sc_asks_read : FnScope ["core", "first", "second", "asked"] ["core", "first", "second"] (defScope s_asks_read) := ⟨rfl, rfl, rfl, by decide +kernel, rfl, by decide +kernel, by decide +kernel⟩
theorem j_asks_read (Fx : Fx K mg ca) : JFn P w K mg base ca 2 "asks_read" 3 F_asks_read := by
  obtain ⟨f, fd, hm, F⟩ := Fx.d_asks_read
  refine ⟨⟨f, fd, ["core", "first", "second"], hm, F.kp, F.bindsN (fun _ _ _ _ _ _ us hl => match us, hl with | [_, _, _], _ => rfl), rfl, fnJD F sc_asks_read fun cdv A outer s H E hr => ?_⟩⟩
  have tk : Takes (cxOf (L2.CX P w) P w K mg base ["core", "first", "second", "asked"] "asks_read" (defScope s_asks_read) f cdv A outer s H E) (fun cls d _ H => E cls d H) := takes_of rfl rfl rfl rfl
  exact jss_cons (js_set 3 sc_asks_read.nd (je_call (j_asked_of Fx) (hr.mono (by decide)) tk (ja_cons (je_ix (je_var 0) (je_var 2)) (ja_nil)))) (jss_one (js_ret (je_and (je_cmp oj_isnot (je_var 3) (je_non)) (je_one (je_cmp (oj_eq hr.units) (je_call (j_last_read Fx) (hr.mono (by decide)) tk (ja_cons (je_var 0) (ja_cons (je_var 2) (ja_cons (je_var 3) (ja_nil))))) (je_var 1))))))
abbrev s_own_read : Stmt := top 32
def b_own_read : GS := sSeq (sIf (gB (gOp2 fNe (gOp2 fIdx (gOp2 fIdx (gVar 0) (gVar 2)) (gC (.int 0))) (gC (.str (PySem.Str.ofString "read"))))) (sRet (gC (.bl false))) (sNext)) (sSeq (sAsg (gCall 3 (F_last_writing) (gaCons (gVar 0) (gaCons (gVar 2) (gaCons (gOp2 fIdx (gOp2 fIdx (gVar 0) (gVar 2)) (gC (.int 2))) (gaNil))))) (dName 3)) (sRet (gAndV (gOp2 fIsN (gVar 3) (gC .non)) (gAndV (gOp2 fEq (gOp2 fIdx (gOp2 fIdx (gVar 0) (gVar 3)) (gC (.int 0))) (gC (.str (PySem.Str.ofString "copy")))) (gOp2 fEq (gCall 3 (F_last_read) (gaCons (gVar 0) (gaCons (gVar 3) (gaCons (gOp2 fIdx (gOp2 fIdx (gVar 0) (gVar 3)) (gC (.int 2))) (gaNil))))) (gVar 1))))))
def F_own_read : List D → S → R D := runF 4 b_own_read
theorem sc_own_read : FnScope ["core", "first", "second", "copied"] ["core", "first", "second"] (defScope s_own_read) := ⟨rfl, rfl, rfl, by decide +kernel, rfl, by decide +kernel, by decide +kernel⟩
theorem j_own_read (Fx : Fx K mg ca) : JFn P w K mg base ca 2 "own_read" 3 F_own_read := by
  obtain ⟨f, fd, hm, F⟩ := Fx.d_own_read
  refine ⟨⟨f, fd, ["core", "first", "second"], hm, F.kp, F.bindsN (fun _ _ _ _ _ _ us hl => match us, hl with | [_, _, _], _ => rfl), rfl, fnJD F sc_own_read fun cdv A outer s H E hr => ?_⟩⟩
  have tk : Takes (cxOf (L2.CX P w) P w K mg base ["core", "first", "second", "copied"] "own_read" (defScope s_own_read) f cdv A outer s H E) (fun cls d _ H => E cls d H) := takes_of rfl rfl rfl rfl
  exact jss_cons (js_if (jt_cmp (oj_ne hr.units) (je_ix (je_ix (je_var 0) (je_var 2)) (je_int)) (je_str)) (jss_one (js_ret (je_bl))) (jss_nil)) (jss_cons (js_set 3 sc_own_read.nd (je_call (j_last_writing Fx) (hr.mono (by decide)) tk (ja_cons (je_var 0) (ja_cons (je_var 2) (ja_cons (je_ix (je_ix (je_var 0) (je_var 2)) (je_int)) (ja_nil)))))) (jss_one (js_ret (je_and (je_cmp oj_isnot (je_var 3) (je_non)) (je_and (je_cmp (oj_eq hr.units) (je_ix (je_ix (je_var 0) (je_var 3)) (je_int)) (je_str)) (je_one (je_cmp (oj_eq hr.units) (je_call (j_last_read Fx) (hr.mono (by decide)) tk (ja_cons (je_var 0) (ja_cons (je_var 3) (ja_cons (je_ix (je_ix (je_var 0) (je_var 3)) (je_int)) (ja_nil))))) (je_var 1))))))))
abbrev s_keeps : Stmt := top 33
def b_keeps : GS := sSeq (sPar 4 5 (gaCons (gCall 1 (F_letter_of) (gaCons (gOp2 fIdx (gVar 1) (gVar 2)) (gaNil))) (gaCons (gCall 1 (F_letter_of) (gaCons (gOp2 fIdx (gVar 1) (gVar 3)) (gaNil))) (gaNil)))) (sSeq (sIf (gOr (gB (gOp2 fIn (gC (.str (PySem.Str.ofString "f"))) (gTup (gaCons (gVar 4) (gaCons (gVar 5) (gaNil)))))) (gAnd (gB (gOp2 fEq (gVar 4) (gC (.str (PySem.Str.ofString "g"))))) (gB (gOp2 fEq (gVar 5) (gC (.str (PySem.Str.ofString "g"))))))) (sRet (gC (.bl true))) (sNext)) (sSeq (sIf (gB (gCall 3 (F_asks_read) (gaCons (gVar 1) (gaCons (gVar 2) (gaCons (gVar 3) (gaNil)))))) (sRet (gC (.bl true))) (sNext)) (sSeq (sIf (gAnd (gB (gOp2 fIn (gC (.str (PySem.Str.ofString "own"))) (gVar 0))) (gB (gCall 3 (F_own_read) (gaCons (gVar 1) (gaCons (gVar 2) (gaCons (gVar 3) (gaNil))))))) (sRet (gC (.bl true))) (sNext)) (sSeq (sIf (gB (gOp2 fEq (gVar 5) (gC (.str (PySem.Str.ofString "g"))))) (sRet (gC (.bl false))) (sNext)) (sSeq (sIf (gOr (gB (gOp2 fEq (gVar 4) (gC (.str (PySem.Str.ofString "g"))))) (gB (gOp2 fNe (gCall 1 (F_cell_of) (gaCons (gOp2 fIdx (gVar 1) (gVar 2)) (gaNil))) (gCall 1 (F_cell_of) (gaCons (gOp2 fIdx (gVar 1) (gVar 3)) (gaNil)))))) (sRet (gOp2 fIn (gOp2 fAdd (gVar 4) (gVar 5)) (gVar 0))) (sNext)) (sSeq (sIf (gB (gOp2 fEq (gVar 5) (gC (.str (PySem.Str.ofString "w"))))) (sRet (gC (.bl true))) (sNext)) (sRet (gIf (gB (gOp2 fEq (gVar 4) (gC (.str (PySem.Str.ofString "w"))))) (gOp2 fNotIn (gC (.str (PySem.Str.ofString "own"))) (gVar 0)) (gOp2 fIn (gC (.str (PySem.Str.ofString "ss"))) (gVar 0))))))))))
def F_keeps : List D → S → R D := runF 6 b_keeps
theorem sc_keeps : FnScope ["design", "core", "first", "second", "one", "other"] ["design", "core", "first", "second"] (defScope s_keeps) := ⟨rfl, rfl, rfl, by decide +kernel, rfl, by decide +kernel, by decide +kernel⟩
theorem j_keeps (Fx : Fx K mg ca) : JFn P w K mg base ca 3 "keeps" 4 F_keeps := by
  obtain ⟨f, fd, hm, F⟩ := Fx.d_keeps
  refine ⟨⟨f, fd, ["design", "core", "first", "second"], hm, F.kp, F.bindsN (fun _ _ _ _ _ _ us hl => match us, hl with | [_, _, _, _], _ => rfl), rfl, fnJD F sc_keeps fun cdv A outer s H E hr => ?_⟩⟩
  have tk : Takes (cxOf (L2.CX P w) P w K mg base ["design", "core", "first", "second", "one", "other"] "keeps" (defScope s_keeps) f cdv A outer s H E) (fun cls d _ H => E cls d H) := takes_of rfl rfl rfl rfl
  exact jss_cons (js_par 4 5 rfl sc_keeps.nd (ja_cons (je_call (j_letter_of Fx) (hr.mono (by decide)) tk (ja_cons (je_ix (je_var 1) (je_var 2)) (ja_nil))) (ja_cons (je_call (j_letter_of Fx) (hr.mono (by decide)) tk (ja_cons (je_ix (je_var 1) (je_var 3)) (ja_nil))) (ja_nil)))) (jss_cons (js_if (jw_t (jw_or (jt_cmp (oj_in (J.Room.u65 hr)) (je_str) (je_tup (ja_cons (je_var 4) (ja_cons (je_var 5) (ja_nil))))) (jw_or1 (jw_t (jw_and (jt_cmp (oj_eq hr.units) (je_var 4) (je_str)) (jw_and1 (jt_cmp (oj_eq hr.units) (je_var 5) (je_str)))))))) (jss_one (js_ret (je_bl))) (jss_nil)) (jss_cons (js_if (jt_val (je_call (j_asks_read Fx) (hr.mono (by decide)) tk (ja_cons (je_var 1) (ja_cons (je_var 2) (ja_cons (je_var 3) (ja_nil)))))) (jss_one (js_ret (je_bl))) (jss_nil)) (jss_cons (js_if (jw_t (jw_and (jt_cmp (oj_in (J.Room.u65 hr)) (je_str) (je_var 0)) (jw_and1 (jt_val (je_call (j_own_read Fx) (hr.mono (by decide)) tk (ja_cons (je_var 1) (ja_cons (je_var 2) (ja_cons (je_var 3) (ja_nil))))))))) (jss_one (js_ret (je_bl))) (jss_nil)) (jss_cons (js_if (jt_cmp (oj_eq hr.units) (je_var 5) (je_str)) (jss_one (js_ret (je_bl))) (jss_nil)) (jss_cons (js_if (jw_t (jw_or (jt_cmp (oj_eq hr.units) (je_var 4) (je_str)) (jw_or1 (jt_cmp (oj_ne hr.units) (je_call (j_cell_of Fx) (hr.mono (by decide)) tk (ja_cons (je_ix (je_var 1) (je_var 2)) (ja_nil))) (je_call (j_cell_of Fx) (hr.mono (by decide)) tk (ja_cons (je_ix (je_var 1) (je_var 3)) (ja_nil))))))) (jss_one (js_ret (je_cmp (oj_in (J.Room.u65 hr)) (je_op oj_add (je_var 4) (je_var 5)) (je_var 0)))) (jss_nil)) (jss_cons (js_if (jt_cmp (oj_eq hr.units) (je_var 5) (je_str)) (jss_one (js_ret (je_bl))) (jss_nil)) (jss_one (js_ret (je_if (jt_cmp (oj_eq hr.units) (je_var 4) (je_str)) (je_cmp (oj_notin (J.Room.u65 hr)) (je_str) (je_var 0)) (je_cmp (oj_in (J.Room.u65 hr)) (je_str) (je_var 0)))))))))))
abbrev s_Run_elders : Stmt := mst 35 1
def b_Run_elders : GS := sRet (gLc [3] (gRange1 (gaCons (gVar 2) (gaNil))) (dName 3) (gB (gCall 4 (F_keeps) (gaCons (gFld 50 "design" (gVar 0)) (gaCons (gVar 1) (gaCons (gVar 3) (gaCons (gVar 2) (gaNil))))))) (gVar 3))
def F_Run_elders : List D → S → R D := runF 4 b_Run_elders
theorem sc_Run_elders : FnScope ["self", "core", "place", "first"] ["self", "core", "place"] (defScope s_Run_elders) := ⟨rfl, rfl, rfl, by decide +kernel, rfl, by decide +kernel, by decide +kernel⟩
theorem j_Run_elders (Fx : Fx K mg ca) : JMeth P w K mg base ca 4 50 "elders" 2 F_Run_elders := by
  obtain ⟨f, fd, hm, F⟩ := Fx.m_Run_elders
  refine ⟨⟨f, fd, ["self", "core", "place"], hm, F.bindsN (fun _ _ _ _ _ _ us hl => match us, hl with | [_, _, _], _ => rfl), rfl, fnJD F sc_Run_elders fun cdv A outer s H E hr => ?_⟩⟩
  have tk : Takes (cxOf (L2.CX P w) P w K mg base ["self", "core", "place", "first"] "Run.elders" (defScope s_Run_elders) f cdv A outer s H E) (fun cls d _ H => E cls d H) := takes_of rfl rfl rfl rfl
  exact jss_one (js_ret (je_lc rfl sc_Run_elders.nd (ji_range1 Fx.bi_range (ja_cons (je_var 2) (ja_nil))) (blkOk_by (N := ["self", "core", "place", "first"]) (sc := defScope s_Run_elders) (by decide +kernel)) (fun _ _ _ _ _ => pg_name (i := 3) sc_Run_elders.nd rfl (by first | exact Or.inl rfl | exact Or.inr rfl)) (fun _ _ _ _ _ => jts_one (jt_val (je_call (j_keeps Fx) (hr.mono (by decide)) takes0 (ja_cons (je_fld Fx.k_Run Fx.n_Run_design (je_var 0)) (ja_cons (je_var 1) (ja_cons (je_var 3) (ja_cons (je_var 2) (ja_nil)))))))) (fun _ _ _ _ _ => je_var 3)))
abbrev s_Run___init__ : Stmt := mst 35 0
def b_Run___init__ : GS := sSeq (sAsg2 (gTup (gaCons (gVar 1) (gaCons (gVar 2) (gaNil)))) (d2Tup 2 (ds2Cons (d2Fld 50 "design" (gVar 0)) (ds2Cons (d2Fld 50 "program" (gVar 0)) (ds2Nil))))) (sSeq (sFldJ 50 "done" (gVar 0) (gLc [3] (gItems (gVar 2)) (dName 3) (gYes) (gRepM (gLst (gaCons (gC (.bl false)) (gaNil))) (gF (f1 fLen) (gaCons (gVar 3) (gaNil)))))) (sSeq (sFldJ 50 "taken" (gVar 0) (gLc [3] (gItems (gVar 2)) (dName 3) (gYes) (gRepM (gLst (gaCons (gC (.int 0)) (gaNil))) (gF (f1 fLen) (gaCons (gVar 3) (gaNil)))))) (sSeq (sFldJ 50 "ends" (gVar 0) (gLcO [3] (gItems (gVar 2)) (dName 3) (gYes) (gF (f1 fLen) (gaCons (gVar 3) (gaNil))))) (sSeq (sFldJ 50 "cells" (gVar 0) (gRepM (gLst (gaCons (gC (.int 0)) (gaNil))) (gC c_CELLS))) (sFldJ 50 "ahead" (gVar 0) (gLc [3] (gItems (gVar 2)) (dName 3) (gYes) (gLc [4] (gRange1 (gaCons (gF (f1 fLen) (gaCons (gVar 3) (gaNil))) (gaNil))) (dName 4) (gYes) (gMeth 50 2 "elders" (F_Run_elders) (gVar 0) (gaCons (gVar 3) (gaCons (gVar 4) (gaNil)))))))))))
def F_Run___init__ : List D → S → R D := runF 5 b_Run___init__
theorem sc_Run___init__ : FnScope ["self", "design", "program", "core", "place"] ["self", "design", "program"] (defScope s_Run___init__) := ⟨rfl, rfl, rfl, by decide +kernel, rfl, by decide +kernel, by decide +kernel⟩
theorem jm_Run (Fx : Fx K mg ca) : JMake P w K mg base ca 5 50 "Run" 2 F_Run___init__ := by
  obtain ⟨f, fd, hm, hmk, F⟩ := Fx.m_Run___init__
  refine ⟨⟨f, fd, ["self", "design", "program"], hm, hmk, F.bindsN (fun _ _ _ _ _ _ us hl => match us, hl with | [_, _, _], _ => rfl), rfl, fnJD F sc_Run___init__ fun cdv A outer s H E hr => ?_⟩⟩
  have tk : Takes (cxOf (L2.CX P w) P w K mg base ["self", "design", "program", "core", "place"] "Run.__init__" (defScope s_Run___init__) f cdv A outer s H E) (fun cls d _ H => E cls d H) := takes_of rfl rfl rfl rfl
  exact jss_cons (js_asg2 (je_tup (ja_cons (je_var 1) (ja_cons (je_var 2) (ja_nil)))) (jg2_tup rfl (jgs2_cons (jg2_fld (W := W0) Fx.k_Run Fx.n_Run_design (je_var 0)) (jgs2_cons (jg2_fld (W := W0) Fx.k_Run Fx.n_Run_program (je_var 0)) (jgs2_nil))))) (jss_cons (js_fld Fx.k_Run Fx.n_Run_done (je_var 0) (je_lc rfl sc_Run___init__.nd (ji_seq (je_var 2)) (blkOk_by (N := ["self", "design", "program", "core", "place"]) (sc := defScope s_Run___init__) (by decide +kernel)) (fun _ _ _ _ _ => pg_name (i := 3) sc_Run___init__.nd rfl (by first | exact Or.inl rfl | exact Or.inr rfl)) (fun _ _ _ _ _ => jts_nil) (fun _ _ _ _ _ => je_repM (je_lst (ja_cons (je_bl) (ja_nil))) (je_B cj_len Fx.bi_len bt_len (ja_cons (je_var 3) (ja_nil)))))) (jss_cons (js_fld Fx.k_Run Fx.n_Run_taken (je_var 0) (je_lc rfl sc_Run___init__.nd (ji_seq (je_var 2)) (blkOk_by (N := ["self", "design", "program", "core", "place"]) (sc := defScope s_Run___init__) (by decide +kernel)) (fun _ _ _ _ _ => pg_name (i := 3) sc_Run___init__.nd rfl (by first | exact Or.inl rfl | exact Or.inr rfl)) (fun _ _ _ _ _ => jts_nil) (fun _ _ _ _ _ => je_repM (je_lst (ja_cons (je_int) (ja_nil))) (je_B cj_len Fx.bi_len bt_len (ja_cons (je_var 3) (ja_nil)))))) (jss_cons (js_fld Fx.k_Run Fx.n_Run_ends (je_var 0) (je_lcO rfl sc_Run___init__.nd (ji_seq (je_var 2)) (blkOk_by (N := ["self", "design", "program", "core", "place"]) (sc := defScope s_Run___init__) (by decide +kernel)) (fun _ _ _ _ _ => pg_name (i := 3) sc_Run___init__.nd rfl (by first | exact Or.inl rfl | exact Or.inr rfl)) (fun _ _ _ _ _ => jts_nil) (fun _ _ _ _ _ => je_B cj_len Fx.bi_len bt_len (ja_cons (je_var 3) (ja_nil))))) (jss_cons (js_fld Fx.k_Run Fx.n_Run_cells (je_var 0) (je_repM (je_lst (ja_cons (je_int) (ja_nil))) (je_k Fx.c_CELLS))) (jss_one (js_fld Fx.k_Run Fx.n_Run_ahead (je_var 0) (je_lc rfl sc_Run___init__.nd (ji_seq (je_var 2)) (blkOk_by (N := ["self", "design", "program", "core", "place"]) (sc := defScope s_Run___init__) (by decide +kernel)) (fun _ _ _ _ _ => pg_name (i := 3) sc_Run___init__.nd rfl (by first | exact Or.inl rfl | exact Or.inr rfl)) (fun _ _ _ _ _ => jts_nil) (fun _ _ _ _ _ => je_lc rfl sc_Run___init__.nd (ji_range1 Fx.bi_range (ja_cons (je_B cj_len Fx.bi_len bt_len (ja_cons (je_var 3) (ja_nil))) (ja_nil))) (blkOk_by (N := ["self", "design", "program", "core", "place"]) (sc := _) (by kernel_rfl)) (fun _ _ _ _ _ => pg_name (i := 4) sc_Run___init__.nd rfl (by first | exact Or.inl rfl | exact Or.inr rfl)) (fun _ _ _ _ _ => jts_nil) (fun _ _ _ _ _ => je_meth Fx.k_Run (j_Run_elders Fx) (hr.mono (by decide)) takes0 (je_var 0) (ja_cons (je_var 3) (ja_cons (je_var 4) (ja_nil))))))))))))
abbrev s_Run_word : Stmt := mst 35 3
def b_Run_word : GS := sSeq (sAsg (gCall 3 (F_last_read) (gaCons (gOp2 fIdx (gFld 50 "program" (gVar 0)) (gVar 1)) (gaCons (gVar 2) (gaCons (gVar 3) (gaNil))))) (dName 4)) (sRet (gIf (gB (gOp2 fIs (gVar 4) (gC .non))) (gC (.int 0)) (gOp2 fIdx (gOp2 fIdx (gFld 50 "taken" (gVar 0)) (gVar 1)) (gVar 4))))
def F_Run_word : List D → S → R D := runF 5 b_Run_word
theorem sc_Run_word : FnScope ["self", "core", "place", "reg", "read"] ["self", "core", "place", "reg"] (defScope s_Run_word) := ⟨rfl, rfl, rfl, by decide +kernel, rfl, by decide +kernel, by decide +kernel⟩
theorem j_Run_word (Fx : Fx K mg ca) : JMeth P w K mg base ca 2 50 "word" 3 F_Run_word := by
  obtain ⟨f, fd, hm, F⟩ := Fx.m_Run_word
  refine ⟨⟨f, fd, ["self", "core", "place", "reg"], hm, F.bindsN (fun _ _ _ _ _ _ us hl => match us, hl with | [_, _, _, _], _ => rfl), rfl, fnJD F sc_Run_word fun cdv A outer s H E hr => ?_⟩⟩
  have tk : Takes (cxOf (L2.CX P w) P w K mg base ["self", "core", "place", "reg", "read"] "Run.word" (defScope s_Run_word) f cdv A outer s H E) (fun cls d _ H => E cls d H) := takes_of rfl rfl rfl rfl
  exact jss_cons (js_set 4 sc_Run_word.nd (je_call (j_last_read Fx) (hr.mono (by decide)) tk (ja_cons (je_ix (je_fld Fx.k_Run Fx.n_Run_program (je_var 0)) (je_var 1)) (ja_cons (je_var 2) (ja_cons (je_var 3) (ja_nil)))))) (jss_one (js_ret (je_if (jt_cmp oj_is (je_var 4) (je_non)) (je_int) (je_ix (je_ix (je_fld Fx.k_Run Fx.n_Run_taken (je_var 0)) (je_var 1)) (je_var 4)))))
abbrev s_Run_can : Stmt := mst 35 4
def b_Run_can : GS := sSeq (sIf (gOr (gB (gOp2 fIdx (gOp2 fIdx (gFld 50 "done" (gVar 0)) (gVar 1)) (gVar 2))) (gB (gOp2 fGt (gVar 2) (gOp2 fIdx (gFld 50 "ends" (gVar 0)) (gVar 1))))) (sRet (gC (.bl false))) (sNext)) (sSeq (sIf (gB (gF (f1 fAny) (gaCons (gLc [4] (gItems (gOp2 fIdx (gOp2 fIdx (gFld 50 "ahead" (gVar 0)) (gVar 1)) (gVar 2))) (dName 4) (gYes) (gNotV (gOp2 fIdx (gOp2 fIdx (gFld 50 "done" (gVar 0)) (gVar 1)) (gVar 4)))) (gaNil)))) (sRet (gC (.bl false))) (sNext)) (sSeq (sAsg (gOp2 fIdx (gOp2 fIdx (gFld 50 "program" (gVar 0)) (gVar 1)) (gVar 2)) (dName 3)) (sSeq (sIf (gOr (gB (gOp2 fNe (gOp2 fIdx (gVar 3) (gC (.int 0))) (gC (.str (PySem.Str.ofString "guard"))))) (gB (gOp2 fEq (gMeth 50 3 "word" (F_Run_word) (gVar 0) (gaCons (gVar 1) (gaCons (gVar 2) (gaCons (gOp2 fIdx (gVar 3) (gC (.int 1))) (gaNil))))) (gOp2 fIdx (gVar 3) (gC (.int 2)))))) (sRet (gC (.bl true))) (sNext)) (sRet (gNotV (gF (f1 fAny) (gaCons (gSl (gOp2 fIdx (gFld 50 "done" (gVar 0)) (gVar 1)) (goSome (gOp2 fAdd (gVar 2) (gC (.int 1)))) (goNone)) (gaNil))))))))
def F_Run_can : List D → S → R D := runF 5 b_Run_can
theorem sc_Run_can : FnScope ["self", "core", "place", "instruction", "first"] ["self", "core", "place"] (defScope s_Run_can) := ⟨rfl, rfl, rfl, by decide +kernel, rfl, by decide +kernel, by decide +kernel⟩
theorem j_Run_can (Fx : Fx K mg ca) : JMeth P w K mg base ca 3 50 "can" 2 F_Run_can := by
  obtain ⟨f, fd, hm, F⟩ := Fx.m_Run_can
  refine ⟨⟨f, fd, ["self", "core", "place"], hm, F.bindsN (fun _ _ _ _ _ _ us hl => match us, hl with | [_, _, _], _ => rfl), rfl, fnJD F sc_Run_can fun cdv A outer s H E hr => ?_⟩⟩
  have tk : Takes (cxOf (L2.CX P w) P w K mg base ["self", "core", "place", "instruction", "first"] "Run.can" (defScope s_Run_can) f cdv A outer s H E) (fun cls d _ H => E cls d H) := takes_of rfl rfl rfl rfl
  exact jss_cons (js_if (jw_t (jw_or (jt_val (je_ix (je_ix (je_fld Fx.k_Run Fx.n_Run_done (je_var 0)) (je_var 1)) (je_var 2))) (jw_or1 (jt_cmp oj_gt (je_var 2) (je_ix (je_fld Fx.k_Run Fx.n_Run_ends (je_var 0)) (je_var 1)))))) (jss_one (js_ret (je_bl))) (jss_nil)) (jss_cons (js_if (jt_val (je_B (cj_any rfl) Fx.bi_any bt_any (ja_cons (je_lc rfl sc_Run_can.nd (ji_seq (je_ix (je_ix (je_fld Fx.k_Run Fx.n_Run_ahead (je_var 0)) (je_var 1)) (je_var 2))) (blkOk_by (N := ["self", "core", "place", "instruction", "first"]) (sc := defScope s_Run_can) (by decide +kernel)) (fun _ _ _ _ _ => pg_name (i := 4) sc_Run_can.nd rfl (by first | exact Or.inl rfl | exact Or.inr rfl)) (fun _ _ _ _ _ => jts_nil) (fun _ _ _ _ _ => je_not (je_ix (je_ix (je_fld Fx.k_Run Fx.n_Run_done (je_var 0)) (je_var 1)) (je_var 4)))) (ja_nil)))) (jss_one (js_ret (je_bl))) (jss_nil)) (jss_cons (js_set 3 sc_Run_can.nd (je_ix (je_ix (je_fld Fx.k_Run Fx.n_Run_program (je_var 0)) (je_var 1)) (je_var 2))) (jss_cons (js_if (jw_t (jw_or (jt_cmp (oj_ne hr.units) (je_ix (je_var 3) (je_int)) (je_str)) (jw_or1 (jt_cmp (oj_eq hr.units) (je_meth Fx.k_Run (j_Run_word Fx) (hr.mono (by decide)) tk (je_var 0) (ja_cons (je_var 1) (ja_cons (je_var 2) (ja_cons (je_ix (je_var 3) (je_int)) (ja_nil))))) (je_ix (je_var 3) (je_int)))))) (jss_one (js_ret (je_bl))) (jss_nil)) (jss_one (js_ret (je_not (je_B (cj_any rfl) Fx.bi_any bt_any (ja_cons (je_slice (je_ix (je_fld Fx.k_Run Fx.n_Run_done (je_var 0)) (je_var 1)) (jo_some (je_op oj_add (je_var 2) (je_int))) (jo_none)) (ja_nil)))))))))
abbrev s_Run_events : Stmt := mst 35 5
def b_Run_events : GS := sSeq (sAsg (gLstM (gaNil)) (dName 1)) (sSeq (sFor (dName 2) (gRange1 (gaCons (gF (f1 fLen) (gaCons (gFld 50 "program" (gVar 0)) (gaNil))) (gaNil))) (sExpr (gExt (gVar 1) (gLc [3] (gRange1 (gaCons (gF (f1 fLen) (gaCons (gOp2 fIdx (gFld 50 "program" (gVar 0)) (gVar 2)) (gaNil))) (gaNil))) (dName 3) (gB (gMeth 50 2 "can" (F_Run_can) (gVar 0) (gaCons (gVar 2) (gaCons (gVar 3) (gaNil))))) (gTup (gaCons (gVar 2) (gaCons (gVar 3) (gaNil)))))))) (sRet (gVar 1)))
def F_Run_events : List D → S → R D := runF 4 b_Run_events
theorem sc_Run_events : FnScope ["self", "found", "core", "place"] ["self"] (defScope s_Run_events) := ⟨rfl, rfl, rfl, by decide +kernel, rfl, by decide +kernel, by decide +kernel⟩
theorem j_Run_events (Fx : Fx K mg ca) : JMeth P w K mg base ca 4 50 "events" 0 F_Run_events := by
  obtain ⟨f, fd, hm, F⟩ := Fx.m_Run_events
  refine ⟨⟨f, fd, ["self"], hm, F.bindsN (fun _ _ _ _ _ _ us hl => match us, hl with | [_], _ => rfl), rfl, fnJD F sc_Run_events fun cdv A outer s H E hr => ?_⟩⟩
  have tk : Takes (cxOf (L2.CX P w) P w K mg base ["self", "found", "core", "place"] "Run.events" (defScope s_Run_events) f cdv A outer s H E) (fun cls d _ H => E cls d H) := takes_of rfl rfl rfl rfl
  exact jss_cons (js_set 1 sc_Run_events.nd (je_lstM (ja_nil))) (jss_cons (js_for (passes_of rfl) rfl (ji_range1 Fx.bi_range (ja_cons (je_B cj_len Fx.bi_len bt_len (ja_cons (je_fld Fx.k_Run Fx.n_Run_program (je_var 0)) (ja_nil))) (ja_nil))) (jg_name 2 sc_Run_events.nd) (jss_one (js_expr (je_extend (je_var 1) (je_lc rfl sc_Run_events.nd (ji_range1 Fx.bi_range (ja_cons (je_B cj_len Fx.bi_len bt_len (ja_cons (je_ix (je_fld Fx.k_Run Fx.n_Run_program (je_var 0)) (je_var 2)) (ja_nil))) (ja_nil))) (blkOk_by (N := ["self", "found", "core", "place"]) (sc := defScope s_Run_events) (by decide +kernel)) (fun _ _ _ _ _ => pg_name (i := 3) sc_Run_events.nd rfl (by first | exact Or.inl rfl | exact Or.inr rfl)) (fun _ _ _ _ _ => jts_one (jt_val (je_meth Fx.k_Run (j_Run_can Fx) (hr.mono (by decide)) takes0 (je_var 0) (ja_cons (je_var 2) (ja_cons (je_var 3) (ja_nil)))))) (fun _ _ _ _ _ => je_tup (ja_cons (je_var 2) (ja_cons (je_var 3) (ja_nil))))))))) (jss_one (js_ret (je_var 1))))
abbrev s_Run_has_ended : Stmt := mst 35 6
def b_Run_has_ended : GS := sRet (gF (f1 fAll) (gaCons (gLc [1] (gRange1 (gaCons (gF (f1 fLen) (gaCons (gFld 50 "program" (gVar 0)) (gaNil))) (gaNil))) (dName 1) (gYes) (gF (f1 fAll) (gaCons (gSl (gOp2 fIdx (gFld 50 "done" (gVar 0)) (gVar 1)) (goNone) (goSome (gOp2 fAdd (gOp2 fIdx (gFld 50 "ends" (gVar 0)) (gVar 1)) (gC (.int 1))))) (gaNil)))) (gaNil)))
def F_Run_has_ended : List D → S → R D := runF 2 b_Run_has_ended
theorem sc_Run_has_ended : FnScope ["self", "core"] ["self"] (defScope s_Run_has_ended) := ⟨rfl, rfl, rfl, by decide +kernel, rfl, by decide +kernel, by decide +kernel⟩
theorem j_Run_has_ended (Fx : Fx K mg ca) : JMeth P w K mg base ca 1 50 "has_ended" 0 F_Run_has_ended := by
  obtain ⟨f, fd, hm, F⟩ := Fx.m_Run_has_ended
  refine ⟨⟨f, fd, ["self"], hm, F.bindsN (fun _ _ _ _ _ _ us hl => match us, hl with | [_], _ => rfl), rfl, fnJD F sc_Run_has_ended fun cdv A outer s H E hr => ?_⟩⟩
  have tk : Takes (cxOf (L2.CX P w) P w K mg base ["self", "core"] "Run.has_ended" (defScope s_Run_has_ended) f cdv A outer s H E) (fun cls d _ H => E cls d H) := takes_of rfl rfl rfl rfl
  exact jss_one (js_ret (je_B (cj_all rfl) Fx.bi_all bt_all (ja_cons (je_lc rfl sc_Run_has_ended.nd (ji_range1 Fx.bi_range (ja_cons (je_B cj_len Fx.bi_len bt_len (ja_cons (je_fld Fx.k_Run Fx.n_Run_program (je_var 0)) (ja_nil))) (ja_nil))) (blkOk_by (N := ["self", "core"]) (sc := defScope s_Run_has_ended) (by decide +kernel)) (fun _ _ _ _ _ => pg_name (i := 1) sc_Run_has_ended.nd rfl (by first | exact Or.inl rfl | exact Or.inr rfl)) (fun _ _ _ _ _ => jts_nil) (fun _ _ _ _ _ => je_B (cj_all rfl) Fx.bi_all bt_all (ja_cons (je_slice (je_ix (je_fld Fx.k_Run Fx.n_Run_done (je_var 0)) (je_var 1)) (jo_none) (jo_some (je_op oj_add (je_ix (je_fld Fx.k_Run Fx.n_Run_ends (je_var 0)) (je_var 1)) (je_int)))) (ja_nil)))) (ja_nil))))
abbrev s_Run_written : Stmt := mst 35 9
def b_Run_written : GS := sSeq (sAsg (gOp2 fIdx (gOp2 fIdx (gFld 50 "program" (gVar 0)) (gVar 1)) (gVar 2)) (dName 3)) (sRet (gIf (gB (gOp2 fEq (gOp2 fIdx (gVar 3) (gC (.int 0))) (gC (.str (PySem.Str.ofString "write"))))) (gOp2 fIdx (gVar 3) (gC (.int 2))) (gMeth 50 3 "word" (F_Run_word) (gVar 0) (gaCons (gVar 1) (gaCons (gVar 2) (gaCons (gOp2 fIdx (gVar 3) (gC (.int 2))) (gaNil)))))))
def F_Run_written : List D → S → R D := runF 4 b_Run_written
theorem sc_Run_written : FnScope ["self", "core", "place", "instruction"] ["self", "core", "place"] (defScope s_Run_written) := ⟨rfl, rfl, rfl, by decide +kernel, rfl, by decide +kernel, by decide +kernel⟩
theorem j_Run_written (Fx : Fx K mg ca) : JMeth P w K mg base ca 3 50 "written" 2 F_Run_written := by
  obtain ⟨f, fd, hm, F⟩ := Fx.m_Run_written
  refine ⟨⟨f, fd, ["self", "core", "place"], hm, F.bindsN (fun _ _ _ _ _ _ us hl => match us, hl with | [_, _, _], _ => rfl), rfl, fnJD F sc_Run_written fun cdv A outer s H E hr => ?_⟩⟩
  have tk : Takes (cxOf (L2.CX P w) P w K mg base ["self", "core", "place", "instruction"] "Run.written" (defScope s_Run_written) f cdv A outer s H E) (fun cls d _ H => E cls d H) := takes_of rfl rfl rfl rfl
  exact jss_cons (js_set 3 sc_Run_written.nd (je_ix (je_ix (je_fld Fx.k_Run Fx.n_Run_program (je_var 0)) (je_var 1)) (je_var 2))) (jss_one (js_ret (je_if (jt_cmp (oj_eq hr.units) (je_ix (je_var 3) (je_int)) (je_str)) (je_ix (je_var 3) (je_int)) (je_meth Fx.k_Run (j_Run_word Fx) (hr.mono (by decide)) tk (je_var 0) (ja_cons (je_var 1) (ja_cons (je_var 2) (ja_cons (je_ix (je_var 3) (je_int)) (ja_nil))))))))
abbrev s_Run_seen : Stmt := mst 35 10
def b_Run_seen : GS := sSeq (sAsg (gCall 3 (F_last_writing) (gaCons (gOp2 fIdx (gFld 50 "program" (gVar 0)) (gVar 1)) (gaCons (gVar 2) (gaCons (gVar 3) (gaNil))))) (dName 4)) (sSeq (sIf (gAnd (gB (gOp2 fIsN (gVar 4) (gC .non))) (gNot (gB (gOp2 fIdx (gOp2 fIdx (gFld 50 "done" (gVar 0)) (gVar 1)) (gVar 4))))) (sRet (gMeth 50 2 "written" (F_Run_written) (gVar 0) (gaCons (gVar 1) (gaCons (gVar 4) (gaNil))))) (sNext)) (sRet (gOp2 fIdx (gFld 50 "cells" (gVar 0)) (gVar 3))))
def F_Run_seen : List D → S → R D := runF 5 b_Run_seen
theorem sc_Run_seen : FnScope ["self", "core", "place", "cell", "own"] ["self", "core", "place", "cell"] (defScope s_Run_seen) := ⟨rfl, rfl, rfl, by decide +kernel, rfl, by decide +kernel, by decide +kernel⟩
theorem j_Run_seen (Fx : Fx K mg ca) : JMeth P w K mg base ca 4 50 "seen" 3 F_Run_seen := by
  obtain ⟨f, fd, hm, F⟩ := Fx.m_Run_seen
  refine ⟨⟨f, fd, ["self", "core", "place", "cell"], hm, F.bindsN (fun _ _ _ _ _ _ us hl => match us, hl with | [_, _, _, _], _ => rfl), rfl, fnJD F sc_Run_seen fun cdv A outer s H E hr => ?_⟩⟩
  have tk : Takes (cxOf (L2.CX P w) P w K mg base ["self", "core", "place", "cell", "own"] "Run.seen" (defScope s_Run_seen) f cdv A outer s H E) (fun cls d _ H => E cls d H) := takes_of rfl rfl rfl rfl
  exact jss_cons (js_set 4 sc_Run_seen.nd (je_call (j_last_writing Fx) (hr.mono (by decide)) tk (ja_cons (je_ix (je_fld Fx.k_Run Fx.n_Run_program (je_var 0)) (je_var 1)) (ja_cons (je_var 2) (ja_cons (je_var 3) (ja_nil)))))) (jss_cons (js_if (jw_t (jw_and (jt_cmp oj_isnot (je_var 4) (je_non)) (jw_and1 (jt_not (jt_val (je_ix (je_ix (je_fld Fx.k_Run Fx.n_Run_done (je_var 0)) (je_var 1)) (je_var 4))))))) (jss_one (js_ret (je_meth Fx.k_Run (j_Run_written Fx) (hr.mono (by decide)) tk (je_var 0) (ja_cons (je_var 1) (ja_cons (je_var 4) (ja_nil)))))) (jss_nil)) (jss_one (js_ret (je_ix (je_fld Fx.k_Run Fx.n_Run_cells (je_var 0)) (je_var 3)))))
abbrev s_Run_do : Stmt := mst 35 7
def b_Run_do : GS := sSeq (sAsg (gVar 1) (dTup 2 (dsCons (dName 3) (dsCons (dName 4) (dsNil))))) (sSeq (sPar 5 6 (gaCons (gOp2 fIdx (gOp2 fIdx (gFld 50 "program" (gVar 0)) (gVar 3)) (gVar 4)) (gaCons (gCall 1 (F_cell_of) (gaCons (gOp2 fIdx (gOp2 fIdx (gFld 50 "program" (gVar 0)) (gVar 3)) (gVar 4)) (gaNil))) (gaNil)))) (sSeq (sAsg (gTup (gaCons (gVar 3) (gaCons (gVar 4) (gaCons (gOp2 fIdx (gFld 50 "ends" (gVar 0)) (gVar 3)) (gaCons (gVar 6) (gaCons (gIf (gB (gOp2 fIs (gVar 6) (gC .non))) (gC .non) (gOp2 fIdx (gFld 50 "cells" (gVar 0)) (gVar 6))) (gaNil))))))) (dName 2)) (sSeq (sSetIx (gC (.bl true)) (gOp2 fIdx (gFld 50 "done" (gVar 0)) (gVar 3)) (gVar 4)) (sSeq (sIf (gB (gOp2 fEq (gOp2 fIdx (gVar 5) (gC (.int 0))) (gC (.str (PySem.Str.ofString "read"))))) (sSetIx (gMeth 50 3 "seen" (F_Run_seen) (gVar 0) (gaCons (gVar 3) (gaCons (gVar 4) (gaCons (gVar 6) (gaNil))))) (gOp2 fIdx (gFld 50 "taken" (gVar 0)) (gVar 3)) (gVar 4)) (sIf (gB (gOp2 fIsN (gVar 6) (gC .non))) (sSetIx (gMeth 50 2 "written" (F_Run_written) (gVar 0) (gaCons (gVar 3) (gaCons (gVar 4) (gaNil)))) (gFld 50 "cells" (gVar 0)) (gVar 6)) (sIf (gAnd (gB (gOp2 fEq (gOp2 fIdx (gVar 5) (gC (.int 0))) (gC (.str (PySem.Str.ofString "guard"))))) (gB (gOp2 fNe (gMeth 50 3 "word" (F_Run_word) (gVar 0) (gaCons (gVar 3) (gaCons (gVar 4) (gaCons (gOp2 fIdx (gVar 5) (gC (.int 1))) (gaNil))))) (gOp2 fIdx (gVar 5) (gC (.int 2)))))) (sSetIx (gVar 4) (gFld 50 "ends" (gVar 0)) (gVar 3)) (sNext)))) (sRet (gVar 2))))))
def F_Run_do : List D → S → R D := runF 7 b_Run_do
theorem sc_Run_do : FnScope ["self", "event", "back", "core", "place", "instruction", "cell"] ["self", "event"] (defScope s_Run_do) := ⟨rfl, rfl, rfl, by decide +kernel, rfl, by decide +kernel, by decide +kernel⟩
theorem j_Run_do (Fx : Fx K mg ca) : JMeth P w K mg base ca 5 50 "do" 1 F_Run_do := by
  obtain ⟨f, fd, hm, F⟩ := Fx.m_Run_do
  refine ⟨⟨f, fd, ["self", "event"], hm, F.bindsN (fun _ _ _ _ _ _ us hl => match us, hl with | [_, _], _ => rfl), rfl, fnJD F sc_Run_do fun cdv A outer s H E hr => ?_⟩⟩
  have tk : Takes (cxOf (L2.CX P w) P w K mg base ["self", "event", "back", "core", "place", "instruction", "cell"] "Run.do" (defScope s_Run_do) f cdv A outer s H E) (fun cls d _ H => E cls d H) := takes_of rfl rfl rfl rfl
  exact jss_cons (js_asg (je_var 1) (jg_tup rfl (jgs_cons (jg_name 3 sc_Run_do.nd) (jgs_cons (jg_name 4 sc_Run_do.nd) (jgs_nil))))) (jss_cons (js_par 5 6 rfl sc_Run_do.nd (ja_cons (je_ix (je_ix (je_fld Fx.k_Run Fx.n_Run_program (je_var 0)) (je_var 3)) (je_var 4)) (ja_cons (je_call (j_cell_of Fx) (hr.mono (by decide)) tk (ja_cons (je_ix (je_ix (je_fld Fx.k_Run Fx.n_Run_program (je_var 0)) (je_var 3)) (je_var 4)) (ja_nil))) (ja_nil)))) (jss_cons (js_set 2 sc_Run_do.nd (je_tup (ja_cons (je_var 3) (ja_cons (je_var 4) (ja_cons (je_ix (je_fld Fx.k_Run Fx.n_Run_ends (je_var 0)) (je_var 3)) (ja_cons (je_var 6) (ja_cons (je_if (jt_cmp oj_is (je_var 6) (je_non)) (je_non) (je_ix (je_fld Fx.k_Run Fx.n_Run_cells (je_var 0)) (je_var 6))) (ja_nil)))))))) (jss_cons (js_setIx (je_bl) (je_ix (je_fld Fx.k_Run Fx.n_Run_done (je_var 0)) (je_var 3)) (je_var 4)) (jss_cons (js_if (jt_cmp (oj_eq hr.units) (je_ix (je_var 5) (je_int)) (je_str)) (jss_one (js_setIx (je_meth Fx.k_Run (j_Run_seen Fx) (hr.mono (by decide)) tk (je_var 0) (ja_cons (je_var 3) (ja_cons (je_var 4) (ja_cons (je_var 6) (ja_nil))))) (je_ix (je_fld Fx.k_Run Fx.n_Run_taken (je_var 0)) (je_var 3)) (je_var 4))) (jss_one (js_if (jt_cmp oj_isnot (je_var 6) (je_non)) (jss_one (js_setIx (je_meth Fx.k_Run (j_Run_written Fx) (hr.mono (by decide)) tk (je_var 0) (ja_cons (je_var 3) (ja_cons (je_var 4) (ja_nil)))) (je_fld Fx.k_Run Fx.n_Run_cells (je_var 0)) (je_var 6))) (jss_one (js_if (jw_t (jw_and (jt_cmp (oj_eq hr.units) (je_ix (je_var 5) (je_int)) (je_str)) (jw_and1 (jt_cmp (oj_ne hr.units) (je_meth Fx.k_Run (j_Run_word Fx) (hr.mono (by decide)) tk (je_var 0) (ja_cons (je_var 3) (ja_cons (je_var 4) (ja_cons (je_ix (je_var 5) (je_int)) (ja_nil))))) (je_ix (je_var 5) (je_int)))))) (jss_one (js_setIx (je_var 4) (je_fld Fx.k_Run Fx.n_Run_ends (je_var 0)) (je_var 3))) (jss_nil)))))) (jss_one (js_ret (je_var 2)))))))
abbrev s_Run_outcome : Stmt := mst 35 11
def b_Run_outcome : GS := sSeq (sAsg (gLstM (gaNil)) (dName 1)) (sSeq (sFor (dName 2) (gRange1 (gaCons (gF (f1 fLen) (gaCons (gFld 50 "program" (gVar 0)) (gaNil))) (gaNil))) (sSeq (sPar 4 5 (gaCons (gOp2 fIdx (gFld 50 "program" (gVar 0)) (gVar 2)) (gaCons (gLstM (gaCons (gC (.int 0)) (gaCons (gC (.int 0)) (gaNil)))) (gaNil)))) (sSeq (sFor (dName 3) (gRange1 (gaCons (gF (f1 fLen) (gaCons (gVar 4) (gaNil))) (gaNil))) (sIf (gAnd (gB (gOp2 fEq (gOp2 fIdx (gOp2 fIdx (gVar 4) (gVar 3)) (gC (.int 0))) (gC (.str (PySem.Str.ofString "read"))))) (gB (gOp2 fIdx (gOp2 fIdx (gFld 50 "done" (gVar 0)) (gVar 2)) (gVar 3)))) (sSetIx (gOp2 fIdx (gOp2 fIdx (gFld 50 "taken" (gVar 0)) (gVar 2)) (gVar 3)) (gVar 5) (gOp2 fIdx (gOp2 fIdx (gVar 4) (gVar 3)) (gC (.int 1)))) (sNext))) (sExpr (gApp (gVar 1) (gF (f1 fTuple) (gaCons (gVar 5) (gaNil)))))))) (sRet (gTup (gaCons (gF (f1 fTuple) (gaCons (gVar 1) (gaNil))) (gaCons (gF (f1 fTuple) (gaCons (gFld 50 "cells" (gVar 0)) (gaNil))) (gaNil))))))
def F_Run_outcome : List D → S → R D := runF 6 b_Run_outcome
theorem sc_Run_outcome : FnScope ["self", "found", "core", "place", "instructions", "words"] ["self"] (defScope s_Run_outcome) := ⟨rfl, rfl, rfl, by decide +kernel, rfl, by decide +kernel, by decide +kernel⟩
theorem j_Run_outcome (Fx : Fx K mg ca) : JMeth P w K mg base ca 1 50 "outcome" 0 F_Run_outcome := by
  obtain ⟨f, fd, hm, F⟩ := Fx.m_Run_outcome
  refine ⟨⟨f, fd, ["self"], hm, F.bindsN (fun _ _ _ _ _ _ us hl => match us, hl with | [_], _ => rfl), rfl, fnJD F sc_Run_outcome fun cdv A outer s H E hr => ?_⟩⟩
  have tk : Takes (cxOf (L2.CX P w) P w K mg base ["self", "found", "core", "place", "instructions", "words"] "Run.outcome" (defScope s_Run_outcome) f cdv A outer s H E) (fun cls d _ H => E cls d H) := takes_of rfl rfl rfl rfl
  exact jss_cons (js_set 1 sc_Run_outcome.nd (je_lstM (ja_nil))) (jss_cons (js_for (passes_of rfl) rfl (ji_range1 Fx.bi_range (ja_cons (je_B cj_len Fx.bi_len bt_len (ja_cons (je_fld Fx.k_Run Fx.n_Run_program (je_var 0)) (ja_nil))) (ja_nil))) (jg_name 2 sc_Run_outcome.nd) (jss_cons (js_par 4 5 rfl sc_Run_outcome.nd (ja_cons (je_ix (je_fld Fx.k_Run Fx.n_Run_program (je_var 0)) (je_var 2)) (ja_cons (je_lstM (ja_cons (je_int) (ja_cons (je_int) (ja_nil)))) (ja_nil)))) (jss_cons (js_for (passes_of rfl) rfl (ji_range1 Fx.bi_range (ja_cons (je_B cj_len Fx.bi_len bt_len (ja_cons (je_var 4) (ja_nil))) (ja_nil))) (jg_name 3 sc_Run_outcome.nd) (jss_one (js_if (jw_t (jw_and (jt_cmp (oj_eq hr.units) (je_ix (je_ix (je_var 4) (je_var 3)) (je_int)) (je_str)) (jw_and1 (jt_val (je_ix (je_ix (je_fld Fx.k_Run Fx.n_Run_done (je_var 0)) (je_var 2)) (je_var 3)))))) (jss_one (js_setIx (je_ix (je_ix (je_fld Fx.k_Run Fx.n_Run_taken (je_var 0)) (je_var 2)) (je_var 3)) (je_var 5) (je_ix (je_ix (je_var 4) (je_var 3)) (je_int)))) (jss_nil)))) (jss_one (js_expr (je_append (je_var 1) (je_Ty cj_tuple Fx.bi_tuple bt_tuple (ja_cons (je_var 5) (ja_nil))))))))) (jss_one (js_ret (je_tup (ja_cons (je_Ty cj_tuple Fx.bi_tuple bt_tuple (ja_cons (je_var 1) (ja_nil))) (ja_cons (je_Ty cj_tuple Fx.bi_tuple bt_tuple (ja_cons (je_fld Fx.k_Run Fx.n_Run_cells (je_var 0)) (ja_nil))) (ja_nil)))))))
abbrev s_is_event : Stmt := top 37
def b_is_event : GS := sSeq (sIf (gOr (gNot (gB (gCall 3 (F_is_list) (gaCons (gVar 1) (gaCons (gC (.int 2)) (gaCons (gC (.int 2)) (gaNil))))))) (gNot (gB (gCall 3 (F_is_in) (gaCons (gOp2 fIdx (gVar 1) (gC (.int 0))) (gaCons (gC (.int 0)) (gaCons (gOp2 fSub (gF (f1 fLen) (gaCons (gVar 0) (gaNil))) (gC (.int 1))) (gaNil)))))))) (sRet (gC (.bl false))) (sNext)) (sRet (gCall 3 (F_is_in) (gaCons (gOp2 fIdx (gVar 1) (gC (.int 1))) (gaCons (gC (.int 0)) (gaCons (gOp2 fSub (gF (f1 fLen) (gaCons (gOp2 fIdx (gVar 0) (gOp2 fIdx (gVar 1) (gC (.int 0)))) (gaNil))) (gC (.int 1))) (gaNil))))))
def F_is_event : List D → S → R D := runF 2 b_is_event
theorem sc_is_event : FnScope ["program", "value"] ["program", "value"] (defScope s_is_event) := ⟨rfl, rfl, rfl, by decide +kernel, rfl, by decide +kernel, by decide +kernel⟩
theorem j_is_event (Fx : Fx K mg ca) : JFn P w K mg base ca 3 "is_event" 2 F_is_event := by
  obtain ⟨f, fd, hm, F⟩ := Fx.d_is_event
  refine ⟨⟨f, fd, ["program", "value"], hm, F.kp, F.bindsN (fun _ _ _ _ _ _ us hl => match us, hl with | [_, _], _ => rfl), rfl, fnJD F sc_is_event fun cdv A outer s H E hr => ?_⟩⟩
  have tk : Takes (cxOf (L2.CX P w) P w K mg base ["program", "value"] "is_event" (defScope s_is_event) f cdv A outer s H E) (fun cls d _ H => E cls d H) := takes_of rfl rfl rfl rfl
  exact jss_cons (js_if (jw_t (jw_or (jt_not (jt_val (je_call (j_is_list Fx) (hr.mono (by decide)) tk (ja_cons (je_var 1) (ja_cons (je_int) (ja_cons (je_int) (ja_nil))))))) (jw_or1 (jt_not (jt_val (je_call (j_is_in Fx) (hr.mono (by decide)) tk (ja_cons (je_ix (je_var 1) (je_int)) (ja_cons (je_int) (ja_cons (je_op oj_sub (je_B cj_len Fx.bi_len bt_len (ja_cons (je_var 0) (ja_nil))) (je_int)) (ja_nil)))))))))) (jss_one (js_ret (je_bl))) (jss_nil)) (jss_one (js_ret (je_call (j_is_in Fx) (hr.mono (by decide)) tk (ja_cons (je_ix (je_var 1) (je_int)) (ja_cons (je_int) (ja_cons (je_op oj_sub (je_B cj_len Fx.bi_len bt_len (ja_cons (je_ix (je_var 0) (je_ix (je_var 1) (je_int))) (ja_nil))) (je_int)) (ja_nil)))))))
abbrev s_need_run : Stmt := top 36
def b_need_run : GS := sSeq (sExpr (gCall 1 (F_need_design) (gaCons (gVar 0) (gaNil)))) (sSeq (sExpr (gCall 1 (F_need_program) (gaCons (gVar 1) (gaNil)))) (sSeq (sIf (gNot (gB (gCall 3 (F_is_list) (gaCons (gVar 2) (gaCons (gC (.int 0)) (gaCons (gC c_MOST_PROGRAM) (gaNil))))))) (sNever) (sNext)) (sSeq (sAsg (gMake 50 2 (F_Run___init__) (gaCons (gVar 0) (gaCons (gVar 1) (gaNil)))) (dName 3)) (sSeq (sFor (dName 4) (gRange1 (gaCons (gF (f1 fLen) (gaCons (gVar 2) (gaNil))) (gaNil))) (sSeq (sIf (gOr (gNot (gB (gCall 2 (F_is_event) (gaCons (gVar 1) (gaCons (gOp2 fIdx (gVar 2) (gVar 4)) (gaNil)))))) (gNot (gB (gMeth 50 2 "can" (F_Run_can) (gVar 3) (gaCons (gOp2 fIdx (gOp2 fIdx (gVar 2) (gVar 4)) (gC (.int 0))) (gaCons (gOp2 fIdx (gOp2 fIdx (gVar 2) (gVar 4)) (gC (.int 1))) (gaNil))))))) (sNever) (sNext)) (sExpr (gMeth 50 1 "do" (F_Run_do) (gVar 3) (gaCons (gOp2 fIdx (gVar 2) (gVar 4)) (gaNil)))))) (sRet (gVar 3))))))
def F_need_run : List D → S → R D := runF 5 b_need_run
theorem sc_need_run : FnScope ["design", "program", "row", "run", "index"] ["design", "program", "row"] (defScope s_need_run) := ⟨rfl, rfl, rfl, by decide +kernel, rfl, by decide +kernel, by decide +kernel⟩
theorem j_need_run (Fx : Fx K mg ca) : JFn P w K mg base ca 7 "need_run" 3 F_need_run := by
  obtain ⟨f, fd, hm, F⟩ := Fx.d_need_run
  refine ⟨⟨f, fd, ["design", "program", "row"], hm, F.kp, F.bindsN (fun _ _ _ _ _ _ us hl => match us, hl with | [_, _, _], _ => rfl), rfl, fnJD F sc_need_run fun cdv A outer s H E hr => ?_⟩⟩
  have tk : Takes (cxOf (L2.CX P w) P w K mg base ["design", "program", "row", "run", "index"] "need_run" (defScope s_need_run) f cdv A outer s H E) (fun cls d _ H => E cls d H) := takes_of rfl rfl rfl rfl
  exact jss_cons (js_expr (je_call (j_need_design Fx) (hr.mono (by decide)) tk (ja_cons (je_var 0) (ja_nil)))) (jss_cons (js_expr (je_call (j_need_program Fx) (hr.mono (by decide)) tk (ja_cons (je_var 1) (ja_nil)))) (jss_cons (js_if (jt_not (jt_val (je_call (j_is_list Fx) (hr.mono (by decide)) tk (ja_cons (je_var 2) (ja_cons (je_int) (ja_cons (je_k Fx.c_MOST_PROGRAM) (ja_nil))))))) (jss_one (js_never)) (jss_nil)) (jss_cons (js_set 3 sc_need_run.nd (je_make (jm_Run Fx) (hr.mono (by decide)) (fun _ _ _ _ _ _ _ z => by obtain ⟨_, _, _, _, _, _, _, _, _, _, _, _, q⟩ := z; exact q.elim) (ja_cons (je_var 0) (ja_cons (je_var 1) (ja_nil))))) (jss_cons (js_for (passes_of rfl) rfl (ji_range1 Fx.bi_range (ja_cons (je_B cj_len Fx.bi_len bt_len (ja_cons (je_var 2) (ja_nil))) (ja_nil))) (jg_name 4 sc_need_run.nd) (jss_cons (js_if (jw_t (jw_or (jt_not (jt_val (je_call (j_is_event Fx) (hr.mono (by decide)) tk (ja_cons (je_var 1) (ja_cons (je_ix (je_var 2) (je_var 4)) (ja_nil)))))) (jw_or1 (jt_not (jt_val (je_meth Fx.k_Run (j_Run_can Fx) (hr.mono (by decide)) tk (je_var 3) (ja_cons (je_ix (je_ix (je_var 2) (je_var 4)) (je_int)) (ja_cons (je_ix (je_ix (je_var 2) (je_var 4)) (je_int)) (ja_nil))))))))) (jss_one (js_never)) (jss_nil)) (jss_one (js_expr (je_meth Fx.k_Run (j_Run_do Fx) (hr.mono (by decide)) tk (je_var 3) (ja_cons (je_ix (je_var 2) (je_var 4)) (ja_nil))))))) (jss_one (js_ret (je_var 3)))))))
abbrev s_events_behind : Stmt := top 38
def b_events_behind : GS := sRet (gF (f1 fTuple) (gaCons (gMeth 50 0 "events" (F_Run_events) (gCall 3 (F_need_run) (gaCons (gVar 0) (gaCons (gVar 1) (gaCons (gVar 2) (gaNil))))) gaNil) (gaNil)))
def F_events_behind : List D → S → R D := runF 3 b_events_behind
theorem sc_events_behind : FnScope ["design", "program", "row"] ["design", "program", "row"] (defScope s_events_behind) := ⟨rfl, rfl, rfl, by decide +kernel, rfl, by decide +kernel, by decide +kernel⟩
theorem j_events_behind (Fx : Fx K mg ca) : JFn P w K mg base ca 8 "events_behind" 3 F_events_behind := by
  obtain ⟨f, fd, hm, F⟩ := Fx.d_events_behind
  refine ⟨⟨f, fd, ["design", "program", "row"], hm, F.kp, F.bindsN (fun _ _ _ _ _ _ us hl => match us, hl with | [_, _, _], _ => rfl), rfl, fnJD F sc_events_behind fun cdv A outer s H E hr => ?_⟩⟩
  have tk : Takes (cxOf (L2.CX P w) P w K mg base ["design", "program", "row"] "events_behind" (defScope s_events_behind) f cdv A outer s H E) (fun cls d _ H => E cls d H) := takes_of rfl rfl rfl rfl
  exact jss_one (js_ret (je_Ty cj_tuple Fx.bi_tuple bt_tuple (ja_cons (je_meth0 Fx.k_Run (j_Run_events Fx) (hr.mono (by decide)) tk (je_call (j_need_run Fx) (hr.mono (by decide)) tk (ja_cons (je_var 0) (ja_cons (je_var 1) (ja_cons (je_var 2) (ja_nil)))))) (ja_nil))))
abbrev s_has_ended : Stmt := top 39
def b_has_ended : GS := sRet (gMeth 50 0 "has_ended" (F_Run_has_ended) (gCall 3 (F_need_run) (gaCons (gVar 0) (gaCons (gVar 1) (gaCons (gVar 2) (gaNil))))) gaNil)
def F_has_ended : List D → S → R D := runF 3 b_has_ended
theorem sc_has_ended : FnScope ["design", "program", "row"] ["design", "program", "row"] (defScope s_has_ended) := ⟨rfl, rfl, rfl, by decide +kernel, rfl, by decide +kernel, by decide +kernel⟩
theorem j_has_ended (Fx : Fx K mg ca) : JFn P w K mg base ca 8 "has_ended" 3 F_has_ended := by
  obtain ⟨f, fd, hm, F⟩ := Fx.d_has_ended
  refine ⟨⟨f, fd, ["design", "program", "row"], hm, F.kp, F.bindsN (fun _ _ _ _ _ _ us hl => match us, hl with | [_, _, _], _ => rfl), rfl, fnJD F sc_has_ended fun cdv A outer s H E hr => ?_⟩⟩
  have tk : Takes (cxOf (L2.CX P w) P w K mg base ["design", "program", "row"] "has_ended" (defScope s_has_ended) f cdv A outer s H E) (fun cls d _ H => E cls d H) := takes_of rfl rfl rfl rfl
  exact jss_one (js_ret (je_meth0 Fx.k_Run (j_Run_has_ended Fx) (hr.mono (by decide)) tk (je_call (j_need_run Fx) (hr.mono (by decide)) tk (ja_cons (je_var 0) (ja_cons (je_var 1) (ja_cons (je_var 2) (ja_nil)))))))
abbrev s_told_by : Stmt := top 40
def b_told_by : GS := sSeq (sAsg (gCall 3 (F_need_run) (gaCons (gVar 0) (gaCons (gVar 1) (gaCons (gVar 2) (gaNil))))) (dName 3)) (sSeq (sIf (gNot (gB (gMeth 50 0 "has_ended" (F_Run_has_ended) (gVar 3) gaNil))) (sRaise 0) (sNext)) (sRet (gMeth 50 0 "outcome" (F_Run_outcome) (gVar 3) gaNil)))
def F_told_by : List D → S → R D := runF 4 b_told_by
theorem sc_told_by : FnScope ["design", "program", "row", "run"] ["design", "program", "row"] (defScope s_told_by) := ⟨rfl, rfl, rfl, by decide +kernel, rfl, by decide +kernel, by decide +kernel⟩
theorem j_told_by (Fx : Fx K mg ca) : JFn P w K mg base ca 8 "told_by" 3 F_told_by := by
  obtain ⟨f, fd, hm, F⟩ := Fx.d_told_by
  refine ⟨⟨f, fd, ["design", "program", "row"], hm, F.kp, F.bindsN (fun _ _ _ _ _ _ us hl => match us, hl with | [_, _, _], _ => rfl), rfl, fnJD F sc_told_by fun cdv A outer s H E hr => ?_⟩⟩
  have tk : Takes (cxOf (L2.CX P w) P w K mg base ["design", "program", "row", "run"] "told_by" (defScope s_told_by) f cdv A outer s H E) (fun cls d _ H => E cls d H) := takes_of rfl rfl rfl rfl
  exact jss_cons (js_set 3 sc_told_by.nd (je_call (j_need_run Fx) (hr.mono (by decide)) tk (ja_cons (je_var 0) (ja_cons (je_var 1) (ja_cons (je_var 2) (ja_nil)))))) (jss_cons (js_if (jt_not (jt_val (je_meth0 Fx.k_Run (j_Run_has_ended Fx) (hr.mono (by decide)) tk (je_var 3)))) (jss_one (js_raise0 Fx.x_NotMade rfl tk)) (jss_nil)) (jss_one (js_ret (je_meth0 Fx.k_Run (j_Run_outcome Fx) (hr.mono (by decide)) tk (je_var 3)))))
abbrev s_law_taken : Stmt := top 42
def b_law_taken : GS := sSeq (sIf (gB (gOp2 fGt (gOp2 fIdx (gVar 0) (gC (.int 3))) (gC (.int 0)))) (sSeq (sAsg (gOp2 fMod (gF (f1 fInt) (gaCons (gOp2 fIdx (gVar 0) (gC (.int 3))) (gaNil))) (gVar 1)) (dName 3)) (sSeq (sSetIx (gOp2 fDiv (gOp2 fIdx (gVar 0) (gC (.int 3))) (gVar 1)) (gVar 0) (gC (.int 3))) (sRet (gVar 3)))) (sNext)) (sSeq (sSetIx (gOp2 fAdd (gOp2 fIdx (gVar 0) (gC (.int 1))) (gC (.int 1))) (gVar 0) (gC (.int 1))) (sSeq (sIf (gB (gOp2 fGt (gOp2 fIdx (gVar 0) (gC (.int 1))) (gF (f1 fLen) (gaCons (gOp2 fIdx (gVar 0) (gC (.int 0))) (gaNil))))) (sSeq (sSetIx (gOp2 fMod (gF (f1 fInt) (gaCons (gOp2 fAdd (gOp2 fMul (gOp2 fIdx (gVar 0) (gC (.int 2))) (gC (.int 48271))) (gC (.int 11))) (gaNil))) (gC (.int 2147483647))) (gVar 0) (gC (.int 2))) (sRet (gOp2 fMod (gF (f1 fInt) (gaCons (gOp2 fDiv (gOp2 fIdx (gVar 0) (gC (.int 2))) (gC (.int 7))) (gaNil))) (gVar 1)))) (sNext)) (sSeq (sAsg (gOp2 fIdx (gOp2 fIdx (gVar 0) (gC (.int 0))) (gOp2 fSub (gOp2 fIdx (gVar 0) (gC (.int 1))) (gC (.int 1)))) (dName 2)) (sSeq (sSetIx (gOp2 fMod (gF (f1 fInt) (gaCons (gOp2 fAdd (gOp2 fAdd (gOp2 fMul (gOp2 fIdx (gVar 0) (gC (.int 2))) (gC (.int 48271))) (gVar 2)) (gC (.int 11))) (gaNil))) (gC (.int 2147483647))) (gVar 0) (gC (.int 2))) (sSeq (sIf (gB (gOp2 fGe (gVar 2) (gOp2 fPow (gC (.int 10)) (gC (.int 18))))) (sSetIx (gOp2 fDiv (gVar 2) (gVar 1)) (gVar 0) (gC (.int 3))) (sNext)) (sRet (gOp2 fMod (gF (f1 fInt) (gaCons (gVar 2) (gaNil))) (gVar 1))))))))
def F_law_taken : List D → S → R D := runF 4 b_law_taken
theorem sc_law_taken : FnScope ["_law_row", "_law_many", "_law_cell_here", "_law_found"] ["_law_row", "_law_many"] (defScope s_law_taken) := ⟨rfl, rfl, rfl, by decide +kernel, rfl, by decide +kernel, by decide +kernel⟩
theorem j_law_taken (Fx : Fx K mg ca) : JFn P w K mg base ca 1 "_law_taken" 2 F_law_taken := by
  obtain ⟨f, fd, hm, F⟩ := Fx.d_law_taken
  refine ⟨⟨f, fd, ["_law_row", "_law_many"], hm, F.kp, F.bindsN (fun _ _ _ _ _ _ us hl => match us, hl with | [_, _], _ => rfl), rfl, fnJD F sc_law_taken fun cdv A outer s H E hr => ?_⟩⟩
  have tk : Takes (cxOf (L2.CX P w) P w K mg base ["_law_row", "_law_many", "_law_cell_here", "_law_found"] "_law_taken" (defScope s_law_taken) f cdv A outer s H E) (fun cls d _ H => E cls d H) := takes_of rfl rfl rfl rfl
  exact jss_cons (js_if (jt_cmp oj_gt (je_ix (je_var 0) (je_int)) (je_int)) (jss_cons (js_set 3 sc_law_taken.nd (je_op oj_mod (je_Ty cj_int Fx.bi_int bt_int (ja_cons (je_ix (je_var 0) (je_int)) (ja_nil))) (je_var 1))) (jss_cons (js_setIx (je_op oj_div (je_ix (je_var 0) (je_int)) (je_var 1)) (je_var 0) (je_int)) (jss_one (js_ret (je_var 3))))) (jss_nil)) (jss_cons (js_setIx (je_op oj_add (je_ix (je_var 0) (je_int)) (je_int)) (je_var 0) (je_int)) (jss_cons (js_if (jt_cmp oj_gt (je_ix (je_var 0) (je_int)) (je_B cj_len Fx.bi_len bt_len (ja_cons (je_ix (je_var 0) (je_int)) (ja_nil)))) (jss_cons (js_setIx (je_op oj_mod (je_Ty cj_int Fx.bi_int bt_int (ja_cons (je_op oj_add (je_op oj_mul (je_ix (je_var 0) (je_int)) (je_int)) (je_int)) (ja_nil))) (je_int)) (je_var 0) (je_int)) (jss_one (js_ret (je_op oj_mod (je_Ty cj_int Fx.bi_int bt_int (ja_cons (je_op oj_div (je_ix (je_var 0) (je_int)) (je_int)) (ja_nil))) (je_var 1))))) (jss_nil)) (jss_cons (js_set 2 sc_law_taken.nd (je_ix (je_ix (je_var 0) (je_int)) (je_op oj_sub (je_ix (je_var 0) (je_int)) (je_int)))) (jss_cons (js_setIx (je_op oj_mod (je_Ty cj_int Fx.bi_int bt_int (ja_cons (je_op oj_add (je_op oj_add (je_op oj_mul (je_ix (je_var 0) (je_int)) (je_int)) (je_var 2)) (je_int)) (ja_nil))) (je_int)) (je_var 0) (je_int)) (jss_cons (js_if (jt_cmp oj_ge (je_var 2) (je_op oj_pow (je_int) (je_int))) (jss_one (js_setIx (je_op oj_div (je_var 2) (je_var 1)) (je_var 0) (je_int))) (jss_nil)) (jss_one (js_ret (je_op oj_mod (je_Ty cj_int Fx.bi_int bt_int (ja_cons (je_var 2) (ja_nil))) (je_var 1)))))))))
abbrev s_law_pick : Stmt := top 43
def b_law_pick : GS := sRet (gOp2 fIdx (gVar 1) (gCall 2 (F_law_taken) (gaCons (gVar 0) (gaCons (gF (f1 fLen) (gaCons (gVar 1) (gaNil))) (gaNil)))))
def F_law_pick : List D → S → R D := runF 2 b_law_pick
theorem sc_law_pick : FnScope ["_law_row", "_law_kinds"] ["_law_row", "_law_kinds"] (defScope s_law_pick) := ⟨rfl, rfl, rfl, by decide +kernel, rfl, by decide +kernel, by decide +kernel⟩
theorem j_law_pick (Fx : Fx K mg ca) : JFn P w K mg base ca 2 "_law_pick" 2 F_law_pick := by
  obtain ⟨f, fd, hm, F⟩ := Fx.d_law_pick
  refine ⟨⟨f, fd, ["_law_row", "_law_kinds"], hm, F.kp, F.bindsN (fun _ _ _ _ _ _ us hl => match us, hl with | [_, _], _ => rfl), rfl, fnJD F sc_law_pick fun cdv A outer s H E hr => ?_⟩⟩
  have tk : Takes (cxOf (L2.CX P w) P w K mg base ["_law_row", "_law_kinds"] "_law_pick" (defScope s_law_pick) f cdv A outer s H E) (fun cls d _ H => E cls d H) := takes_of rfl rfl rfl rfl
  exact jss_one (js_ret (je_ix (je_var 1) (je_call (j_law_taken Fx) (hr.mono (by decide)) tk (ja_cons (je_var 0) (ja_cons (je_B cj_len Fx.bi_len bt_len (ja_cons (je_var 1) (ja_nil))) (ja_nil))))))
abbrev s_law_instruction : Stmt := top 45
def b_law_instruction : GS := sSeq (sAsg (gCall 2 (F_law_pick) (gaCons (gVar 0) (gaCons (gLst (gaCons (gC (.str (PySem.Str.ofString "read"))) (gaCons (gC (.str (PySem.Str.ofString "read"))) (gaCons (gC (.str (PySem.Str.ofString "read"))) (gaCons (gC (.str (PySem.Str.ofString "write"))) (gaCons (gC (.str (PySem.Str.ofString "write"))) (gaCons (gC (.str (PySem.Str.ofString "write"))) (gaCons (gC (.str (PySem.Str.ofString "copy"))) (gaCons (gC (.str (PySem.Str.ofString "fence"))) (gaCons (gC (.str (PySem.Str.ofString "guard"))) (gaNil))))))))))) (gaNil)))) (dName 1)) (sSeq (sIf (gB (gOp2 fEq (gVar 1) (gC (.str (PySem.Str.ofString "fence"))))) (sRet (gTup (gaCons (gC (.str (PySem.Str.ofString "fence"))) (gaNil)))) (sNext)) (sSeq (sIf (gB (gOp2 fEq (gVar 1) (gC (.str (PySem.Str.ofString "write"))))) (sRet (gTup (gaCons (gC (.str (PySem.Str.ofString "write"))) (gaCons (gCall 2 (F_law_taken) (gaCons (gVar 0) (gaCons (gC (.int 2)) (gaNil)))) (gaCons (gOp2 fAdd (gC (.int 1)) (gCall 2 (F_law_taken) (gaCons (gVar 0) (gaCons (gC (.int 3)) (gaNil))))) (gaNil)))))) (sNext)) (sSeq (sIf (gB (gOp2 fEq (gVar 1) (gC (.str (PySem.Str.ofString "copy"))))) (sRet (gTup (gaCons (gC (.str (PySem.Str.ofString "copy"))) (gaCons (gCall 2 (F_law_taken) (gaCons (gVar 0) (gaCons (gC (.int 2)) (gaNil)))) (gaCons (gCall 2 (F_law_taken) (gaCons (gVar 0) (gaCons (gC (.int 2)) (gaNil)))) (gaNil)))))) (sNext)) (sRet (gTup (gaCons (gVar 1) (gaCons (gCall 2 (F_law_taken) (gaCons (gVar 0) (gaCons (gC (.int 2)) (gaNil)))) (gaCons (gCall 2 (F_law_taken) (gaCons (gVar 0) (gaCons (gC (.int 2)) (gaNil)))) (gaNil)))))))))
def F_law_instruction : List D → S → R D := runF 2 b_law_instruction
theorem sc_law_instruction : FnScope ["_law_row", "_law_kind"] ["_law_row"] (defScope s_law_instruction) := ⟨rfl, rfl, rfl, by decide +kernel, rfl, by decide +kernel, by decide +kernel⟩
theorem j_law_instruction (Fx : Fx K mg ca) : JFn P w K mg base ca 3 "_law_instruction" 1 F_law_instruction := by
  obtain ⟨f, fd, hm, F⟩ := Fx.d_law_instruction
  refine ⟨⟨f, fd, ["_law_row"], hm, F.kp, F.bindsN (fun _ _ _ _ _ _ us hl => match us, hl with | [_], _ => rfl), rfl, fnJD F sc_law_instruction fun cdv A outer s H E hr => ?_⟩⟩
  have tk : Takes (cxOf (L2.CX P w) P w K mg base ["_law_row", "_law_kind"] "_law_instruction" (defScope s_law_instruction) f cdv A outer s H E) (fun cls d _ H => E cls d H) := takes_of rfl rfl rfl rfl
  exact jss_cons (js_set 1 sc_law_instruction.nd (je_call (j_law_pick Fx) (hr.mono (by decide)) tk (ja_cons (je_var 0) (ja_cons (je_lst (ja_cons (je_str) (ja_cons (je_str) (ja_cons (je_str) (ja_cons (je_str) (ja_cons (je_str) (ja_cons (je_str) (ja_cons (je_str) (ja_cons (je_str) (ja_cons (je_str) (ja_nil))))))))))) (ja_nil))))) (jss_cons (js_if (jt_cmp (oj_eq hr.units) (je_var 1) (je_str)) (jss_one (js_ret (je_tup (ja_cons (je_str) (ja_nil))))) (jss_nil)) (jss_cons (js_if (jt_cmp (oj_eq hr.units) (je_var 1) (je_str)) (jss_one (js_ret (je_tup (ja_cons (je_str) (ja_cons (je_call (j_law_taken Fx) (hr.mono (by decide)) tk (ja_cons (je_var 0) (ja_cons (je_int) (ja_nil)))) (ja_cons (je_op oj_add (je_int) (je_call (j_law_taken Fx) (hr.mono (by decide)) tk (ja_cons (je_var 0) (ja_cons (je_int) (ja_nil))))) (ja_nil))))))) (jss_nil)) (jss_cons (js_if (jt_cmp (oj_eq hr.units) (je_var 1) (je_str)) (jss_one (js_ret (je_tup (ja_cons (je_str) (ja_cons (je_call (j_law_taken Fx) (hr.mono (by decide)) tk (ja_cons (je_var 0) (ja_cons (je_int) (ja_nil)))) (ja_cons (je_call (j_law_taken Fx) (hr.mono (by decide)) tk (ja_cons (je_var 0) (ja_cons (je_int) (ja_nil)))) (ja_nil))))))) (jss_nil)) (jss_one (js_ret (je_tup (ja_cons (je_var 1) (ja_cons (je_call (j_law_taken Fx) (hr.mono (by decide)) tk (ja_cons (je_var 0) (ja_cons (je_int) (ja_nil)))) (ja_cons (je_call (j_law_taken Fx) (hr.mono (by decide)) tk (ja_cons (je_var 0) (ja_cons (je_int) (ja_nil)))) (ja_nil))))))))))
abbrev s_law_program : Stmt := top 46
def b_law_program : GS := sSeq (sPar 3 4 (gaCons (gVar 1) (gaCons (gTup (gaNil)) (gaNil)))) (sSeq (sFor (dName 2) (gRange1 (gaCons (gOp2 fAdd (gC (.int 1)) (gCall 2 (F_law_pick) (gaCons (gVar 0) (gaCons (gLst (gaCons (gC (.int 0)) (gaCons (gC (.int 1)) (gaCons (gC (.int 1)) (gaCons (gC (.int 1)) (gaCons (gC (.int 2)) (gaNil))))))) (gaNil))))) (gaNil))) (sSeq (sAsg (gF (fMin) (gaCons (gVar 3) (gaCons (gCall 2 (F_law_taken) (gaCons (gVar 0) (gaCons (gC (.int 5)) (gaNil)))) (gaNil)))) (dName 5)) (sSeq (sAsg (gOp2 fAdd (gVar 4) (gTup (gaCons (gF (f1 fTuple) (gaCons (gLc [6] (gRange1 (gaCons (gVar 5) (gaNil))) (dName 6) (gYes) (gCall 1 (F_law_instruction) (gaCons (gVar 0) (gaNil)))) (gaNil))) (gaNil)))) (dName 4)) (sAsg (gOp2 fSub (gVar 3) (gVar 5)) (dName 3))))) (sRet (gVar 4)))
def F_law_program : List D → S → R D := runF 7 b_law_program
theorem sc_law_program : FnScope ["_law_row", "_law_most", "_law_turn", "_law_left", "_law_found", "_law_many", "_law_step"] ["_law_row", "_law_most"] (defScope s_law_program) := ⟨rfl, rfl, rfl, by decide +kernel, rfl, by decide +kernel, by decide +kernel⟩
theorem j_law_program (Fx : Fx K mg ca) : JFn P w K mg base ca 4 "_law_program" 2 F_law_program := by
  obtain ⟨f, fd, hm, F⟩ := Fx.d_law_program
  refine ⟨⟨f, fd, ["_law_row", "_law_most"], hm, F.kp, F.bindsN (fun _ _ _ _ _ _ us hl => match us, hl with | [_, _], _ => rfl), rfl, fnJD F sc_law_program fun cdv A outer s H E hr => ?_⟩⟩
  have tk : Takes (cxOf (L2.CX P w) P w K mg base ["_law_row", "_law_most", "_law_turn", "_law_left", "_law_found", "_law_many", "_law_step"] "_law_program" (defScope s_law_program) f cdv A outer s H E) (fun cls d _ H => E cls d H) := takes_of rfl rfl rfl rfl
  exact jss_cons (js_par 3 4 rfl sc_law_program.nd (ja_cons (je_var 1) (ja_cons (je_tup (ja_nil)) (ja_nil)))) (jss_cons (js_for (passes_of rfl) rfl (ji_range1 Fx.bi_range (ja_cons (je_op oj_add (je_int) (je_call (j_law_pick Fx) (hr.mono (by decide)) tk (ja_cons (je_var 0) (ja_cons (je_lst (ja_cons (je_int) (ja_cons (je_int) (ja_cons (je_int) (ja_cons (je_int) (ja_cons (je_int) (ja_nil))))))) (ja_nil))))) (ja_nil))) (jg_name 2 sc_law_program.nd) (jss_cons (js_set 5 sc_law_program.nd (je_B (cj_min rfl) Fx.bi_min bt_min (ja_cons (je_var 3) (ja_cons (je_call (j_law_taken Fx) (hr.mono (by decide)) tk (ja_cons (je_var 0) (ja_cons (je_int) (ja_nil)))) (ja_nil))))) (jss_cons (js_set 4 sc_law_program.nd (je_op oj_add (je_var 4) (je_tup (ja_cons (je_Ty cj_tuple Fx.bi_tuple bt_tuple (ja_cons (je_lc rfl sc_law_program.nd (ji_range1 Fx.bi_range (ja_cons (je_var 5) (ja_nil))) (blkOk_by (N := ["_law_row", "_law_most", "_law_turn", "_law_left", "_law_found", "_law_many", "_law_step"]) (sc := defScope s_law_program) (by decide +kernel)) (fun _ _ _ _ _ => pg_name (i := 6) sc_law_program.nd rfl (by first | exact Or.inl rfl | exact Or.inr rfl)) (fun _ _ _ _ _ => jts_nil) (fun _ _ _ _ _ => je_call (j_law_instruction Fx) (hr.mono (by decide)) takes0 (ja_cons (je_var 0) (ja_nil)))) (ja_nil))) (ja_nil))))) (jss_one (js_set 3 sc_law_program.nd (je_op oj_sub (je_var 3) (je_var 5))))))) (jss_one (js_ret (je_var 4))))
abbrev s_law_design : Stmt := top 47
def b_law_design : GS := sRet (gF (f1 fTuple) (gaCons (gLc [1] (gItems (gLst (gaCons (gC (.str (PySem.Str.ofString "gr"))) (gaCons (gC (.str (PySem.Str.ofString "gw"))) (gaCons (gC (.str (PySem.Str.ofString "own"))) (gaCons (gC (.str (PySem.Str.ofString "rr"))) (gaCons (gC (.str (PySem.Str.ofString "rw"))) (gaCons (gC (.str (PySem.Str.ofString "ss"))) (gaCons (gC (.str (PySem.Str.ofString "wr"))) (gaCons (gC (.str (PySem.Str.ofString "ww"))) (gaNil))))))))))) (dName 1) (gB (gOp2 fEq (gCall 2 (F_law_taken) (gaCons (gVar 0) (gaCons (gC (.int 2)) (gaNil)))) (gC (.int 0)))) (gVar 1)) (gaNil)))
def F_law_design : List D → S → R D := runF 2 b_law_design
theorem sc_law_design : FnScope ["_law_row", "_law_word_here"] ["_law_row"] (defScope s_law_design) := ⟨rfl, rfl, rfl, by decide +kernel, rfl, by decide +kernel, by decide +kernel⟩
theorem j_law_design (Fx : Fx K mg ca) : JFn P w K mg base ca 2 "_law_design" 1 F_law_design := by
  obtain ⟨f, fd, hm, F⟩ := Fx.d_law_design
  refine ⟨⟨f, fd, ["_law_row"], hm, F.kp, F.bindsN (fun _ _ _ _ _ _ us hl => match us, hl with | [_], _ => rfl), rfl, fnJD F sc_law_design fun cdv A outer s H E hr => ?_⟩⟩
  have tk : Takes (cxOf (L2.CX P w) P w K mg base ["_law_row", "_law_word_here"] "_law_design" (defScope s_law_design) f cdv A outer s H E) (fun cls d _ H => E cls d H) := takes_of rfl rfl rfl rfl
  exact jss_one (js_ret (je_Ty cj_tuple Fx.bi_tuple bt_tuple (ja_cons (je_lc rfl sc_law_design.nd (ji_seq (je_lst (ja_cons (je_str) (ja_cons (je_str) (ja_cons (je_str) (ja_cons (je_str) (ja_cons (je_str) (ja_cons (je_str) (ja_cons (je_str) (ja_cons (je_str) (ja_nil))))))))))) (blkOk_by (N := ["_law_row", "_law_word_here"]) (sc := defScope s_law_design) (by decide +kernel)) (fun _ _ _ _ _ => pg_name (i := 1) sc_law_design.nd rfl (by first | exact Or.inl rfl | exact Or.inr rfl)) (fun _ _ _ _ _ => jts_one (jt_cmp (oj_eq hr.units) (je_call (j_law_taken Fx) (hr.mono (by decide)) takes0 (ja_cons (je_var 0) (ja_cons (je_int) (ja_nil)))) (je_int))) (fun _ _ _ _ _ => je_var 1)) (ja_nil))))
abbrev s_law_letter : Stmt := top 48
def b_law_letter : GS := sRet (gDictC [((PySem.Str.ofString "read"), (PySem.Str.ofString "r")), ((PySem.Str.ofString "write"), (PySem.Str.ofString "w")), ((PySem.Str.ofString "copy"), (PySem.Str.ofString "w")), ((PySem.Str.ofString "guard"), (PySem.Str.ofString "g")), ((PySem.Str.ofString "fence"), (PySem.Str.ofString "f"))] (gOp2 fIdx (gVar 0) (gC (.int 0))))
def F_law_letter : List D → S → R D := runF 1 b_law_letter
theorem sc_law_letter : FnScope ["_law_one"] ["_law_one"] (defScope s_law_letter) := ⟨rfl, rfl, rfl, by decide +kernel, rfl, by decide +kernel, by decide +kernel⟩
theorem j_law_letter (Fx : Fx K mg ca) : JFn P w K mg base ca 1 "_law_letter" 1 F_law_letter := by
  obtain ⟨f, fd, hm, F⟩ := Fx.d_law_letter
  refine ⟨⟨f, fd, ["_law_one"], hm, F.kp, F.bindsN (fun _ _ _ _ _ _ us hl => match us, hl with | [_], _ => rfl), rfl, fnJD F sc_law_letter fun cdv A outer s H E hr => ?_⟩⟩
  have tk : Takes (cxOf (L2.CX P w) P w K mg base ["_law_one"] "_law_letter" (defScope s_law_letter) f cdv A outer s H E) (fun cls d _ H => E cls d H) := takes_of rfl rfl rfl rfl
  exact jss_one (js_ret (je_dictC (kvs := [((PySem.Str.ofString "read"), (PySem.Str.ofString "r")), ((PySem.Str.ofString "write"), (PySem.Str.ofString "w")), ((PySem.Str.ofString "copy"), (PySem.Str.ofString "w")), ((PySem.Str.ofString "guard"), (PySem.Str.ofString "g")), ((PySem.Str.ofString "fence"), (PySem.Str.ofString "f"))]) hr (pps_cons pe_str pe_str (pps_cons pe_str pe_str (pps_cons pe_str pe_str (pps_cons pe_str pe_str (pps_cons pe_str pe_str (pps_nil)))))) (je_ix (je_var 0) (je_int))))
abbrev s_law_cell : Stmt := top 49
def b_law_cell : GS := sRet (gIf (gB (gOp2 fEq (gOp2 fIdx (gVar 0) (gC (.int 0))) (gC (.str (PySem.Str.ofString "read"))))) (gOp2 fIdx (gVar 0) (gC (.int 2))) (gIf (gB (gOp2 fIn (gOp2 fIdx (gVar 0) (gC (.int 0))) (gLst (gaCons (gC (.str (PySem.Str.ofString "write"))) (gaCons (gC (.str (PySem.Str.ofString "copy"))) (gaNil)))))) (gOp2 fIdx (gVar 0) (gC (.int 1))) (gC .non)))
def F_law_cell : List D → S → R D := runF 1 b_law_cell
theorem sc_law_cell : FnScope ["_law_one"] ["_law_one"] (defScope s_law_cell) := ⟨rfl, rfl, rfl, by decide +kernel, rfl, by decide +kernel, by decide +kernel⟩
theorem j_law_cell (Fx : Fx K mg ca) : JFn P w K mg base ca 1 "_law_cell" 1 F_law_cell := by
  obtain ⟨f, fd, hm, F⟩ := Fx.d_law_cell
  refine ⟨⟨f, fd, ["_law_one"], hm, F.kp, F.bindsN (fun _ _ _ _ _ _ us hl => match us, hl with | [_], _ => rfl), rfl, fnJD F sc_law_cell fun cdv A outer s H E hr => ?_⟩⟩
  have tk : Takes (cxOf (L2.CX P w) P w K mg base ["_law_one"] "_law_cell" (defScope s_law_cell) f cdv A outer s H E) (fun cls d _ H => E cls d H) := takes_of rfl rfl rfl rfl
  exact jss_one (js_ret (je_if (jt_cmp (oj_eq hr.units) (je_ix (je_var 0) (je_int)) (je_str)) (je_ix (je_var 0) (je_int)) (je_if (jt_cmp (oj_in (J.Room.u65 hr)) (je_ix (je_var 0) (je_int)) (je_lst (ja_cons (je_str) (ja_cons (je_str) (ja_nil))))) (je_ix (je_var 0) (je_int)) (je_non))))
abbrev s_law_last : Stmt := top 50
def b_law_last : GS := sRet (gSl (gLc [5] (gRange1 (gaCons (gVar 1) (gaNil))) (dName 5) (gAnd (gB (gOp2 fIn (gOp2 fIdx (gOp2 fIdx (gVar 0) (gVar 5)) (gC (.int 0))) (gVar 2))) (gB (gOp2 fEq (gOp2 fIdx (gOp2 fIdx (gVar 0) (gVar 5)) (gVar 3)) (gVar 4)))) (gVar 5)) (goSome (gNeg (gC (.int 1)))) (goNone))
def F_law_last : List D → S → R D := runF 6 b_law_last
theorem sc_law_last : FnScope ["_law_core", "_law_place", "_law_kinds", "_law_spot", "_law_name", "_law_k"] ["_law_core", "_law_place", "_law_kinds", "_law_spot", "_law_name"] (defScope s_law_last) := ⟨rfl, rfl, rfl, by decide +kernel, rfl, by decide +kernel, by decide +kernel⟩
theorem j_law_last (Fx : Fx K mg ca) : JFn P w K mg base ca 1 "_law_last" 5 F_law_last := by
  obtain ⟨f, fd, hm, F⟩ := Fx.d_law_last
  refine ⟨⟨f, fd, ["_law_core", "_law_place", "_law_kinds", "_law_spot", "_law_name"], hm, F.kp, F.bindsN (fun _ _ _ _ _ _ us hl => match us, hl with | [_, _, _, _, _], _ => rfl), rfl, fnJD F sc_law_last fun cdv A outer s H E hr => ?_⟩⟩
  have tk : Takes (cxOf (L2.CX P w) P w K mg base ["_law_core", "_law_place", "_law_kinds", "_law_spot", "_law_name", "_law_k"] "_law_last" (defScope s_law_last) f cdv A outer s H E) (fun cls d _ H => E cls d H) := takes_of rfl rfl rfl rfl
  exact jss_one (js_ret (je_slice (je_lc rfl sc_law_last.nd (ji_range1 Fx.bi_range (ja_cons (je_var 1) (ja_nil))) (blkOk_by (N := ["_law_core", "_law_place", "_law_kinds", "_law_spot", "_law_name", "_law_k"]) (sc := defScope s_law_last) (by decide +kernel)) (fun _ _ _ _ _ => pg_name (i := 5) sc_law_last.nd rfl (by first | exact Or.inl rfl | exact Or.inr rfl)) (fun _ _ _ _ _ => jts_one (jw_t (jw_and (jt_cmp (oj_in (J.Room.u65 hr)) (je_ix (je_ix (je_var 0) (je_var 5)) (je_int)) (je_var 2)) (jw_and1 (jt_cmp (oj_eq hr.units) (je_ix (je_ix (je_var 0) (je_var 5)) (je_var 3)) (je_var 4)))))) (fun _ _ _ _ _ => je_var 5)) (jo_some (je_neg (je_int))) (jo_none)))
abbrev s_law_must : Stmt := top 51
def b_law_must : GS := sSeq (sPar 5 6 (gaCons (gOp2 fIdx (gVar 1) (gVar 2)) (gaCons (gOp2 fIdx (gVar 1) (gVar 3)) (gaNil)))) (sSeq (sAsg (gOp2 fAdd (gCall 1 (F_law_letter) (gaCons (gVar 5) (gaNil))) (gCall 1 (F_law_letter) (gaCons (gVar 6) (gaNil)))) (dName 4)) (sSeq (sIf (gOr (gB (gOp2 fIn (gC (.str (PySem.Str.ofString "f"))) (gVar 4))) (gB (gOp2 fEq (gVar 4) (gC (.str (PySem.Str.ofString "gg")))))) (sRet (gC (.bl true))) (sNext)) (sSeq (sIf (gAnd (gB (gOp2 fIn (gOp2 fIdx (gVar 6) (gC (.int 0))) (gLst (gaCons (gC (.str (PySem.Str.ofString "copy"))) (gaCons (gC (.str (PySem.Str.ofString "guard"))) (gaNil)))))) (gB (gOp2 fEq (gLst (gaCons (gVar 2) (gaNil))) (gCall 5 (F_law_last) (gaCons (gVar 1) (gaCons (gVar 3) (gaCons (gLst (gaCons (gC (.str (PySem.Str.ofString "read"))) (gaNil))) (gaCons (gC (.int 1)) (gaCons (gIf (gB (gOp2 fEq (gOp2 fIdx (gVar 6) (gC (.int 0))) (gC (.str (PySem.Str.ofString "copy"))))) (gOp2 fIdx (gVar 6) (gC (.int 2))) (gOp2 fIdx (gVar 6) (gC (.int 1)))) (gaNil)))))))))) (sRet (gC (.bl true))) (sNext)) (sSeq (sIf (gAnd (gB (gOp2 fEq (gOp2 fIdx (gVar 6) (gC (.int 0))) (gC (.str (PySem.Str.ofString "read"))))) (gB (gOp2 fIn (gC (.str (PySem.Str.ofString "own"))) (gVar 0)))) (sFor (dName 7) (gItems (gCall 5 (F_law_last) (gaCons (gVar 1) (gaCons (gVar 3) (gaCons (gLst (gaCons (gC (.str (PySem.Str.ofString "write"))) (gaCons (gC (.str (PySem.Str.ofString "copy"))) (gaNil)))) (gaCons (gC (.int 1)) (gaCons (gOp2 fIdx (gVar 6) (gC (.int 2))) (gaNil)))))))) (sIf (gAnd (gB (gOp2 fEq (gOp2 fIdx (gOp2 fIdx (gVar 1) (gVar 7)) (gC (.int 0))) (gC (.str (PySem.Str.ofString "copy"))))) (gB (gOp2 fEq (gLst (gaCons (gVar 2) (gaNil))) (gCall 5 (F_law_last) (gaCons (gVar 1) (gaCons (gVar 7) (gaCons (gLst (gaCons (gC (.str (PySem.Str.ofString "read"))) (gaNil))) (gaCons (gC (.int 1)) (gaCons (gOp2 fIdx (gOp2 fIdx (gVar 1) (gVar 7)) (gC (.int 2))) (gaNil)))))))))) (sRet (gC (.bl true))) (sNext))) (sNext)) (sSeq (sIf (gB (gOp2 fEq (gOp2 fIdx (gVar 4) (gC (.int 1))) (gC (.str (PySem.Str.ofString "g"))))) (sRet (gC (.bl false))) (sNext)) (sSeq (sIf (gOr (gB (gOp2 fEq (gOp2 fIdx (gVar 4) (gC (.int 0))) (gC (.str (PySem.Str.ofString "g"))))) (gB (gOp2 fNe (gCall 1 (F_law_cell) (gaCons (gVar 5) (gaNil))) (gCall 1 (F_law_cell) (gaCons (gVar 6) (gaNil)))))) (sRet (gOp2 fIn (gVar 4) (gVar 0))) (sNext)) (sSeq (sIf (gB (gOp2 fEq (gVar 4) (gC (.str (PySem.Str.ofString "rr"))))) (sRet (gOp2 fIn (gC (.str (PySem.Str.ofString "ss"))) (gVar 0))) (sNext)) (sRet (gOrV (gOp2 fNe (gVar 4) (gC (.str (PySem.Str.ofString "wr")))) (gOp2 fNotIn (gC (.str (PySem.Str.ofString "own"))) (gVar 0)))))))))))
def F_law_must : List D → S → R D := runF 8 b_law_must
theorem sc_law_must : FnScope ["_law_design_here", "_law_core", "_law_i", "_law_j", "_law_pair", "_law_one", "_law_other", "_law_k"] ["_law_design_here", "_law_core", "_law_i", "_law_j"] (defScope s_law_must) := ⟨rfl, rfl, rfl, by decide +kernel, rfl, by decide +kernel, by decide +kernel⟩
theorem j_law_must (Fx : Fx K mg ca) : JFn P w K mg base ca 2 "_law_must" 4 F_law_must := by
  obtain ⟨f, fd, hm, F⟩ := Fx.d_law_must
  refine ⟨⟨f, fd, ["_law_design_here", "_law_core", "_law_i", "_law_j"], hm, F.kp, F.bindsN (fun _ _ _ _ _ _ us hl => match us, hl with | [_, _, _, _], _ => rfl), rfl, fnJD F sc_law_must fun cdv A outer s H E hr => ?_⟩⟩
  have tk : Takes (cxOf (L2.CX P w) P w K mg base ["_law_design_here", "_law_core", "_law_i", "_law_j", "_law_pair", "_law_one", "_law_other", "_law_k"] "_law_must" (defScope s_law_must) f cdv A outer s H E) (fun cls d _ H => E cls d H) := takes_of rfl rfl rfl rfl
  exact jss_cons (js_par 5 6 rfl sc_law_must.nd (ja_cons (je_ix (je_var 1) (je_var 2)) (ja_cons (je_ix (je_var 1) (je_var 3)) (ja_nil)))) (jss_cons (js_set 4 sc_law_must.nd (je_op oj_add (je_call (j_law_letter Fx) (hr.mono (by decide)) tk (ja_cons (je_var 5) (ja_nil))) (je_call (j_law_letter Fx) (hr.mono (by decide)) tk (ja_cons (je_var 6) (ja_nil))))) (jss_cons (js_if (jw_t (jw_or (jt_cmp (oj_in (J.Room.u65 hr)) (je_str) (je_var 4)) (jw_or1 (jt_cmp (oj_eq hr.units) (je_var 4) (je_str))))) (jss_one (js_ret (je_bl))) (jss_nil)) (jss_cons (js_if (jw_t (jw_and (jt_cmp (oj_in (J.Room.u65 hr)) (je_ix (je_var 6) (je_int)) (je_lst (ja_cons (je_str) (ja_cons (je_str) (ja_nil))))) (jw_and1 (jt_cmp (oj_eq hr.units) (je_lst (ja_cons (je_var 2) (ja_nil))) (je_call (j_law_last Fx) (hr.mono (by decide)) tk (ja_cons (je_var 1) (ja_cons (je_var 3) (ja_cons (je_lst (ja_cons (je_str) (ja_nil))) (ja_cons (je_int) (ja_cons (je_if (jt_cmp (oj_eq hr.units) (je_ix (je_var 6) (je_int)) (je_str)) (je_ix (je_var 6) (je_int)) (je_ix (je_var 6) (je_int))) (ja_nil))))))))))) (jss_one (js_ret (je_bl))) (jss_nil)) (jss_cons (js_if (jw_t (jw_and (jt_cmp (oj_eq hr.units) (je_ix (je_var 6) (je_int)) (je_str)) (jw_and1 (jt_cmp (oj_in (J.Room.u65 hr)) (je_str) (je_var 0))))) (jss_one (js_for (passes_of rfl) rfl (ji_seq (je_call (j_law_last Fx) (hr.mono (by decide)) tk (ja_cons (je_var 1) (ja_cons (je_var 3) (ja_cons (je_lst (ja_cons (je_str) (ja_cons (je_str) (ja_nil)))) (ja_cons (je_int) (ja_cons (je_ix (je_var 6) (je_int)) (ja_nil)))))))) (jg_name 7 sc_law_must.nd) (jss_one (js_if (jw_t (jw_and (jt_cmp (oj_eq hr.units) (je_ix (je_ix (je_var 1) (je_var 7)) (je_int)) (je_str)) (jw_and1 (jt_cmp (oj_eq hr.units) (je_lst (ja_cons (je_var 2) (ja_nil))) (je_call (j_law_last Fx) (hr.mono (by decide)) tk (ja_cons (je_var 1) (ja_cons (je_var 7) (ja_cons (je_lst (ja_cons (je_str) (ja_nil))) (ja_cons (je_int) (ja_cons (je_ix (je_ix (je_var 1) (je_var 7)) (je_int)) (ja_nil))))))))))) (jss_one (js_ret (je_bl))) (jss_nil))))) (jss_nil)) (jss_cons (js_if (jt_cmp (oj_eq hr.units) (je_ix (je_var 4) (je_int)) (je_str)) (jss_one (js_ret (je_bl))) (jss_nil)) (jss_cons (js_if (jw_t (jw_or (jt_cmp (oj_eq hr.units) (je_ix (je_var 4) (je_int)) (je_str)) (jw_or1 (jt_cmp (oj_ne hr.units) (je_call (j_law_cell Fx) (hr.mono (by decide)) tk (ja_cons (je_var 5) (ja_nil))) (je_call (j_law_cell Fx) (hr.mono (by decide)) tk (ja_cons (je_var 6) (ja_nil))))))) (jss_one (js_ret (je_cmp (oj_in (J.Room.u65 hr)) (je_var 4) (je_var 0)))) (jss_nil)) (jss_cons (js_if (jt_cmp (oj_eq hr.units) (je_var 4) (je_str)) (jss_one (js_ret (je_cmp (oj_in (J.Room.u65 hr)) (je_str) (je_var 0)))) (jss_nil)) (jss_one (js_ret (je_or (je_cmp (oj_ne hr.units) (je_var 4) (je_str)) (je_one (je_cmp (oj_notin (J.Room.u65 hr)) (je_str) (je_var 0)))))))))))))
abbrev s_law_begin : Stmt := top 52
def b_law_begin : GS := sSeq (sAsg (gDisp [((PySem.Str.ofString "design"), gVar 0), ((PySem.Str.ofString "program"), gVar 1), ((PySem.Str.ofString "done"), gLc [3] (gItems (gVar 1)) (dName 3) (gYes) (gRepM (gLst (gaCons (gC (.bl false)) (gaNil))) (gF (f1 fLen) (gaCons (gVar 3) (gaNil))))), ((PySem.Str.ofString "cells"), gLstM (gaCons (gC (.int 0)) (gaCons (gC (.int 0)) (gaCons (gC (.int 0)) (gaNil)))))]) (dName 2)) (sSeq (sAsg2 (gTup (gaCons (gLc [3] (gItems (gVar 1)) (dName 3) (gYes) (gDic0)) (gaCons (gRepM (gLst (gaCons (gC (.int 99)) (gaNil))) (gF (f1 fLen) (gaCons (gVar 1) (gaNil)))) (gaNil)))) (d2Tup 2 (ds2Cons (d2Put (gVar 2) (gC (.str (PySem.Str.ofString "took")))) (ds2Cons (d2Put (gVar 2) (gC (.str (PySem.Str.ofString "ends")))) (ds2Nil))))) (sRet (gVar 2)))
def F_law_begin : List D → S → R D := runF 4 b_law_begin
theorem sc_law_begin : FnScope ["_law_design_here", "_law_program_here", "_law_found", "_law_core"] ["_law_design_here", "_law_program_here"] (defScope s_law_begin) := ⟨rfl, rfl, rfl, by decide +kernel, rfl, by decide +kernel, by decide +kernel⟩
theorem j_law_begin (Fx : Fx K mg ca) : JFn P w K mg base ca 1 "_law_begin" 2 F_law_begin := by
  obtain ⟨f, fd, hm, F⟩ := Fx.d_law_begin
  refine ⟨⟨f, fd, ["_law_design_here", "_law_program_here"], hm, F.kp, F.bindsN (fun _ _ _ _ _ _ us hl => match us, hl with | [_, _], _ => rfl), rfl, fnJD F sc_law_begin fun cdv A outer s H E hr => ?_⟩⟩
  have tk : Takes (cxOf (L2.CX P w) P w K mg base ["_law_design_here", "_law_program_here", "_law_found", "_law_core"] "_law_begin" (defScope s_law_begin) f cdv A outer s H E) (fun cls d _ H => E cls d H) := takes_of rfl rfl rfl rfl
  exact jss_cons (js_set 2 sc_law_begin.nd (je_disp (kgs := [((PySem.Str.ofString "design"), gVar 0), ((PySem.Str.ofString "program"), gVar 1), ((PySem.Str.ofString "done"), gLc [3] (gItems (gVar 1)) (dName 3) (gYes) (gRepM (gLst (gaCons (gC (.bl false)) (gaNil))) (gF (f1 fLen) (gaCons (gVar 3) (gaNil))))), ((PySem.Str.ofString "cells"), gLstM (gaCons (gC (.int 0)) (gaCons (gC (.int 0)) (gaCons (gC (.int 0)) (gaNil)))))]) (pps_cons pe_str (je_var 0) (pps_cons pe_str (je_var 1) (pps_cons pe_str (je_lc rfl sc_law_begin.nd (ji_seq (je_var 1)) (blkOk_by (N := ["_law_design_here", "_law_program_here", "_law_found", "_law_core"]) (sc := defScope s_law_begin) (by decide +kernel)) (fun _ _ _ _ _ => pg_name (i := 3) sc_law_begin.nd rfl (by first | exact Or.inl rfl | exact Or.inr rfl)) (fun _ _ _ _ _ => jts_nil) (fun _ _ _ _ _ => je_repM (je_lst (ja_cons (je_bl) (ja_nil))) (je_B cj_len Fx.bi_len bt_len (ja_cons (je_var 3) (ja_nil))))) (pps_cons pe_str (je_lstM (ja_cons (je_int) (ja_cons (je_int) (ja_cons (je_int) (ja_nil))))) (pps_nil))))))) (jss_cons (js_asg2 (je_tup (ja_cons (je_lc rfl sc_law_begin.nd (ji_seq (je_var 1)) (blkOk_by (N := ["_law_design_here", "_law_program_here", "_law_found", "_law_core"]) (sc := defScope s_law_begin) (by decide +kernel)) (fun _ _ _ _ _ => pg_name (i := 3) sc_law_begin.nd rfl (by first | exact Or.inl rfl | exact Or.inr rfl)) (fun _ _ _ _ _ => jts_nil) (fun _ _ _ _ _ => je_dict0)) (ja_cons (je_repM (je_lst (ja_cons (je_int) (ja_nil))) (je_B cj_len Fx.bi_len bt_len (ja_cons (je_var 1) (ja_nil)))) (ja_nil)))) (jg2_tup rfl (jgs2_cons (jg2_put (W := W0) hr (je_var 2) (je_str)) (jgs2_cons (jg2_put (W := W0) hr (je_var 2) (je_str)) (jgs2_nil))))) (jss_one (js_ret (je_var 2))))
abbrev s_law_word : Stmt := top 53
def b_law_word : GS := sSeq (sAsg (gCall 5 (F_law_last) (gaCons (gOp2 fIdx (gOp2 fDGet (gVar 0) (gC (.str (PySem.Str.ofString "program")))) (gVar 1)) (gaCons (gVar 2) (gaCons (gLst (gaCons (gC (.str (PySem.Str.ofString "read"))) (gaNil))) (gaCons (gC (.int 1)) (gaCons (gVar 3) (gaNil))))))) (dName 4)) (sRet (gIf (gB (gOp2 fNe (gVar 4) (gLst (gaNil)))) (gDGet2 (gOp2 fIdx (gOp2 fDGet (gVar 0) (gC (.str (PySem.Str.ofString "took")))) (gVar 1)) (gOp2 fIdx (gVar 4) (gC (.int 0))) (gC (.int 0))) (gC (.int 0))))
def F_law_word : List D → S → R D := runF 5 b_law_word
theorem sc_law_word : FnScope ["_law_run", "_law_c", "_law_place", "_law_name", "_law_some"] ["_law_run", "_law_c", "_law_place", "_law_name"] (defScope s_law_word) := ⟨rfl, rfl, rfl, by decide +kernel, rfl, by decide +kernel, by decide +kernel⟩
theorem j_law_word (Fx : Fx K mg ca) : JFn P w K mg base ca 2 "_law_word" 4 F_law_word := by
  obtain ⟨f, fd, hm, F⟩ := Fx.d_law_word
  refine ⟨⟨f, fd, ["_law_run", "_law_c", "_law_place", "_law_name"], hm, F.kp, F.bindsN (fun _ _ _ _ _ _ us hl => match us, hl with | [_, _, _, _], _ => rfl), rfl, fnJD F sc_law_word fun cdv A outer s H E hr => ?_⟩⟩
  have tk : Takes (cxOf (L2.CX P w) P w K mg base ["_law_run", "_law_c", "_law_place", "_law_name", "_law_some"] "_law_word" (defScope s_law_word) f cdv A outer s H E) (fun cls d _ H => E cls d H) := takes_of rfl rfl rfl rfl
  exact jss_cons (js_set 4 sc_law_word.nd (je_call (j_law_last Fx) (hr.mono (by decide)) tk (ja_cons (je_ix (je_dget hr (je_var 0) (je_str)) (je_var 1)) (ja_cons (je_var 2) (ja_cons (je_lst (ja_cons (je_str) (ja_nil))) (ja_cons (je_int) (ja_cons (je_var 3) (ja_nil)))))))) (jss_one (js_ret (je_if (jt_cmp (oj_ne hr.units) (je_var 4) (je_lst (ja_nil))) (je_dget2 hr (je_ix (je_dget hr (je_var 0) (je_str)) (je_var 1)) (je_ix (je_var 4) (je_int)) (je_int)) (je_int))))
abbrev s_law_written : Stmt := top 54
def b_law_written : GS := sSeq (sAsg (gOp2 fIdx (gOp2 fIdx (gOp2 fDGet (gVar 0) (gC (.str (PySem.Str.ofString "program")))) (gVar 1)) (gVar 2)) (dName 3)) (sRet (gIf (gB (gOp2 fEq (gOp2 fIdx (gVar 3) (gC (.int 0))) (gC (.str (PySem.Str.ofString "write"))))) (gOp2 fIdx (gVar 3) (gC (.int 2))) (gCall 4 (F_law_word) (gaCons (gVar 0) (gaCons (gVar 1) (gaCons (gVar 2) (gaCons (gOp2 fIdx (gVar 3) (gC (.int 2))) (gaNil))))))))
def F_law_written : List D → S → R D := runF 4 b_law_written
theorem sc_law_written : FnScope ["_law_run", "_law_c", "_law_place", "_law_one"] ["_law_run", "_law_c", "_law_place"] (defScope s_law_written) := ⟨rfl, rfl, rfl, by decide +kernel, rfl, by decide +kernel, by decide +kernel⟩
theorem j_law_written (Fx : Fx K mg ca) : JFn P w K mg base ca 3 "_law_written" 3 F_law_written := by
  obtain ⟨f, fd, hm, F⟩ := Fx.d_law_written
  refine ⟨⟨f, fd, ["_law_run", "_law_c", "_law_place"], hm, F.kp, F.bindsN (fun _ _ _ _ _ _ us hl => match us, hl with | [_, _, _], _ => rfl), rfl, fnJD F sc_law_written fun cdv A outer s H E hr => ?_⟩⟩
  have tk : Takes (cxOf (L2.CX P w) P w K mg base ["_law_run", "_law_c", "_law_place", "_law_one"] "_law_written" (defScope s_law_written) f cdv A outer s H E) (fun cls d _ H => E cls d H) := takes_of rfl rfl rfl rfl
  exact jss_cons (js_set 3 sc_law_written.nd (je_ix (je_ix (je_dget hr (je_var 0) (je_str)) (je_var 1)) (je_var 2))) (jss_one (js_ret (je_if (jt_cmp (oj_eq hr.units) (je_ix (je_var 3) (je_int)) (je_str)) (je_ix (je_var 3) (je_int)) (je_call (j_law_word Fx) (hr.mono (by decide)) tk (ja_cons (je_var 0) (ja_cons (je_var 1) (ja_cons (je_var 2) (ja_cons (je_ix (je_var 3) (je_int)) (ja_nil)))))))))
abbrev s_law_can : Stmt := top 55
def b_law_can : GS := sSeq (sAsg (gTup (gaCons (gOp2 fIdx (gOp2 fDGet (gVar 0) (gC (.str (PySem.Str.ofString "program")))) (gVar 1)) (gaCons (gOp2 fIdx (gOp2 fDGet (gVar 0) (gC (.str (PySem.Str.ofString "done")))) (gVar 1)) (gaNil)))) (dTup 2 (dsCons (dName 4) (dsCons (dName 5) (dsNil))))) (sSeq (sIf (gOr (gB (gOp2 fIdx (gVar 5) (gVar 2))) (gB (gOp2 fGt (gVar 2) (gOp2 fIdx (gOp2 fDGet (gVar 0) (gC (.str (PySem.Str.ofString "ends")))) (gVar 1))))) (sRet (gC (.bl false))) (sNext)) (sSeq (sIf (gB (gOp2 fNe (gLc [6] (gRange1 (gaCons (gVar 2) (gaNil))) (dName 6) (gAnd (gNot (gB (gOp2 fIdx (gVar 5) (gVar 6)))) (gB (gCall 4 (F_law_must) (gaCons (gOp2 fDGet (gVar 0) (gC (.str (PySem.Str.ofString "design")))) (gaCons (gVar 4) (gaCons (gVar 6) (gaCons (gVar 2) (gaNil)))))))) (gVar 6)) (gLst (gaNil)))) (sRet (gC (.bl false))) (sNext)) (sSeq (sAsg (gAndV (gOp2 fEq (gOp2 fIdx (gOp2 fIdx (gVar 4) (gVar 2)) (gC (.int 0))) (gC (.str (PySem.Str.ofString "guard")))) (gOp2 fNe (gCall 4 (F_law_word) (gaCons (gVar 0) (gaCons (gVar 1) (gaCons (gVar 2) (gaCons (gOp2 fIdx (gOp2 fIdx (gVar 4) (gVar 2)) (gC (.int 1))) (gaNil)))))) (gOp2 fIdx (gOp2 fIdx (gVar 4) (gVar 2)) (gC (.int 2))))) (dName 3)) (sRet (gOrV (gNotV (gVar 3)) (gOp2 fNotIn (gC (.bl true)) (gSl (gVar 5) (goSome (gOp2 fAdd (gVar 2) (gC (.int 1)))) (goNone))))))))
def F_law_can : List D → S → R D := runF 7 b_law_can
theorem sc_law_can : FnScope ["_law_run", "_law_c", "_law_place", "_law_ends", "_law_core", "_law_done", "_law_i"] ["_law_run", "_law_c", "_law_place"] (defScope s_law_can) := ⟨rfl, rfl, rfl, by decide +kernel, rfl, by decide +kernel, by decide +kernel⟩
theorem j_law_can (Fx : Fx K mg ca) : JFn P w K mg base ca 3 "_law_can" 3 F_law_can := by
  obtain ⟨f, fd, hm, F⟩ := Fx.d_law_can
  refine ⟨⟨f, fd, ["_law_run", "_law_c", "_law_place"], hm, F.kp, F.bindsN (fun _ _ _ _ _ _ us hl => match us, hl with | [_, _, _], _ => rfl), rfl, fnJD F sc_law_can fun cdv A outer s H E hr => ?_⟩⟩
  have tk : Takes (cxOf (L2.CX P w) P w K mg base ["_law_run", "_law_c", "_law_place", "_law_ends", "_law_core", "_law_done", "_law_i"] "_law_can" (defScope s_law_can) f cdv A outer s H E) (fun cls d _ H => E cls d H) := takes_of rfl rfl rfl rfl
  exact jss_cons (js_asg (je_tup (ja_cons (je_ix (je_dget hr (je_var 0) (je_str)) (je_var 1)) (ja_cons (je_ix (je_dget hr (je_var 0) (je_str)) (je_var 1)) (ja_nil)))) (jg_tup rfl (jgs_cons (jg_name 4 sc_law_can.nd) (jgs_cons (jg_name 5 sc_law_can.nd) (jgs_nil))))) (jss_cons (js_if (jw_t (jw_or (jt_val (je_ix (je_var 5) (je_var 2))) (jw_or1 (jt_cmp oj_gt (je_var 2) (je_ix (je_dget hr (je_var 0) (je_str)) (je_var 1)))))) (jss_one (js_ret (je_bl))) (jss_nil)) (jss_cons (js_if (jt_cmp (oj_ne hr.units) (je_lc rfl sc_law_can.nd (ji_range1 Fx.bi_range (ja_cons (je_var 2) (ja_nil))) (blkOk_by (N := ["_law_run", "_law_c", "_law_place", "_law_ends", "_law_core", "_law_done", "_law_i"]) (sc := defScope s_law_can) (by decide +kernel)) (fun _ _ _ _ _ => pg_name (i := 6) sc_law_can.nd rfl (by first | exact Or.inl rfl | exact Or.inr rfl)) (fun _ _ _ _ _ => jts_one (jw_t (jw_and (jt_not (jt_val (je_ix (je_var 5) (je_var 6)))) (jw_and1 (jt_val (je_call (j_law_must Fx) (hr.mono (by decide)) takes0 (ja_cons (je_dget hr (je_var 0) (je_str)) (ja_cons (je_var 4) (ja_cons (je_var 6) (ja_cons (je_var 2) (ja_nil))))))))))) (fun _ _ _ _ _ => je_var 6)) (je_lst (ja_nil))) (jss_one (js_ret (je_bl))) (jss_nil)) (jss_cons (js_set 3 sc_law_can.nd (je_and (je_cmp (oj_eq hr.units) (je_ix (je_ix (je_var 4) (je_var 2)) (je_int)) (je_str)) (je_one (je_cmp (oj_ne hr.units) (je_call (j_law_word Fx) (hr.mono (by decide)) tk (ja_cons (je_var 0) (ja_cons (je_var 1) (ja_cons (je_var 2) (ja_cons (je_ix (je_ix (je_var 4) (je_var 2)) (je_int)) (ja_nil)))))) (je_ix (je_ix (je_var 4) (je_var 2)) (je_int)))))) (jss_one (js_ret (je_or (je_not (je_var 3)) (je_one (je_cmp (oj_notin (J.Room.u65 hr)) (je_bl) (je_slice (je_var 5) (jo_some (je_op oj_add (je_var 2) (je_int))) (jo_none))))))))))
abbrev s_law_events : Stmt := top 56
def b_law_events : GS := sSeq (sAsg (gLst (gaNil)) (dName 1)) (sSeq (sFor (dName 2) (gRange1 (gaCons (gF (f1 fLen) (gaCons (gOp2 fDGet (gVar 0) (gC (.str (PySem.Str.ofString "program")))) (gaNil))) (gaNil))) (sAsg (gOp2 fAdd (gVar 1) (gLc [3] (gRange1 (gaCons (gF (f1 fLen) (gaCons (gOp2 fIdx (gOp2 fDGet (gVar 0) (gC (.str (PySem.Str.ofString "program")))) (gVar 2)) (gaNil))) (gaNil))) (dName 3) (gB (gCall 3 (F_law_can) (gaCons (gVar 0) (gaCons (gVar 2) (gaCons (gVar 3) (gaNil)))))) (gTup (gaCons (gVar 2) (gaCons (gVar 3) (gaNil)))))) (dName 1))) (sRet (gVar 1)))
def F_law_events : List D → S → R D := runF 4 b_law_events
theorem sc_law_events : FnScope ["_law_run", "_law_found", "_law_c", "_law_place"] ["_law_run"] (defScope s_law_events) := ⟨rfl, rfl, rfl, by decide +kernel, rfl, by decide +kernel, by decide +kernel⟩
theorem j_law_events (Fx : Fx K mg ca) : JFn P w K mg base ca 4 "_law_events" 1 F_law_events := by
  obtain ⟨f, fd, hm, F⟩ := Fx.d_law_events
  refine ⟨⟨f, fd, ["_law_run"], hm, F.kp, F.bindsN (fun _ _ _ _ _ _ us hl => match us, hl with | [_], _ => rfl), rfl, fnJD F sc_law_events fun cdv A outer s H E hr => ?_⟩⟩
  have tk : Takes (cxOf (L2.CX P w) P w K mg base ["_law_run", "_law_found", "_law_c", "_law_place"] "_law_events" (defScope s_law_events) f cdv A outer s H E) (fun cls d _ H => E cls d H) := takes_of rfl rfl rfl rfl
  exact jss_cons (js_set 1 sc_law_events.nd (je_lst (ja_nil))) (jss_cons (js_for (passes_of rfl) rfl (ji_range1 Fx.bi_range (ja_cons (je_B cj_len Fx.bi_len bt_len (ja_cons (je_dget hr (je_var 0) (je_str)) (ja_nil))) (ja_nil))) (jg_name 2 sc_law_events.nd) (jss_one (js_set 1 sc_law_events.nd (je_op oj_add (je_var 1) (je_lc rfl sc_law_events.nd (ji_range1 Fx.bi_range (ja_cons (je_B cj_len Fx.bi_len bt_len (ja_cons (je_ix (je_dget hr (je_var 0) (je_str)) (je_var 2)) (ja_nil))) (ja_nil))) (blkOk_by (N := ["_law_run", "_law_found", "_law_c", "_law_place"]) (sc := defScope s_law_events) (by decide +kernel)) (fun _ _ _ _ _ => pg_name (i := 3) sc_law_events.nd rfl (by first | exact Or.inl rfl | exact Or.inr rfl)) (fun _ _ _ _ _ => jts_one (jt_val (je_call (j_law_can Fx) (hr.mono (by decide)) takes0 (ja_cons (je_var 0) (ja_cons (je_var 2) (ja_cons (je_var 3) (ja_nil))))))) (fun _ _ _ _ _ => je_tup (ja_cons (je_var 2) (ja_cons (je_var 3) (ja_nil))))))))) (jss_one (js_ret (je_var 1))))
abbrev s_law_do : Stmt := top 57
def b_law_do : GS := sSeq (sAsg (gVar 1) (dTup 2 (dsCons (dName 3) (dsCons (dName 4) (dsNil))))) (sSeq (sAsg (gOp2 fIdx (gOp2 fIdx (gOp2 fDGet (gVar 0) (gC (.str (PySem.Str.ofString "program")))) (gVar 3)) (gVar 4)) (dName 2)) (sSeq (sSetIx (gC (.bl true)) (gOp2 fIdx (gOp2 fDGet (gVar 0) (gC (.str (PySem.Str.ofString "done")))) (gVar 3)) (gVar 4)) (sSeq (sIf (gB (gOp2 fEq (gOp2 fIdx (gVar 2) (gC (.int 0))) (gC (.str (PySem.Str.ofString "read"))))) (sSeq (sAsg (gLc [6] (gItems (gCall 5 (F_law_last) (gaCons (gOp2 fIdx (gOp2 fDGet (gVar 0) (gC (.str (PySem.Str.ofString "program")))) (gVar 3)) (gaCons (gVar 4) (gaCons (gLst (gaCons (gC (.str (PySem.Str.ofString "write"))) (gaCons (gC (.str (PySem.Str.ofString "copy"))) (gaNil)))) (gaCons (gC (.int 1)) (gaCons (gOp2 fIdx (gVar 2) (gC (.int 2))) (gaNil)))))))) (dName 6) (gNot (gB (gOp2 fIdx (gOp2 fIdx (gOp2 fDGet (gVar 0) (gC (.str (PySem.Str.ofString "done")))) (gVar 3)) (gVar 6)))) (gVar 6)) (dName 5)) (sDPutJ (gIf (gB (gOp2 fNe (gVar 5) (gLst (gaNil)))) (gCall 3 (F_law_written) (gaCons (gVar 0) (gaCons (gVar 3) (gaCons (gOp2 fIdx (gVar 5) (gC (.int 0))) (gaNil))))) (gOp2 fIdx (gOp2 fDGet (gVar 0) (gC (.str (PySem.Str.ofString "cells")))) (gOp2 fIdx (gVar 2) (gC (.int 2))))) (gOp2 fIdx (gOp2 fDGet (gVar 0) (gC (.str (PySem.Str.ofString "took")))) (gVar 3)) (gVar 4))) (sNext)) (sSeq (sIf (gB (gOp2 fIn (gOp2 fIdx (gVar 2) (gC (.int 0))) (gLst (gaCons (gC (.str (PySem.Str.ofString "write"))) (gaCons (gC (.str (PySem.Str.ofString "copy"))) (gaNil)))))) (sSetIx (gCall 3 (F_law_written) (gaCons (gVar 0) (gaCons (gVar 3) (gaCons (gVar 4) (gaNil))))) (gOp2 fDGet (gVar 0) (gC (.str (PySem.Str.ofString "cells")))) (gOp2 fIdx (gVar 2) (gC (.int 1)))) (sNext)) (sIf (gAnd (gB (gOp2 fEq (gOp2 fIdx (gVar 2) (gC (.int 0))) (gC (.str (PySem.Str.ofString "guard"))))) (gB (gOp2 fNe (gCall 4 (F_law_word) (gaCons (gVar 0) (gaCons (gVar 3) (gaCons (gVar 4) (gaCons (gOp2 fIdx (gVar 2) (gC (.int 1))) (gaNil)))))) (gOp2 fIdx (gVar 2) (gC (.int 2)))))) (sSetIx (gVar 4) (gOp2 fDGet (gVar 0) (gC (.str (PySem.Str.ofString "ends")))) (gVar 3)) (sNext))))))
def F_law_do : List D → S → R D := runF 7 b_law_do
theorem sc_law_do : FnScope ["_law_run", "_law_event", "_law_one", "_law_c", "_law_place", "_law_some", "_law_k"] ["_law_run", "_law_event"] (defScope s_law_do) := ⟨rfl, rfl, rfl, by decide +kernel, rfl, by decide +kernel, by decide +kernel⟩
theorem j_law_do (Fx : Fx K mg ca) : JFn P w K mg base ca 4 "_law_do" 2 F_law_do := by
  obtain ⟨f, fd, hm, F⟩ := Fx.d_law_do
  refine ⟨⟨f, fd, ["_law_run", "_law_event"], hm, F.kp, F.bindsN (fun _ _ _ _ _ _ us hl => match us, hl with | [_, _], _ => rfl), rfl, fnJD F sc_law_do fun cdv A outer s H E hr => ?_⟩⟩
  have tk : Takes (cxOf (L2.CX P w) P w K mg base ["_law_run", "_law_event", "_law_one", "_law_c", "_law_place", "_law_some", "_law_k"] "_law_do" (defScope s_law_do) f cdv A outer s H E) (fun cls d _ H => E cls d H) := takes_of rfl rfl rfl rfl
  exact jss_cons (js_asg (je_var 1) (jg_tup rfl (jgs_cons (jg_name 3 sc_law_do.nd) (jgs_cons (jg_name 4 sc_law_do.nd) (jgs_nil))))) (jss_cons (js_set 2 sc_law_do.nd (je_ix (je_ix (je_dget hr (je_var 0) (je_str)) (je_var 3)) (je_var 4))) (jss_cons (js_setIx (je_bl) (je_ix (je_dget hr (je_var 0) (je_str)) (je_var 3)) (je_var 4)) (jss_cons (js_if (jt_cmp (oj_eq hr.units) (je_ix (je_var 2) (je_int)) (je_str)) (jss_cons (js_setLc 5 rfl sc_law_do.nd (ji_seq (je_call (j_law_last Fx) (hr.mono (by decide)) tk (ja_cons (je_ix (je_dget hr (je_var 0) (je_str)) (je_var 3)) (ja_cons (je_var 4) (ja_cons (je_lst (ja_cons (je_str) (ja_cons (je_str) (ja_nil)))) (ja_cons (je_int) (ja_cons (je_ix (je_var 2) (je_int)) (ja_nil)))))))) (blkOk_by (N := ["_law_run", "_law_event", "_law_one", "_law_c", "_law_place", "_law_some", "_law_k"]) (sc := defScope s_law_do) (by decide +kernel)) (fun _ _ _ _ _ => pg_name (i := 6) sc_law_do.nd rfl (by first | exact Or.inl rfl | exact Or.inr rfl)) (fun _ _ _ _ _ => jts_one (jt_not (jt_val (je_ix (je_ix (je_dget hr (je_var 0) (je_str)) (je_var 3)) (je_var 6))))) (fun _ _ _ _ _ => je_var 6) (sw_true rfl rfl rfl (by decide +kernel))) (jss_one (js_dput hr (je_if (jt_cmp (oj_ne hr.units) (je_var 5) (je_lst (ja_nil))) (je_call (j_law_written Fx) (hr.mono (by decide)) tk (ja_cons (je_var 0) (ja_cons (je_var 3) (ja_cons (je_ix (je_var 5) (je_int)) (ja_nil))))) (je_ix (je_dget hr (je_var 0) (je_str)) (je_ix (je_var 2) (je_int)))) (je_ix (je_dget hr (je_var 0) (je_str)) (je_var 3)) (je_var 4)))) (jss_nil)) (jss_cons (js_if (jt_cmp (oj_in (J.Room.u65 hr)) (je_ix (je_var 2) (je_int)) (je_lst (ja_cons (je_str) (ja_cons (je_str) (ja_nil))))) (jss_one (js_setIx (je_call (j_law_written Fx) (hr.mono (by decide)) tk (ja_cons (je_var 0) (ja_cons (je_var 3) (ja_cons (je_var 4) (ja_nil))))) (je_dget hr (je_var 0) (je_str)) (je_ix (je_var 2) (je_int)))) (jss_nil)) (jss_one (js_if (jw_t (jw_and (jt_cmp (oj_eq hr.units) (je_ix (je_var 2) (je_int)) (je_str)) (jw_and1 (jt_cmp (oj_ne hr.units) (je_call (j_law_word Fx) (hr.mono (by decide)) tk (ja_cons (je_var 0) (ja_cons (je_var 3) (ja_cons (je_var 4) (ja_cons (je_ix (je_var 2) (je_int)) (ja_nil)))))) (je_ix (je_var 2) (je_int)))))) (jss_one (js_setIx (je_var 4) (je_dget hr (je_var 0) (je_str)) (je_var 3))) (jss_nil)))))))
abbrev s_law_over : Stmt := top 58
def b_law_over : GS := sRet (gOp2 fEq (gLc [1] (gRange1 (gaCons (gF (f1 fLen) (gaCons (gOp2 fDGet (gVar 0) (gC (.str (PySem.Str.ofString "done")))) (gaNil))) (gaNil))) (dName 1) (gB (gOp2 fIn (gC (.bl false)) (gSl (gOp2 fIdx (gOp2 fDGet (gVar 0) (gC (.str (PySem.Str.ofString "done")))) (gVar 1)) (goNone) (goSome (gOp2 fAdd (gOp2 fIdx (gOp2 fDGet (gVar 0) (gC (.str (PySem.Str.ofString "ends")))) (gVar 1)) (gC (.int 1))))))) (gVar 1)) (gLst (gaNil)))
def F_law_over : List D → S → R D := runF 2 b_law_over
theorem sc_law_over : FnScope ["_law_run", "_law_c"] ["_law_run"] (defScope s_law_over) := ⟨rfl, rfl, rfl, by decide +kernel, rfl, by decide +kernel, by decide +kernel⟩
theorem j_law_over (Fx : Fx K mg ca) : JFn P w K mg base ca 1 "_law_over" 1 F_law_over := by
  obtain ⟨f, fd, hm, F⟩ := Fx.d_law_over
  refine ⟨⟨f, fd, ["_law_run"], hm, F.kp, F.bindsN (fun _ _ _ _ _ _ us hl => match us, hl with | [_], _ => rfl), rfl, fnJD F sc_law_over fun cdv A outer s H E hr => ?_⟩⟩
  have tk : Takes (cxOf (L2.CX P w) P w K mg base ["_law_run", "_law_c"] "_law_over" (defScope s_law_over) f cdv A outer s H E) (fun cls d _ H => E cls d H) := takes_of rfl rfl rfl rfl
  exact jss_one (js_ret (je_cmp (oj_eq hr.units) (je_lc rfl sc_law_over.nd (ji_range1 Fx.bi_range (ja_cons (je_B cj_len Fx.bi_len bt_len (ja_cons (je_dget hr (je_var 0) (je_str)) (ja_nil))) (ja_nil))) (blkOk_by (N := ["_law_run", "_law_c"]) (sc := defScope s_law_over) (by decide +kernel)) (fun _ _ _ _ _ => pg_name (i := 1) sc_law_over.nd rfl (by first | exact Or.inl rfl | exact Or.inr rfl)) (fun _ _ _ _ _ => jts_one (jt_cmp (oj_in (J.Room.u65 hr)) (je_bl) (je_slice (je_ix (je_dget hr (je_var 0) (je_str)) (je_var 1)) (jo_none) (jo_some (je_op oj_add (je_ix (je_dget hr (je_var 0) (je_str)) (je_var 1)) (je_int)))))) (fun _ _ _ _ _ => je_var 1)) (je_lst (ja_nil))))
abbrev s_law_outcome : Stmt := top 59
def b_law_outcome : GS := sSeq (sAsg (gLstM (gaNil)) (dName 1)) (sSeq (sFor (dName 2) (gRange1 (gaCons (gF (f1 fLen) (gaCons (gOp2 fDGet (gVar 0) (gC (.str (PySem.Str.ofString "program")))) (gaNil))) (gaNil))) (sSeq (sAsg (gLstM (gaCons (gC (.int 0)) (gaCons (gC (.int 0)) (gaNil)))) (dName 3)) (sSeq (sFor (dName 4) (gItems (gF (f1 fSortI) (gaCons (gF (f1 fKeys) (gaCons (gOp2 fIdx (gOp2 fDGet (gVar 0) (gC (.str (PySem.Str.ofString "took")))) (gVar 2)) (gaNil))) (gaNil)))) (sSetIx (gOp2 fDGet (gOp2 fIdx (gOp2 fDGet (gVar 0) (gC (.str (PySem.Str.ofString "took")))) (gVar 2)) (gVar 4)) (gVar 3) (gOp2 fIdx (gOp2 fIdx (gOp2 fIdx (gOp2 fDGet (gVar 0) (gC (.str (PySem.Str.ofString "program")))) (gVar 2)) (gVar 4)) (gC (.int 1))))) (sExpr (gApp (gVar 1) (gF (f1 fTuple) (gaCons (gVar 3) (gaNil)))))))) (sRet (gTup (gaCons (gF (f1 fTuple) (gaCons (gVar 1) (gaNil))) (gaCons (gF (f1 fTuple) (gaCons (gOp2 fDGet (gVar 0) (gC (.str (PySem.Str.ofString "cells")))) (gaNil))) (gaNil))))))
def F_law_outcome : List D → S → R D := runF 5 b_law_outcome
theorem sc_law_outcome : FnScope ["_law_run", "_law_found", "_law_c", "_law_words", "_law_place"] ["_law_run"] (defScope s_law_outcome) := ⟨rfl, rfl, rfl, by decide +kernel, rfl, by decide +kernel, by decide +kernel⟩
theorem j_law_outcome (Fx : Fx K mg ca) : JFn P w K mg base ca 1 "_law_outcome" 1 F_law_outcome := by
  obtain ⟨f, fd, hm, F⟩ := Fx.d_law_outcome
  refine ⟨⟨f, fd, ["_law_run"], hm, F.kp, F.bindsN (fun _ _ _ _ _ _ us hl => match us, hl with | [_], _ => rfl), rfl, fnJD F sc_law_outcome fun cdv A outer s H E hr => ?_⟩⟩
  have tk : Takes (cxOf (L2.CX P w) P w K mg base ["_law_run", "_law_found", "_law_c", "_law_words", "_law_place"] "_law_outcome" (defScope s_law_outcome) f cdv A outer s H E) (fun cls d _ H => E cls d H) := takes_of rfl rfl rfl rfl
  exact jss_cons (js_set 1 sc_law_outcome.nd (je_lstM (ja_nil))) (jss_cons (js_for (passes_of rfl) rfl (ji_range1 Fx.bi_range (ja_cons (je_B cj_len Fx.bi_len bt_len (ja_cons (je_dget hr (je_var 0) (je_str)) (ja_nil))) (ja_nil))) (jg_name 2 sc_law_outcome.nd) (jss_cons (js_set 3 sc_law_outcome.nd (je_lstM (ja_cons (je_int) (ja_cons (je_int) (ja_nil))))) (jss_cons (js_for (passes_of rfl) rfl (ji_seq (je_B cj_sortI Fx.bi_sorted bt_sorted (ja_cons (je_Ty (cj_keys rfl) Fx.bi_list bt_list (ja_cons (je_ix (je_dget hr (je_var 0) (je_str)) (je_var 2)) (ja_nil))) (ja_nil)))) (jg_name 4 sc_law_outcome.nd) (jss_one (js_setIx (je_dget hr (je_ix (je_dget hr (je_var 0) (je_str)) (je_var 2)) (je_var 4)) (je_var 3) (je_ix (je_ix (je_ix (je_dget hr (je_var 0) (je_str)) (je_var 2)) (je_var 4)) (je_int))))) (jss_one (js_expr (je_append (je_var 1) (je_Ty cj_tuple Fx.bi_tuple bt_tuple (ja_cons (je_var 3) (ja_nil))))))))) (jss_one (js_ret (je_tup (ja_cons (je_Ty cj_tuple Fx.bi_tuple bt_tuple (ja_cons (je_var 1) (ja_nil))) (ja_cons (je_Ty cj_tuple Fx.bi_tuple bt_tuple (ja_cons (je_dget hr (je_var 0) (je_str)) (ja_nil))) (ja_nil)))))))
abbrev s_law_alike : Stmt := top 44
def b_law_alike (R : List D → S → R D) : GS := sSeq (sIf (gB (gF (fIsi) (gaCons (gVar 1) (gaCons (gTup (gaCons (gC (.ty "tuple")) (gaCons (gC (.ty "list")) (gaNil)))) (gaNil))))) (sSeq (sIf (gOr (gNot (gB (gF (fIsi) (gaCons (gVar 0) (gaCons (gTup (gaCons (gC (.ty "tuple")) (gaCons (gC (.ty "list")) (gaNil)))) (gaNil)))))) (gB (gOp2 fNe (gF (fIsi) (gaCons (gVar 0) (gaCons (gC (.ty "list")) (gaNil)))) (gF (fIsi) (gaCons (gVar 1) (gaCons (gC (.ty "list")) (gaNil))))))) (sRet (gC (.bl false))) (sNext)) (sSeq (sIf (gB (gOp2 fNe (gF (f1 fLen) (gaCons (gVar 0) (gaNil))) (gF (f1 fLen) (gaCons (gVar 1) (gaNil))))) (sRet (gC (.bl false))) (sNext)) (sRet (gOp2 fEq (gLc [2] (gRange1 (gaCons (gF (f1 fLen) (gaCons (gVar 1) (gaNil))) (gaNil))) (dName 2) (gNot (gB (gCall 2 (R) (gaCons (gOp2 fIdx (gVar 0) (gVar 2)) (gaCons (gOp2 fIdx (gVar 1) (gVar 2)) (gaNil)))))) (gVar 2)) (gLst (gaNil)))))) (sNext)) (sSeq (sIf (gOr (gB (gOp2 fIs (gVar 1) (gC .non))) (gB (gF (fIsi) (gaCons (gVar 1) (gaCons (gC (.ty "str")) (gaNil)))))) (sRet (gAndV (gOp2 fEq (gVar 0) (gVar 1)) (gOp2 fEq (gF (fIsi) (gaCons (gVar 0) (gaCons (gC (.ty "str")) (gaNil)))) (gF (fIsi) (gaCons (gVar 1) (gaCons (gC (.ty "str")) (gaNil))))))) (sNext)) (sRet (gAndV (gF (fIsi) (gaCons (gVar 0) (gaCons (gC (.ty "int")) (gaNil)))) (gAndV (gOp2 fEq (gF (fIsi) (gaCons (gVar 0) (gaCons (gC (.ty "bool")) (gaNil)))) (gF (fIsi) (gaCons (gVar 1) (gaCons (gC (.ty "bool")) (gaNil))))) (gOp2 fEq (gVar 0) (gVar 1))))))
def F_law_alike : Nat → List D → S → R D
  | 0 => fun _ _ => .no
  | n + 1 => runF 3 (b_law_alike (F_law_alike n))
theorem sc_law_alike : FnScope ["_law_found", "_law_due", "_law_k"] ["_law_found", "_law_due"] (defScope s_law_alike) := ⟨rfl, rfl, rfl, by decide +kernel, rfl, by decide +kernel, by decide +kernel⟩
theorem j_law_alike (Fx : Fx K mg ca) : ∀ n : Nat, JFn P w K mg base ca n "_law_alike" 2 (F_law_alike n)
  | 0 => by
    obtain ⟨f, fd, hm, F⟩ := Fx.d_law_alike
    refine ⟨⟨f, fd, ["_law_found", "_law_due"], hm, F.kp, F.bindsN (fun _ _ _ _ _ _ us hl => match us, hl with | [_, _], _ => rfl), rfl, ⟨fun vs H Q E ⟨ι, ds, s, hr, hm, hl, h⟩ => h.elim, fun A outer s H args us vs Q E _ _ _ _ ⟨ι, ds, s, hr, hm, hl, h⟩ => h.elim⟩⟩⟩
  | n + 1 => by
    have IH : JFn P w K mg base ca n "_law_alike" 2 (F_law_alike n) := j_law_alike Fx n
    obtain ⟨f, fd, hm, F⟩ := Fx.d_law_alike
    refine ⟨⟨f, fd, ["_law_found", "_law_due"], hm, F.kp, F.bindsN (fun _ _ _ _ _ _ us hl => match us, hl with | [_, _], _ => rfl), rfl, fnJD F sc_law_alike fun cdv A outer s H E hr => ?_⟩⟩
    have tk : Takes (cxOf (L2.CX P w) P w K mg base ["_law_found", "_law_due", "_law_k"] "_law_alike" (defScope s_law_alike) f cdv A outer s H E) (fun cls d _ H => E cls d H) := takes_of rfl rfl rfl rfl
    exact jss_cons (js_if (jt_val (je_B cj_isinstance Fx.bi_isinstance bt_isinstance (ja_cons (je_var 1) (ja_cons (je_tup (ja_cons (je_ty Fx.bi_tuple bt_tuple) (ja_cons (je_ty Fx.bi_list bt_list) (ja_nil)))) (ja_nil))))) (jss_cons (js_if (jw_t (jw_or (jt_not (jt_val (je_B cj_isinstance Fx.bi_isinstance bt_isinstance (ja_cons (je_var 0) (ja_cons (je_tup (ja_cons (je_ty Fx.bi_tuple bt_tuple) (ja_cons (je_ty Fx.bi_list bt_list) (ja_nil)))) (ja_nil)))))) (jw_or1 (jt_cmp (oj_ne hr.units) (je_B cj_isinstance Fx.bi_isinstance bt_isinstance (ja_cons (je_var 0) (ja_cons (je_ty Fx.bi_list bt_list) (ja_nil)))) (je_B cj_isinstance Fx.bi_isinstance bt_isinstance (ja_cons (je_var 1) (ja_cons (je_ty Fx.bi_list bt_list) (ja_nil)))))))) (jss_one (js_ret (je_bl))) (jss_nil)) (jss_cons (js_if (jt_cmp (oj_ne hr.units) (je_B cj_len Fx.bi_len bt_len (ja_cons (je_var 0) (ja_nil))) (je_B cj_len Fx.bi_len bt_len (ja_cons (je_var 1) (ja_nil)))) (jss_one (js_ret (je_bl))) (jss_nil)) (jss_one (js_ret (je_cmp (oj_eq hr.units) (je_lc rfl sc_law_alike.nd (ji_range1 Fx.bi_range (ja_cons (je_B cj_len Fx.bi_len bt_len (ja_cons (je_var 1) (ja_nil))) (ja_nil))) (blkOk_by (N := ["_law_found", "_law_due", "_law_k"]) (sc := defScope s_law_alike) (by decide +kernel)) (fun _ _ _ _ _ => pg_name (i := 2) sc_law_alike.nd rfl (by first | exact Or.inl rfl | exact Or.inr rfl)) (fun _ _ _ _ _ => jts_one (jt_not (jt_val (je_call IH hr takes0 (ja_cons (je_ix (je_var 0) (je_var 2)) (ja_cons (je_ix (je_var 1) (je_var 2)) (ja_nil))))))) (fun _ _ _ _ _ => je_var 2)) (je_lst (ja_nil))))))) (jss_nil)) (jss_cons (js_if (jw_t (jw_or (jt_cmp oj_is (je_var 1) (je_non)) (jw_or1 (jt_val (je_B cj_isinstance Fx.bi_isinstance bt_isinstance (ja_cons (je_var 1) (ja_cons (je_ty Fx.bi_str bt_str) (ja_nil)))))))) (jss_one (js_ret (je_and (je_cmp (oj_eq hr.units) (je_var 0) (je_var 1)) (je_one (je_cmp (oj_eq hr.units) (je_B cj_isinstance Fx.bi_isinstance bt_isinstance (ja_cons (je_var 0) (ja_cons (je_ty Fx.bi_str bt_str) (ja_nil)))) (je_B cj_isinstance Fx.bi_isinstance bt_isinstance (ja_cons (je_var 1) (ja_cons (je_ty Fx.bi_str bt_str) (ja_nil))))))))) (jss_nil)) (jss_one (js_ret (je_and (je_B cj_isinstance Fx.bi_isinstance bt_isinstance (ja_cons (je_var 0) (ja_cons (je_ty Fx.bi_int bt_int) (ja_nil)))) (je_and (je_cmp (oj_eq hr.units) (je_B cj_isinstance Fx.bi_isinstance bt_isinstance (ja_cons (je_var 0) (ja_cons (je_ty Fx.bi_bool bt_bool) (ja_nil)))) (je_B cj_isinstance Fx.bi_isinstance bt_isinstance (ja_cons (je_var 1) (ja_cons (je_ty Fx.bi_bool bt_bool) (ja_nil))))) (je_one (je_cmp (oj_eq hr.units) (je_var 0) (je_var 1))))))))
abbrev s_law_not_made : Stmt := top 60
theorem sc_law_not_made : FnScope ["_law_work", "e"] ["_law_work"] (defScope s_law_not_made) := ⟨rfl, rfl, rfl, by decide +kernel, rfl, by decide +kernel, by decide +kernel⟩
def gs_law_not_made (K : PySem.W.Frag) (ca : Ct) (i : Nat) (a' : Addr) : GS := sRet (gIsE (fun a2 E => if a2 = a' then PySem.W.kitOne K (.ref (ca.c i)) (.ref E) else none) (gVar 1) (gC (.raw (ca.c 0))))
def hd_law_not_made : Ex → S → R D := fun e s => match e.arg, e.cls with
  | none, 0 => .ok (.bl true) s
  | _, _ => .no
theorem g_law_not_made {X : Cx} {ca : Ct} (Fx : Fx X.K X.mg ca) {g : Addr} {cdg : Value} {q : Str} : LamX.GivesTo X ["_law_work", "e"] "_law_not_made" (defScope s_law_not_made) g cdg (defBody s_law_not_made) "_law_work" q (TTw X.K ca (.bl false) hd_law_not_made) := by
  obtain ⟨C, hC, hx⟩ := Fx.xb
  refine gives_wrong (hd := hd_law_not_made) (cls := [0]) (gs := gs_law_not_made X.K ca) sc_law_not_made.nd rfl rfl hC (by decide) (fun _ _ => pe_bl) hx (fun s H i hi a' oe pn hz hf => ?_) (fun e s d s2 h => ?_)
  · exact js_ret (je_isE (b := fun E => PySem.W.kitOne X.K (.ref (ca.c i)) (.ref E)) (Fx.xc i hi) hz hf (fun _ _ h => h) Fx.bi_isinstance (je_var 1) (je_glob (v := .ref (ca.c 0)) Fx.x_NotMade.g rfl (fun _ _ => .raw _)))
  · obtain ⟨c, ar⟩ := e
    unfold hd_law_not_made at h
    simp only at h
    split at h
    · cases h
      refine ⟨by decide, rfl, fun a' => ?_⟩
      simp [gs_law_not_made, sRet, gIf, gB, gIsE, gVar, gC, Fx.xk 0 0 (by decide) (by decide)]
    · cases h
abbrev s_law : Stmt := top 61
def b_law : GS := sSeq (sAsg (gLstM (gaCons (gVar 0) (gaCons (gC (.int 0)) (gaCons (gC (.int 14243)) (gaCons (gC (.int 0)) (gaNil)))))) (dName 1)) (sSeq (sAsg (gTup (gaCons (gCall 1 (F_law_design) (gaCons (gVar 1) (gaNil))) (gaCons (gCall 2 (F_law_program) (gaCons (gVar 1) (gaCons (gC (.int 10)) (gaNil)))) (gaCons (gTup (gaNil)) (gaNil))))) (dTup 3 (dsCons (dName 4) (dsCons (dName 5) (dsCons (dName 6) (dsNil)))))) (sSeq (sAsg (gCall 2 (F_law_begin) (gaCons (gVar 4) (gaCons (gVar 5) (gaNil)))) (dName 2)) (sSeq (sFor (dName 3) (gRange1 (gaCons (gC (.int 11)) (gaNil))) (sSeq (sAsg (gCall 1 (F_law_events) (gaCons (gVar 2) (gaNil))) (dName 7)) (sSeq (sIf (gNot (gB (gCall 2 (F_law_alike 4) (gaCons (gCall 3 (F_events_behind) (gaCons (gVar 4) (gaCons (gVar 5) (gaCons (gVar 6) (gaNil))))) (gaCons (gF (f1 fTuple) (gaCons (gVar 7) (gaNil))) (gaNil)))))) (sRet (gC (.bl false))) (sNext)) (sSeq (sIf (gNot (gB (gCall 2 (F_law_alike 4) (gaCons (gCall 3 (F_has_ended) (gaCons (gVar 4) (gaCons (gVar 5) (gaCons (gVar 6) (gaNil))))) (gaCons (gCall 1 (F_law_over) (gaCons (gVar 2) (gaNil))) (gaNil)))))) (sRet (gC (.bl false))) (sNext)) (sSeq (sIf (gAnd (gB (gCall 1 (F_law_over) (gaCons (gVar 2) (gaNil)))) (gOr (gB (gOp2 fNe (gVar 7) (gLst (gaNil)))) (gNot (gB (gCall 2 (F_law_alike 4) (gaCons (gCall 3 (F_told_by) (gaCons (gVar 4) (gaCons (gVar 5) (gaCons (gVar 6) (gaNil))))) (gaCons (gCall 1 (F_law_outcome) (gaCons (gVar 2) (gaNil))) (gaNil)))))))) (sRet (gC (.bl false))) (sNext)) (sSeq (sIf (gAnd (gNot (gB (gCall 1 (F_law_over) (gaCons (gVar 2) (gaNil))))) (gNot (gB (gWrong (.bl false) hd_law_not_made (gCall 3 (F_told_by) (gaCons (gVar 4) (gaCons (gVar 5) (gaCons (gVar 6) (gaNil))))))))) (sRet (gC (.bl false))) (sNext)) (sIf (gB (gOp2 fNe (gVar 7) (gLst (gaNil)))) (sSeq (sAsg (gCall 2 (F_law_pick) (gaCons (gVar 1) (gaCons (gVar 7) (gaNil)))) (dName 8)) (sSeq (sExpr (gCall 2 (F_law_do) (gaCons (gVar 2) (gaCons (gVar 8) (gaNil))))) (sAsg (gOp2 fAdd (gVar 6) (gTup (gaCons (gVar 8) (gaNil)))) (dName 6)))) (sNext)))))))) (sRet (gC (.bl true))))))
def F_law : List D → S → R D := runF 9 b_law
theorem sc_law : FnScope ["_law_script", "_law_row", "_law_run", "_law_turn", "_law_design_here", "_law_program_here", "_law_events_here", "_law_some", "_law_event"] ["_law_script"] (defScope s_law) := ⟨rfl, rfl, rfl, by decide +kernel, rfl, by decide +kernel, by decide +kernel⟩
theorem j_law (Fx : Fx K mg ca) {f c Pt : Addr} {fd : FuncData} (F : FunD K "law" "law" (defArgs s_law) (defBody s_law) (defScope s_law) [] [] f fd) (hf : He.fAd K ("law", none) = f) (hc : He.codeOf K ("law", none) = c) (TB : LamX.TabB base mg c Pt) (hT : ca.T = [(Pt, (("law" : Str) ++ ".<locals>.") ++ "<lambda>")]) : FnOk P w K mg base (L2.CX P w) 11 f fd ["_law_script"] (spJ K ca 1 F_law) := by
  obtain ⟨gW, fdW, hmW, FW⟩ := Fx.d_law_not_made
  have bW := FW.bindsN (ps := ["_law_work"]) (fun _ _ _ _ _ _ us hl => match us, hl with | [_], _ => rfl)
  have hkW := FW.kp
  obtain ⟨ocW, odW, dVW, kVW, docW, pmW, anW, cdvW, ctW, oslW, rfl, lkW, hcgW, _, _⟩ := FW.ex
  refine fnJL (k := 10) F sc_law hf hc fun cdv A outer s H E hcdv hr => ?_
  have tk : Takes (cxOf (L2.CX P w) P w K mg base ["_law_script", "_law_row", "_law_run", "_law_turn", "_law_design_here", "_law_program_here", "_law_events_here", "_law_some", "_law_event"] "law" (defScope s_law) f cdv A outer s H E) (fun cls d _ H => E cls d H) := takes_of rfl rfl rfl rfl
  exact jss_cons (js_set 1 sc_law.nd (je_lstM (ja_cons (je_var 0) (ja_cons (je_int) (ja_cons (je_int) (ja_cons (je_int) (ja_nil))))))) (jss_cons (js_asg (je_tup (ja_cons (je_call (j_law_design Fx) (hr.mono (by decide)) tk (ja_cons (je_var 1) (ja_nil))) (ja_cons (je_call (j_law_program Fx) (hr.mono (by decide)) tk (ja_cons (je_var 1) (ja_cons (je_int) (ja_nil)))) (ja_cons (je_tup (ja_nil)) (ja_nil))))) (jg_tup rfl (jgs_cons (jg_name 4 sc_law.nd) (jgs_cons (jg_name 5 sc_law.nd) (jgs_cons (jg_name 6 sc_law.nd) (jgs_nil)))))) (jss_cons (js_set 2 sc_law.nd (je_call (j_law_begin Fx) (hr.mono (by decide)) tk (ja_cons (je_var 4) (ja_cons (je_var 5) (ja_nil))))) (jss_cons (js_for (passes_of rfl) rfl (ji_range1 Fx.bi_range (ja_cons (je_int) (ja_nil))) (jg_name 3 sc_law.nd) (jss_cons (js_set 7 sc_law.nd (je_call (j_law_events Fx) (hr.mono (by decide)) tk (ja_cons (je_var 2) (ja_nil)))) (jss_cons (js_if (jt_not (jt_val (je_call (j_law_alike Fx 4) (hr.mono (by decide)) tk (ja_cons (je_call (j_events_behind Fx) (hr.mono (by decide)) tk (ja_cons (je_var 4) (ja_cons (je_var 5) (ja_cons (je_var 6) (ja_nil))))) (ja_cons (je_Ty cj_tuple Fx.bi_tuple bt_tuple (ja_cons (je_var 7) (ja_nil))) (ja_nil)))))) (jss_one (js_ret (je_bl))) (jss_nil)) (jss_cons (js_if (jt_not (jt_val (je_call (j_law_alike Fx 4) (hr.mono (by decide)) tk (ja_cons (je_call (j_has_ended Fx) (hr.mono (by decide)) tk (ja_cons (je_var 4) (ja_cons (je_var 5) (ja_cons (je_var 6) (ja_nil))))) (ja_cons (je_call (j_law_over Fx) (hr.mono (by decide)) tk (ja_cons (je_var 2) (ja_nil))) (ja_nil)))))) (jss_one (js_ret (je_bl))) (jss_nil)) (jss_cons (js_if (jw_t (jw_and (jt_val (je_call (j_law_over Fx) (hr.mono (by decide)) tk (ja_cons (je_var 2) (ja_nil)))) (jw_and1 (jw_t (jw_or (jt_cmp (oj_ne hr.units) (je_var 7) (je_lst (ja_nil))) (jw_or1 (jt_not (jt_val (je_call (j_law_alike Fx 4) (hr.mono (by decide)) tk (ja_cons (je_call (j_told_by Fx) (hr.mono (by decide)) tk (ja_cons (je_var 4) (ja_cons (je_var 5) (ja_cons (je_var 6) (ja_nil))))) (ja_cons (je_call (j_law_outcome Fx) (hr.mono (by decide)) tk (ja_cons (je_var 2) (ja_nil))) (ja_nil)))))))))))) (jss_one (js_ret (je_bl))) (jss_nil)) (jss_cons (js_if (jw_t (jw_and (jt_not (jt_val (je_call (j_law_over Fx) (hr.mono (by decide)) tk (ja_cons (je_var 2) (ja_nil))))) (jw_and1 (jt_not (jt_val (je_wrong (k := 8) (zv := .bl false) (fun _ _ => by first | exact .str _ | exact .bl _) rfl hmW hkW lkW hcgW bW sc_law_not_made rfl (Or.inl rfl) (g_law_not_made Fx) TB hcdv (by rw [hT]; exact List.mem_cons_self) (fun p hp _ => by rw [hT] at hp; rw [List.mem_singleton.mp hp]; rfl) (hr.mono (by decide)) (LamX.lamS_by (sc := defScope s_law) (by decide +kernel)) rfl (fun _ _ _ _ _ => rfl) (fun A2 outer2 s2 H2 E2 f2 c2 hr => by exact je_call (j_told_by Fx) (hr.mono (by decide)) (takes_of rfl rfl rfl rfl) (ja_cons (je_var 4) (ja_cons (je_var 5) (ja_cons (je_var 6) (ja_nil))))))))))) (jss_one (js_ret (je_bl))) (jss_nil)) (jss_one (js_if (jt_cmp (oj_ne hr.units) (je_var 7) (je_lst (ja_nil))) (jss_cons (js_set 8 sc_law.nd (je_call (j_law_pick Fx) (hr.mono (by decide)) tk (ja_cons (je_var 1) (ja_cons (je_var 7) (ja_nil))))) (jss_cons (js_expr (je_call (j_law_do Fx) (hr.mono (by decide)) tk (ja_cons (je_var 2) (ja_cons (je_var 8) (ja_nil))))) (jss_one (js_set 6 sc_law.nd (je_op oj_add (je_var 6) (je_tup (ja_cons (je_var 8) (ja_nil)))))))) (jss_nil))))))))) (jss_one (js_ret (je_bl))))))
end
end G


set_option Elab.async false
set_option linter.all false
namespace G
open PySem PySem.Spec L2 J
@[simp] theorem ok_0 : PyData.strOk (PySem.Str.ofString "read") = true := by decide +kernel
@[simp] theorem len_0 : (PySem.Str.ofString "read").length = 4 := by decide +kernel
@[simp] theorem ne_0_1 : (PySem.Str.ofString "read" = PySem.Str.ofString "write") = False := eq_false (by decide +kernel)
@[simp] theorem nb_0_1 : (PySem.Str.ofString "read" == PySem.Str.ofString "write") = false := by decide +kernel
@[simp] theorem ne_0_2 : (PySem.Str.ofString "read" = PySem.Str.ofString "copy") = False := eq_false (by decide +kernel)
@[simp] theorem nb_0_2 : (PySem.Str.ofString "read" == PySem.Str.ofString "copy") = false := by decide +kernel
@[simp] theorem ne_0_3 : (PySem.Str.ofString "read" = PySem.Str.ofString "fence") = False := eq_false (by decide +kernel)
@[simp] theorem nb_0_3 : (PySem.Str.ofString "read" == PySem.Str.ofString "fence") = false := by decide +kernel
@[simp] theorem ne_0_4 : (PySem.Str.ofString "read" = PySem.Str.ofString "guard") = False := eq_false (by decide +kernel)
@[simp] theorem nb_0_4 : (PySem.Str.ofString "read" == PySem.Str.ofString "guard") = false := by decide +kernel
@[simp] theorem ne_0_5 : (PySem.Str.ofString "read" = PySem.Str.ofString "r") = False := eq_false (by decide +kernel)
@[simp] theorem nb_0_5 : (PySem.Str.ofString "read" == PySem.Str.ofString "r") = false := by decide +kernel
@[simp] theorem ne_0_6 : (PySem.Str.ofString "read" = PySem.Str.ofString "w") = False := eq_false (by decide +kernel)
@[simp] theorem nb_0_6 : (PySem.Str.ofString "read" == PySem.Str.ofString "w") = false := by decide +kernel
@[simp] theorem ne_0_7 : (PySem.Str.ofString "read" = PySem.Str.ofString "g") = False := eq_false (by decide +kernel)
@[simp] theorem nb_0_7 : (PySem.Str.ofString "read" == PySem.Str.ofString "g") = false := by decide +kernel
@[simp] theorem ne_0_8 : (PySem.Str.ofString "read" = PySem.Str.ofString "f") = False := eq_false (by decide +kernel)
@[simp] theorem nb_0_8 : (PySem.Str.ofString "read" == PySem.Str.ofString "f") = false := by decide +kernel
@[simp] theorem ne_0_9 : (PySem.Str.ofString "read" = PySem.Str.ofString "rr") = False := eq_false (by decide +kernel)
@[simp] theorem nb_0_9 : (PySem.Str.ofString "read" == PySem.Str.ofString "rr") = false := by decide +kernel
@[simp] theorem ne_0_10 : (PySem.Str.ofString "read" = PySem.Str.ofString "rw") = False := eq_false (by decide +kernel)
@[simp] theorem nb_0_10 : (PySem.Str.ofString "read" == PySem.Str.ofString "rw") = false := by decide +kernel
@[simp] theorem ne_0_11 : (PySem.Str.ofString "read" = PySem.Str.ofString "rg") = False := eq_false (by decide +kernel)
@[simp] theorem nb_0_11 : (PySem.Str.ofString "read" == PySem.Str.ofString "rg") = false := by decide +kernel
@[simp] theorem ne_0_12 : (PySem.Str.ofString "read" = PySem.Str.ofString "rf") = False := eq_false (by decide +kernel)
@[simp] theorem nb_0_12 : (PySem.Str.ofString "read" == PySem.Str.ofString "rf") = false := by decide +kernel
@[simp] theorem ne_0_13 : (PySem.Str.ofString "read" = PySem.Str.ofString "wr") = False := eq_false (by decide +kernel)
@[simp] theorem nb_0_13 : (PySem.Str.ofString "read" == PySem.Str.ofString "wr") = false := by decide +kernel
@[simp] theorem ne_0_14 : (PySem.Str.ofString "read" = PySem.Str.ofString "ww") = False := eq_false (by decide +kernel)
@[simp] theorem nb_0_14 : (PySem.Str.ofString "read" == PySem.Str.ofString "ww") = false := by decide +kernel
@[simp] theorem ne_0_15 : (PySem.Str.ofString "read" = PySem.Str.ofString "wg") = False := eq_false (by decide +kernel)
@[simp] theorem nb_0_15 : (PySem.Str.ofString "read" == PySem.Str.ofString "wg") = false := by decide +kernel
@[simp] theorem ne_0_16 : (PySem.Str.ofString "read" = PySem.Str.ofString "wf") = False := eq_false (by decide +kernel)
@[simp] theorem nb_0_16 : (PySem.Str.ofString "read" == PySem.Str.ofString "wf") = false := by decide +kernel
@[simp] theorem ne_0_17 : (PySem.Str.ofString "read" = PySem.Str.ofString "gr") = False := eq_false (by decide +kernel)
@[simp] theorem nb_0_17 : (PySem.Str.ofString "read" == PySem.Str.ofString "gr") = false := by decide +kernel
@[simp] theorem ne_0_18 : (PySem.Str.ofString "read" = PySem.Str.ofString "gw") = False := eq_false (by decide +kernel)
@[simp] theorem nb_0_18 : (PySem.Str.ofString "read" == PySem.Str.ofString "gw") = false := by decide +kernel
@[simp] theorem ne_0_19 : (PySem.Str.ofString "read" = PySem.Str.ofString "gg") = False := eq_false (by decide +kernel)
@[simp] theorem nb_0_19 : (PySem.Str.ofString "read" == PySem.Str.ofString "gg") = false := by decide +kernel
@[simp] theorem ne_0_20 : (PySem.Str.ofString "read" = PySem.Str.ofString "gf") = False := eq_false (by decide +kernel)
@[simp] theorem nb_0_20 : (PySem.Str.ofString "read" == PySem.Str.ofString "gf") = false := by decide +kernel
@[simp] theorem ne_0_21 : (PySem.Str.ofString "read" = PySem.Str.ofString "fr") = False := eq_false (by decide +kernel)
@[simp] theorem nb_0_21 : (PySem.Str.ofString "read" == PySem.Str.ofString "fr") = false := by decide +kernel
@[simp] theorem ne_0_22 : (PySem.Str.ofString "read" = PySem.Str.ofString "fw") = False := eq_false (by decide +kernel)
@[simp] theorem nb_0_22 : (PySem.Str.ofString "read" == PySem.Str.ofString "fw") = false := by decide +kernel
@[simp] theorem ne_0_23 : (PySem.Str.ofString "read" = PySem.Str.ofString "fg") = False := eq_false (by decide +kernel)
@[simp] theorem nb_0_23 : (PySem.Str.ofString "read" == PySem.Str.ofString "fg") = false := by decide +kernel
@[simp] theorem ne_0_24 : (PySem.Str.ofString "read" = PySem.Str.ofString "ff") = False := eq_false (by decide +kernel)
@[simp] theorem nb_0_24 : (PySem.Str.ofString "read" == PySem.Str.ofString "ff") = false := by decide +kernel
@[simp] theorem ne_0_25 : (PySem.Str.ofString "read" = PySem.Str.ofString "own") = False := eq_false (by decide +kernel)
@[simp] theorem nb_0_25 : (PySem.Str.ofString "read" == PySem.Str.ofString "own") = false := by decide +kernel
@[simp] theorem ne_0_26 : (PySem.Str.ofString "read" = PySem.Str.ofString "ss") = False := eq_false (by decide +kernel)
@[simp] theorem nb_0_26 : (PySem.Str.ofString "read" == PySem.Str.ofString "ss") = false := by decide +kernel
@[simp] theorem ne_0_27 : (PySem.Str.ofString "read" = PySem.Str.ofString "core") = False := eq_false (by decide +kernel)
@[simp] theorem nb_0_27 : (PySem.Str.ofString "read" == PySem.Str.ofString "core") = false := by decide +kernel
@[simp] theorem ne_0_28 : (PySem.Str.ofString "read" = PySem.Str.ofString "place") = False := eq_false (by decide +kernel)
@[simp] theorem nb_0_28 : (PySem.Str.ofString "read" == PySem.Str.ofString "place") = false := by decide +kernel
@[simp] theorem ne_0_29 : (PySem.Str.ofString "read" = PySem.Str.ofString "design") = False := eq_false (by decide +kernel)
@[simp] theorem nb_0_29 : (PySem.Str.ofString "read" == PySem.Str.ofString "design") = false := by decide +kernel
@[simp] theorem ne_0_30 : (PySem.Str.ofString "read" = PySem.Str.ofString "") = False := eq_false (by decide +kernel)
@[simp] theorem nb_0_30 : (PySem.Str.ofString "read" == PySem.Str.ofString "") = false := by decide +kernel
@[simp] theorem ne_0_31 : (PySem.Str.ofString "read" = PySem.Str.ofString "xx") = False := eq_false (by decide +kernel)
@[simp] theorem nb_0_31 : (PySem.Str.ofString "read" == PySem.Str.ofString "xx") = false := by decide +kernel
@[simp] theorem ok_1 : PyData.strOk (PySem.Str.ofString "write") = true := by decide +kernel
@[simp] theorem len_1 : (PySem.Str.ofString "write").length = 5 := by decide +kernel
@[simp] theorem ne_1_0 : (PySem.Str.ofString "write" = PySem.Str.ofString "read") = False := eq_false (by decide +kernel)
@[simp] theorem nb_1_0 : (PySem.Str.ofString "write" == PySem.Str.ofString "read") = false := by decide +kernel
@[simp] theorem ne_1_2 : (PySem.Str.ofString "write" = PySem.Str.ofString "copy") = False := eq_false (by decide +kernel)
@[simp] theorem nb_1_2 : (PySem.Str.ofString "write" == PySem.Str.ofString "copy") = false := by decide +kernel
@[simp] theorem ne_1_3 : (PySem.Str.ofString "write" = PySem.Str.ofString "fence") = False := eq_false (by decide +kernel)
@[simp] theorem nb_1_3 : (PySem.Str.ofString "write" == PySem.Str.ofString "fence") = false := by decide +kernel
@[simp] theorem ne_1_4 : (PySem.Str.ofString "write" = PySem.Str.ofString "guard") = False := eq_false (by decide +kernel)
@[simp] theorem nb_1_4 : (PySem.Str.ofString "write" == PySem.Str.ofString "guard") = false := by decide +kernel
@[simp] theorem ne_1_5 : (PySem.Str.ofString "write" = PySem.Str.ofString "r") = False := eq_false (by decide +kernel)
@[simp] theorem nb_1_5 : (PySem.Str.ofString "write" == PySem.Str.ofString "r") = false := by decide +kernel
@[simp] theorem ne_1_6 : (PySem.Str.ofString "write" = PySem.Str.ofString "w") = False := eq_false (by decide +kernel)
@[simp] theorem nb_1_6 : (PySem.Str.ofString "write" == PySem.Str.ofString "w") = false := by decide +kernel
@[simp] theorem ne_1_7 : (PySem.Str.ofString "write" = PySem.Str.ofString "g") = False := eq_false (by decide +kernel)
@[simp] theorem nb_1_7 : (PySem.Str.ofString "write" == PySem.Str.ofString "g") = false := by decide +kernel
@[simp] theorem ne_1_8 : (PySem.Str.ofString "write" = PySem.Str.ofString "f") = False := eq_false (by decide +kernel)
@[simp] theorem nb_1_8 : (PySem.Str.ofString "write" == PySem.Str.ofString "f") = false := by decide +kernel
@[simp] theorem ne_1_9 : (PySem.Str.ofString "write" = PySem.Str.ofString "rr") = False := eq_false (by decide +kernel)
@[simp] theorem nb_1_9 : (PySem.Str.ofString "write" == PySem.Str.ofString "rr") = false := by decide +kernel
@[simp] theorem ne_1_10 : (PySem.Str.ofString "write" = PySem.Str.ofString "rw") = False := eq_false (by decide +kernel)
@[simp] theorem nb_1_10 : (PySem.Str.ofString "write" == PySem.Str.ofString "rw") = false := by decide +kernel
@[simp] theorem ne_1_11 : (PySem.Str.ofString "write" = PySem.Str.ofString "rg") = False := eq_false (by decide +kernel)
@[simp] theorem nb_1_11 : (PySem.Str.ofString "write" == PySem.Str.ofString "rg") = false := by decide +kernel
@[simp] theorem ne_1_12 : (PySem.Str.ofString "write" = PySem.Str.ofString "rf") = False := eq_false (by decide +kernel)
@[simp] theorem nb_1_12 : (PySem.Str.ofString "write" == PySem.Str.ofString "rf") = false := by decide +kernel
@[simp] theorem ne_1_13 : (PySem.Str.ofString "write" = PySem.Str.ofString "wr") = False := eq_false (by decide +kernel)
@[simp] theorem nb_1_13 : (PySem.Str.ofString "write" == PySem.Str.ofString "wr") = false := by decide +kernel
@[simp] theorem ne_1_14 : (PySem.Str.ofString "write" = PySem.Str.ofString "ww") = False := eq_false (by decide +kernel)
@[simp] theorem nb_1_14 : (PySem.Str.ofString "write" == PySem.Str.ofString "ww") = false := by decide +kernel
@[simp] theorem ne_1_15 : (PySem.Str.ofString "write" = PySem.Str.ofString "wg") = False := eq_false (by decide +kernel)
@[simp] theorem nb_1_15 : (PySem.Str.ofString "write" == PySem.Str.ofString "wg") = false := by decide +kernel
@[simp] theorem ne_1_16 : (PySem.Str.ofString "write" = PySem.Str.ofString "wf") = False := eq_false (by decide +kernel)
@[simp] theorem nb_1_16 : (PySem.Str.ofString "write" == PySem.Str.ofString "wf") = false := by decide +kernel
@[simp] theorem ne_1_17 : (PySem.Str.ofString "write" = PySem.Str.ofString "gr") = False := eq_false (by decide +kernel)
@[simp] theorem nb_1_17 : (PySem.Str.ofString "write" == PySem.Str.ofString "gr") = false := by decide +kernel
@[simp] theorem ne_1_18 : (PySem.Str.ofString "write" = PySem.Str.ofString "gw") = False := eq_false (by decide +kernel)
@[simp] theorem nb_1_18 : (PySem.Str.ofString "write" == PySem.Str.ofString "gw") = false := by decide +kernel
@[simp] theorem ne_1_19 : (PySem.Str.ofString "write" = PySem.Str.ofString "gg") = False := eq_false (by decide +kernel)
@[simp] theorem nb_1_19 : (PySem.Str.ofString "write" == PySem.Str.ofString "gg") = false := by decide +kernel
@[simp] theorem ne_1_20 : (PySem.Str.ofString "write" = PySem.Str.ofString "gf") = False := eq_false (by decide +kernel)
@[simp] theorem nb_1_20 : (PySem.Str.ofString "write" == PySem.Str.ofString "gf") = false := by decide +kernel
@[simp] theorem ne_1_21 : (PySem.Str.ofString "write" = PySem.Str.ofString "fr") = False := eq_false (by decide +kernel)
@[simp] theorem nb_1_21 : (PySem.Str.ofString "write" == PySem.Str.ofString "fr") = false := by decide +kernel
@[simp] theorem ne_1_22 : (PySem.Str.ofString "write" = PySem.Str.ofString "fw") = False := eq_false (by decide +kernel)
@[simp] theorem nb_1_22 : (PySem.Str.ofString "write" == PySem.Str.ofString "fw") = false := by decide +kernel
@[simp] theorem ne_1_23 : (PySem.Str.ofString "write" = PySem.Str.ofString "fg") = False := eq_false (by decide +kernel)
@[simp] theorem nb_1_23 : (PySem.Str.ofString "write" == PySem.Str.ofString "fg") = false := by decide +kernel
@[simp] theorem ne_1_24 : (PySem.Str.ofString "write" = PySem.Str.ofString "ff") = False := eq_false (by decide +kernel)
@[simp] theorem nb_1_24 : (PySem.Str.ofString "write" == PySem.Str.ofString "ff") = false := by decide +kernel
@[simp] theorem ne_1_25 : (PySem.Str.ofString "write" = PySem.Str.ofString "own") = False := eq_false (by decide +kernel)
@[simp] theorem nb_1_25 : (PySem.Str.ofString "write" == PySem.Str.ofString "own") = false := by decide +kernel
@[simp] theorem ne_1_26 : (PySem.Str.ofString "write" = PySem.Str.ofString "ss") = False := eq_false (by decide +kernel)
@[simp] theorem nb_1_26 : (PySem.Str.ofString "write" == PySem.Str.ofString "ss") = false := by decide +kernel
@[simp] theorem ne_1_27 : (PySem.Str.ofString "write" = PySem.Str.ofString "core") = False := eq_false (by decide +kernel)
@[simp] theorem nb_1_27 : (PySem.Str.ofString "write" == PySem.Str.ofString "core") = false := by decide +kernel
@[simp] theorem ne_1_28 : (PySem.Str.ofString "write" = PySem.Str.ofString "place") = False := eq_false (by decide +kernel)
@[simp] theorem nb_1_28 : (PySem.Str.ofString "write" == PySem.Str.ofString "place") = false := by decide +kernel
@[simp] theorem ne_1_29 : (PySem.Str.ofString "write" = PySem.Str.ofString "design") = False := eq_false (by decide +kernel)
@[simp] theorem nb_1_29 : (PySem.Str.ofString "write" == PySem.Str.ofString "design") = false := by decide +kernel
@[simp] theorem ne_1_30 : (PySem.Str.ofString "write" = PySem.Str.ofString "") = False := eq_false (by decide +kernel)
@[simp] theorem nb_1_30 : (PySem.Str.ofString "write" == PySem.Str.ofString "") = false := by decide +kernel
@[simp] theorem ne_1_31 : (PySem.Str.ofString "write" = PySem.Str.ofString "xx") = False := eq_false (by decide +kernel)
@[simp] theorem nb_1_31 : (PySem.Str.ofString "write" == PySem.Str.ofString "xx") = false := by decide +kernel
@[simp] theorem ok_2 : PyData.strOk (PySem.Str.ofString "copy") = true := by decide +kernel
@[simp] theorem len_2 : (PySem.Str.ofString "copy").length = 4 := by decide +kernel
@[simp] theorem ne_2_0 : (PySem.Str.ofString "copy" = PySem.Str.ofString "read") = False := eq_false (by decide +kernel)
@[simp] theorem nb_2_0 : (PySem.Str.ofString "copy" == PySem.Str.ofString "read") = false := by decide +kernel
@[simp] theorem ne_2_1 : (PySem.Str.ofString "copy" = PySem.Str.ofString "write") = False := eq_false (by decide +kernel)
@[simp] theorem nb_2_1 : (PySem.Str.ofString "copy" == PySem.Str.ofString "write") = false := by decide +kernel
@[simp] theorem ne_2_3 : (PySem.Str.ofString "copy" = PySem.Str.ofString "fence") = False := eq_false (by decide +kernel)
@[simp] theorem nb_2_3 : (PySem.Str.ofString "copy" == PySem.Str.ofString "fence") = false := by decide +kernel
@[simp] theorem ne_2_4 : (PySem.Str.ofString "copy" = PySem.Str.ofString "guard") = False := eq_false (by decide +kernel)
@[simp] theorem nb_2_4 : (PySem.Str.ofString "copy" == PySem.Str.ofString "guard") = false := by decide +kernel
@[simp] theorem ne_2_5 : (PySem.Str.ofString "copy" = PySem.Str.ofString "r") = False := eq_false (by decide +kernel)
@[simp] theorem nb_2_5 : (PySem.Str.ofString "copy" == PySem.Str.ofString "r") = false := by decide +kernel
@[simp] theorem ne_2_6 : (PySem.Str.ofString "copy" = PySem.Str.ofString "w") = False := eq_false (by decide +kernel)
@[simp] theorem nb_2_6 : (PySem.Str.ofString "copy" == PySem.Str.ofString "w") = false := by decide +kernel
@[simp] theorem ne_2_7 : (PySem.Str.ofString "copy" = PySem.Str.ofString "g") = False := eq_false (by decide +kernel)
@[simp] theorem nb_2_7 : (PySem.Str.ofString "copy" == PySem.Str.ofString "g") = false := by decide +kernel
@[simp] theorem ne_2_8 : (PySem.Str.ofString "copy" = PySem.Str.ofString "f") = False := eq_false (by decide +kernel)
@[simp] theorem nb_2_8 : (PySem.Str.ofString "copy" == PySem.Str.ofString "f") = false := by decide +kernel
@[simp] theorem ne_2_9 : (PySem.Str.ofString "copy" = PySem.Str.ofString "rr") = False := eq_false (by decide +kernel)
@[simp] theorem nb_2_9 : (PySem.Str.ofString "copy" == PySem.Str.ofString "rr") = false := by decide +kernel
@[simp] theorem ne_2_10 : (PySem.Str.ofString "copy" = PySem.Str.ofString "rw") = False := eq_false (by decide +kernel)
@[simp] theorem nb_2_10 : (PySem.Str.ofString "copy" == PySem.Str.ofString "rw") = false := by decide +kernel
@[simp] theorem ne_2_11 : (PySem.Str.ofString "copy" = PySem.Str.ofString "rg") = False := eq_false (by decide +kernel)
@[simp] theorem nb_2_11 : (PySem.Str.ofString "copy" == PySem.Str.ofString "rg") = false := by decide +kernel
@[simp] theorem ne_2_12 : (PySem.Str.ofString "copy" = PySem.Str.ofString "rf") = False := eq_false (by decide +kernel)
@[simp] theorem nb_2_12 : (PySem.Str.ofString "copy" == PySem.Str.ofString "rf") = false := by decide +kernel
@[simp] theorem ne_2_13 : (PySem.Str.ofString "copy" = PySem.Str.ofString "wr") = False := eq_false (by decide +kernel)
@[simp] theorem nb_2_13 : (PySem.Str.ofString "copy" == PySem.Str.ofString "wr") = false := by decide +kernel
@[simp] theorem ne_2_14 : (PySem.Str.ofString "copy" = PySem.Str.ofString "ww") = False := eq_false (by decide +kernel)
@[simp] theorem nb_2_14 : (PySem.Str.ofString "copy" == PySem.Str.ofString "ww") = false := by decide +kernel
@[simp] theorem ne_2_15 : (PySem.Str.ofString "copy" = PySem.Str.ofString "wg") = False := eq_false (by decide +kernel)
@[simp] theorem nb_2_15 : (PySem.Str.ofString "copy" == PySem.Str.ofString "wg") = false := by decide +kernel
@[simp] theorem ne_2_16 : (PySem.Str.ofString "copy" = PySem.Str.ofString "wf") = False := eq_false (by decide +kernel)
@[simp] theorem nb_2_16 : (PySem.Str.ofString "copy" == PySem.Str.ofString "wf") = false := by decide +kernel
@[simp] theorem ne_2_17 : (PySem.Str.ofString "copy" = PySem.Str.ofString "gr") = False := eq_false (by decide +kernel)
@[simp] theorem nb_2_17 : (PySem.Str.ofString "copy" == PySem.Str.ofString "gr") = false := by decide +kernel
@[simp] theorem ne_2_18 : (PySem.Str.ofString "copy" = PySem.Str.ofString "gw") = False := eq_false (by decide +kernel)
@[simp] theorem nb_2_18 : (PySem.Str.ofString "copy" == PySem.Str.ofString "gw") = false := by decide +kernel
@[simp] theorem ne_2_19 : (PySem.Str.ofString "copy" = PySem.Str.ofString "gg") = False := eq_false (by decide +kernel)
@[simp] theorem nb_2_19 : (PySem.Str.ofString "copy" == PySem.Str.ofString "gg") = false := by decide +kernel
@[simp] theorem ne_2_20 : (PySem.Str.ofString "copy" = PySem.Str.ofString "gf") = False := eq_false (by decide +kernel)
@[simp] theorem nb_2_20 : (PySem.Str.ofString "copy" == PySem.Str.ofString "gf") = false := by decide +kernel
@[simp] theorem ne_2_21 : (PySem.Str.ofString "copy" = PySem.Str.ofString "fr") = False := eq_false (by decide +kernel)
@[simp] theorem nb_2_21 : (PySem.Str.ofString "copy" == PySem.Str.ofString "fr") = false := by decide +kernel
@[simp] theorem ne_2_22 : (PySem.Str.ofString "copy" = PySem.Str.ofString "fw") = False := eq_false (by decide +kernel)
@[simp] theorem nb_2_22 : (PySem.Str.ofString "copy" == PySem.Str.ofString "fw") = false := by decide +kernel
@[simp] theorem ne_2_23 : (PySem.Str.ofString "copy" = PySem.Str.ofString "fg") = False := eq_false (by decide +kernel)
@[simp] theorem nb_2_23 : (PySem.Str.ofString "copy" == PySem.Str.ofString "fg") = false := by decide +kernel
@[simp] theorem ne_2_24 : (PySem.Str.ofString "copy" = PySem.Str.ofString "ff") = False := eq_false (by decide +kernel)
@[simp] theorem nb_2_24 : (PySem.Str.ofString "copy" == PySem.Str.ofString "ff") = false := by decide +kernel
@[simp] theorem ne_2_25 : (PySem.Str.ofString "copy" = PySem.Str.ofString "own") = False := eq_false (by decide +kernel)
@[simp] theorem nb_2_25 : (PySem.Str.ofString "copy" == PySem.Str.ofString "own") = false := by decide +kernel
@[simp] theorem ne_2_26 : (PySem.Str.ofString "copy" = PySem.Str.ofString "ss") = False := eq_false (by decide +kernel)
@[simp] theorem nb_2_26 : (PySem.Str.ofString "copy" == PySem.Str.ofString "ss") = false := by decide +kernel
@[simp] theorem ne_2_27 : (PySem.Str.ofString "copy" = PySem.Str.ofString "core") = False := eq_false (by decide +kernel)
@[simp] theorem nb_2_27 : (PySem.Str.ofString "copy" == PySem.Str.ofString "core") = false := by decide +kernel
@[simp] theorem ne_2_28 : (PySem.Str.ofString "copy" = PySem.Str.ofString "place") = False := eq_false (by decide +kernel)
@[simp] theorem nb_2_28 : (PySem.Str.ofString "copy" == PySem.Str.ofString "place") = false := by decide +kernel
@[simp] theorem ne_2_29 : (PySem.Str.ofString "copy" = PySem.Str.ofString "design") = False := eq_false (by decide +kernel)
@[simp] theorem nb_2_29 : (PySem.Str.ofString "copy" == PySem.Str.ofString "design") = false := by decide +kernel
@[simp] theorem ne_2_30 : (PySem.Str.ofString "copy" = PySem.Str.ofString "") = False := eq_false (by decide +kernel)
@[simp] theorem nb_2_30 : (PySem.Str.ofString "copy" == PySem.Str.ofString "") = false := by decide +kernel
@[simp] theorem ne_2_31 : (PySem.Str.ofString "copy" = PySem.Str.ofString "xx") = False := eq_false (by decide +kernel)
@[simp] theorem nb_2_31 : (PySem.Str.ofString "copy" == PySem.Str.ofString "xx") = false := by decide +kernel
@[simp] theorem ok_3 : PyData.strOk (PySem.Str.ofString "fence") = true := by decide +kernel
@[simp] theorem len_3 : (PySem.Str.ofString "fence").length = 5 := by decide +kernel
@[simp] theorem ne_3_0 : (PySem.Str.ofString "fence" = PySem.Str.ofString "read") = False := eq_false (by decide +kernel)
@[simp] theorem nb_3_0 : (PySem.Str.ofString "fence" == PySem.Str.ofString "read") = false := by decide +kernel
@[simp] theorem ne_3_1 : (PySem.Str.ofString "fence" = PySem.Str.ofString "write") = False := eq_false (by decide +kernel)
@[simp] theorem nb_3_1 : (PySem.Str.ofString "fence" == PySem.Str.ofString "write") = false := by decide +kernel
@[simp] theorem ne_3_2 : (PySem.Str.ofString "fence" = PySem.Str.ofString "copy") = False := eq_false (by decide +kernel)
@[simp] theorem nb_3_2 : (PySem.Str.ofString "fence" == PySem.Str.ofString "copy") = false := by decide +kernel
@[simp] theorem ne_3_4 : (PySem.Str.ofString "fence" = PySem.Str.ofString "guard") = False := eq_false (by decide +kernel)
@[simp] theorem nb_3_4 : (PySem.Str.ofString "fence" == PySem.Str.ofString "guard") = false := by decide +kernel
@[simp] theorem ne_3_5 : (PySem.Str.ofString "fence" = PySem.Str.ofString "r") = False := eq_false (by decide +kernel)
@[simp] theorem nb_3_5 : (PySem.Str.ofString "fence" == PySem.Str.ofString "r") = false := by decide +kernel
@[simp] theorem ne_3_6 : (PySem.Str.ofString "fence" = PySem.Str.ofString "w") = False := eq_false (by decide +kernel)
@[simp] theorem nb_3_6 : (PySem.Str.ofString "fence" == PySem.Str.ofString "w") = false := by decide +kernel
@[simp] theorem ne_3_7 : (PySem.Str.ofString "fence" = PySem.Str.ofString "g") = False := eq_false (by decide +kernel)
@[simp] theorem nb_3_7 : (PySem.Str.ofString "fence" == PySem.Str.ofString "g") = false := by decide +kernel
@[simp] theorem ne_3_8 : (PySem.Str.ofString "fence" = PySem.Str.ofString "f") = False := eq_false (by decide +kernel)
@[simp] theorem nb_3_8 : (PySem.Str.ofString "fence" == PySem.Str.ofString "f") = false := by decide +kernel
@[simp] theorem ne_3_9 : (PySem.Str.ofString "fence" = PySem.Str.ofString "rr") = False := eq_false (by decide +kernel)
@[simp] theorem nb_3_9 : (PySem.Str.ofString "fence" == PySem.Str.ofString "rr") = false := by decide +kernel
@[simp] theorem ne_3_10 : (PySem.Str.ofString "fence" = PySem.Str.ofString "rw") = False := eq_false (by decide +kernel)
@[simp] theorem nb_3_10 : (PySem.Str.ofString "fence" == PySem.Str.ofString "rw") = false := by decide +kernel
@[simp] theorem ne_3_11 : (PySem.Str.ofString "fence" = PySem.Str.ofString "rg") = False := eq_false (by decide +kernel)
@[simp] theorem nb_3_11 : (PySem.Str.ofString "fence" == PySem.Str.ofString "rg") = false := by decide +kernel
@[simp] theorem ne_3_12 : (PySem.Str.ofString "fence" = PySem.Str.ofString "rf") = False := eq_false (by decide +kernel)
@[simp] theorem nb_3_12 : (PySem.Str.ofString "fence" == PySem.Str.ofString "rf") = false := by decide +kernel
@[simp] theorem ne_3_13 : (PySem.Str.ofString "fence" = PySem.Str.ofString "wr") = False := eq_false (by decide +kernel)
@[simp] theorem nb_3_13 : (PySem.Str.ofString "fence" == PySem.Str.ofString "wr") = false := by decide +kernel
@[simp] theorem ne_3_14 : (PySem.Str.ofString "fence" = PySem.Str.ofString "ww") = False := eq_false (by decide +kernel)
@[simp] theorem nb_3_14 : (PySem.Str.ofString "fence" == PySem.Str.ofString "ww") = false := by decide +kernel
@[simp] theorem ne_3_15 : (PySem.Str.ofString "fence" = PySem.Str.ofString "wg") = False := eq_false (by decide +kernel)
@[simp] theorem nb_3_15 : (PySem.Str.ofString "fence" == PySem.Str.ofString "wg") = false := by decide +kernel
@[simp] theorem ne_3_16 : (PySem.Str.ofString "fence" = PySem.Str.ofString "wf") = False := eq_false (by decide +kernel)
@[simp] theorem nb_3_16 : (PySem.Str.ofString "fence" == PySem.Str.ofString "wf") = false := by decide +kernel
@[simp] theorem ne_3_17 : (PySem.Str.ofString "fence" = PySem.Str.ofString "gr") = False := eq_false (by decide +kernel)
@[simp] theorem nb_3_17 : (PySem.Str.ofString "fence" == PySem.Str.ofString "gr") = false := by decide +kernel
@[simp] theorem ne_3_18 : (PySem.Str.ofString "fence" = PySem.Str.ofString "gw") = False := eq_false (by decide +kernel)
@[simp] theorem nb_3_18 : (PySem.Str.ofString "fence" == PySem.Str.ofString "gw") = false := by decide +kernel
@[simp] theorem ne_3_19 : (PySem.Str.ofString "fence" = PySem.Str.ofString "gg") = False := eq_false (by decide +kernel)
@[simp] theorem nb_3_19 : (PySem.Str.ofString "fence" == PySem.Str.ofString "gg") = false := by decide +kernel
@[simp] theorem ne_3_20 : (PySem.Str.ofString "fence" = PySem.Str.ofString "gf") = False := eq_false (by decide +kernel)
@[simp] theorem nb_3_20 : (PySem.Str.ofString "fence" == PySem.Str.ofString "gf") = false := by decide +kernel
@[simp] theorem ne_3_21 : (PySem.Str.ofString "fence" = PySem.Str.ofString "fr") = False := eq_false (by decide +kernel)
@[simp] theorem nb_3_21 : (PySem.Str.ofString "fence" == PySem.Str.ofString "fr") = false := by decide +kernel
@[simp] theorem ne_3_22 : (PySem.Str.ofString "fence" = PySem.Str.ofString "fw") = False := eq_false (by decide +kernel)
@[simp] theorem nb_3_22 : (PySem.Str.ofString "fence" == PySem.Str.ofString "fw") = false := by decide +kernel
@[simp] theorem ne_3_23 : (PySem.Str.ofString "fence" = PySem.Str.ofString "fg") = False := eq_false (by decide +kernel)
@[simp] theorem nb_3_23 : (PySem.Str.ofString "fence" == PySem.Str.ofString "fg") = false := by decide +kernel
@[simp] theorem ne_3_24 : (PySem.Str.ofString "fence" = PySem.Str.ofString "ff") = False := eq_false (by decide +kernel)
@[simp] theorem nb_3_24 : (PySem.Str.ofString "fence" == PySem.Str.ofString "ff") = false := by decide +kernel
@[simp] theorem ne_3_25 : (PySem.Str.ofString "fence" = PySem.Str.ofString "own") = False := eq_false (by decide +kernel)
@[simp] theorem nb_3_25 : (PySem.Str.ofString "fence" == PySem.Str.ofString "own") = false := by decide +kernel
@[simp] theorem ne_3_26 : (PySem.Str.ofString "fence" = PySem.Str.ofString "ss") = False := eq_false (by decide +kernel)
@[simp] theorem nb_3_26 : (PySem.Str.ofString "fence" == PySem.Str.ofString "ss") = false := by decide +kernel
@[simp] theorem ne_3_27 : (PySem.Str.ofString "fence" = PySem.Str.ofString "core") = False := eq_false (by decide +kernel)
@[simp] theorem nb_3_27 : (PySem.Str.ofString "fence" == PySem.Str.ofString "core") = false := by decide +kernel
@[simp] theorem ne_3_28 : (PySem.Str.ofString "fence" = PySem.Str.ofString "place") = False := eq_false (by decide +kernel)
@[simp] theorem nb_3_28 : (PySem.Str.ofString "fence" == PySem.Str.ofString "place") = false := by decide +kernel
@[simp] theorem ne_3_29 : (PySem.Str.ofString "fence" = PySem.Str.ofString "design") = False := eq_false (by decide +kernel)
@[simp] theorem nb_3_29 : (PySem.Str.ofString "fence" == PySem.Str.ofString "design") = false := by decide +kernel
@[simp] theorem ne_3_30 : (PySem.Str.ofString "fence" = PySem.Str.ofString "") = False := eq_false (by decide +kernel)
@[simp] theorem nb_3_30 : (PySem.Str.ofString "fence" == PySem.Str.ofString "") = false := by decide +kernel
@[simp] theorem ne_3_31 : (PySem.Str.ofString "fence" = PySem.Str.ofString "xx") = False := eq_false (by decide +kernel)
@[simp] theorem nb_3_31 : (PySem.Str.ofString "fence" == PySem.Str.ofString "xx") = false := by decide +kernel
@[simp] theorem ok_4 : PyData.strOk (PySem.Str.ofString "guard") = true := by decide +kernel
@[simp] theorem len_4 : (PySem.Str.ofString "guard").length = 5 := by decide +kernel
@[simp] theorem ne_4_0 : (PySem.Str.ofString "guard" = PySem.Str.ofString "read") = False := eq_false (by decide +kernel)
@[simp] theorem nb_4_0 : (PySem.Str.ofString "guard" == PySem.Str.ofString "read") = false := by decide +kernel
@[simp] theorem ne_4_1 : (PySem.Str.ofString "guard" = PySem.Str.ofString "write") = False := eq_false (by decide +kernel)
@[simp] theorem nb_4_1 : (PySem.Str.ofString "guard" == PySem.Str.ofString "write") = false := by decide +kernel
@[simp] theorem ne_4_2 : (PySem.Str.ofString "guard" = PySem.Str.ofString "copy") = False := eq_false (by decide +kernel)
@[simp] theorem nb_4_2 : (PySem.Str.ofString "guard" == PySem.Str.ofString "copy") = false := by decide +kernel
@[simp] theorem ne_4_3 : (PySem.Str.ofString "guard" = PySem.Str.ofString "fence") = False := eq_false (by decide +kernel)
@[simp] theorem nb_4_3 : (PySem.Str.ofString "guard" == PySem.Str.ofString "fence") = false := by decide +kernel
@[simp] theorem ne_4_5 : (PySem.Str.ofString "guard" = PySem.Str.ofString "r") = False := eq_false (by decide +kernel)
@[simp] theorem nb_4_5 : (PySem.Str.ofString "guard" == PySem.Str.ofString "r") = false := by decide +kernel
@[simp] theorem ne_4_6 : (PySem.Str.ofString "guard" = PySem.Str.ofString "w") = False := eq_false (by decide +kernel)
@[simp] theorem nb_4_6 : (PySem.Str.ofString "guard" == PySem.Str.ofString "w") = false := by decide +kernel
@[simp] theorem ne_4_7 : (PySem.Str.ofString "guard" = PySem.Str.ofString "g") = False := eq_false (by decide +kernel)
@[simp] theorem nb_4_7 : (PySem.Str.ofString "guard" == PySem.Str.ofString "g") = false := by decide +kernel
@[simp] theorem ne_4_8 : (PySem.Str.ofString "guard" = PySem.Str.ofString "f") = False := eq_false (by decide +kernel)
@[simp] theorem nb_4_8 : (PySem.Str.ofString "guard" == PySem.Str.ofString "f") = false := by decide +kernel
@[simp] theorem ne_4_9 : (PySem.Str.ofString "guard" = PySem.Str.ofString "rr") = False := eq_false (by decide +kernel)
@[simp] theorem nb_4_9 : (PySem.Str.ofString "guard" == PySem.Str.ofString "rr") = false := by decide +kernel
@[simp] theorem ne_4_10 : (PySem.Str.ofString "guard" = PySem.Str.ofString "rw") = False := eq_false (by decide +kernel)
@[simp] theorem nb_4_10 : (PySem.Str.ofString "guard" == PySem.Str.ofString "rw") = false := by decide +kernel
@[simp] theorem ne_4_11 : (PySem.Str.ofString "guard" = PySem.Str.ofString "rg") = False := eq_false (by decide +kernel)
@[simp] theorem nb_4_11 : (PySem.Str.ofString "guard" == PySem.Str.ofString "rg") = false := by decide +kernel
@[simp] theorem ne_4_12 : (PySem.Str.ofString "guard" = PySem.Str.ofString "rf") = False := eq_false (by decide +kernel)
@[simp] theorem nb_4_12 : (PySem.Str.ofString "guard" == PySem.Str.ofString "rf") = false := by decide +kernel
@[simp] theorem ne_4_13 : (PySem.Str.ofString "guard" = PySem.Str.ofString "wr") = False := eq_false (by decide +kernel)
@[simp] theorem nb_4_13 : (PySem.Str.ofString "guard" == PySem.Str.ofString "wr") = false := by decide +kernel
@[simp] theorem ne_4_14 : (PySem.Str.ofString "guard" = PySem.Str.ofString "ww") = False := eq_false (by decide +kernel)
@[simp] theorem nb_4_14 : (PySem.Str.ofString "guard" == PySem.Str.ofString "ww") = false := by decide +kernel
@[simp] theorem ne_4_15 : (PySem.Str.ofString "guard" = PySem.Str.ofString "wg") = False := eq_false (by decide +kernel)
@[simp] theorem nb_4_15 : (PySem.Str.ofString "guard" == PySem.Str.ofString "wg") = false := by decide +kernel
@[simp] theorem ne_4_16 : (PySem.Str.ofString "guard" = PySem.Str.ofString "wf") = False := eq_false (by decide +kernel)
@[simp] theorem nb_4_16 : (PySem.Str.ofString "guard" == PySem.Str.ofString "wf") = false := by decide +kernel
@[simp] theorem ne_4_17 : (PySem.Str.ofString "guard" = PySem.Str.ofString "gr") = False := eq_false (by decide +kernel)
@[simp] theorem nb_4_17 : (PySem.Str.ofString "guard" == PySem.Str.ofString "gr") = false := by decide +kernel
@[simp] theorem ne_4_18 : (PySem.Str.ofString "guard" = PySem.Str.ofString "gw") = False := eq_false (by decide +kernel)
@[simp] theorem nb_4_18 : (PySem.Str.ofString "guard" == PySem.Str.ofString "gw") = false := by decide +kernel
@[simp] theorem ne_4_19 : (PySem.Str.ofString "guard" = PySem.Str.ofString "gg") = False := eq_false (by decide +kernel)
@[simp] theorem nb_4_19 : (PySem.Str.ofString "guard" == PySem.Str.ofString "gg") = false := by decide +kernel
@[simp] theorem ne_4_20 : (PySem.Str.ofString "guard" = PySem.Str.ofString "gf") = False := eq_false (by decide +kernel)
@[simp] theorem nb_4_20 : (PySem.Str.ofString "guard" == PySem.Str.ofString "gf") = false := by decide +kernel
@[simp] theorem ne_4_21 : (PySem.Str.ofString "guard" = PySem.Str.ofString "fr") = False := eq_false (by decide +kernel)
@[simp] theorem nb_4_21 : (PySem.Str.ofString "guard" == PySem.Str.ofString "fr") = false := by decide +kernel
@[simp] theorem ne_4_22 : (PySem.Str.ofString "guard" = PySem.Str.ofString "fw") = False := eq_false (by decide +kernel)
@[simp] theorem nb_4_22 : (PySem.Str.ofString "guard" == PySem.Str.ofString "fw") = false := by decide +kernel
@[simp] theorem ne_4_23 : (PySem.Str.ofString "guard" = PySem.Str.ofString "fg") = False := eq_false (by decide +kernel)
@[simp] theorem nb_4_23 : (PySem.Str.ofString "guard" == PySem.Str.ofString "fg") = false := by decide +kernel
@[simp] theorem ne_4_24 : (PySem.Str.ofString "guard" = PySem.Str.ofString "ff") = False := eq_false (by decide +kernel)
@[simp] theorem nb_4_24 : (PySem.Str.ofString "guard" == PySem.Str.ofString "ff") = false := by decide +kernel
@[simp] theorem ne_4_25 : (PySem.Str.ofString "guard" = PySem.Str.ofString "own") = False := eq_false (by decide +kernel)
@[simp] theorem nb_4_25 : (PySem.Str.ofString "guard" == PySem.Str.ofString "own") = false := by decide +kernel
@[simp] theorem ne_4_26 : (PySem.Str.ofString "guard" = PySem.Str.ofString "ss") = False := eq_false (by decide +kernel)
@[simp] theorem nb_4_26 : (PySem.Str.ofString "guard" == PySem.Str.ofString "ss") = false := by decide +kernel
@[simp] theorem ne_4_27 : (PySem.Str.ofString "guard" = PySem.Str.ofString "core") = False := eq_false (by decide +kernel)
@[simp] theorem nb_4_27 : (PySem.Str.ofString "guard" == PySem.Str.ofString "core") = false := by decide +kernel
@[simp] theorem ne_4_28 : (PySem.Str.ofString "guard" = PySem.Str.ofString "place") = False := eq_false (by decide +kernel)
@[simp] theorem nb_4_28 : (PySem.Str.ofString "guard" == PySem.Str.ofString "place") = false := by decide +kernel
@[simp] theorem ne_4_29 : (PySem.Str.ofString "guard" = PySem.Str.ofString "design") = False := eq_false (by decide +kernel)
@[simp] theorem nb_4_29 : (PySem.Str.ofString "guard" == PySem.Str.ofString "design") = false := by decide +kernel
@[simp] theorem ne_4_30 : (PySem.Str.ofString "guard" = PySem.Str.ofString "") = False := eq_false (by decide +kernel)
@[simp] theorem nb_4_30 : (PySem.Str.ofString "guard" == PySem.Str.ofString "") = false := by decide +kernel
@[simp] theorem ne_4_31 : (PySem.Str.ofString "guard" = PySem.Str.ofString "xx") = False := eq_false (by decide +kernel)
@[simp] theorem nb_4_31 : (PySem.Str.ofString "guard" == PySem.Str.ofString "xx") = false := by decide +kernel
@[simp] theorem ok_5 : PyData.strOk (PySem.Str.ofString "r") = true := by decide +kernel
@[simp] theorem len_5 : (PySem.Str.ofString "r").length = 1 := by decide +kernel
@[simp] theorem ne_5_0 : (PySem.Str.ofString "r" = PySem.Str.ofString "read") = False := eq_false (by decide +kernel)
@[simp] theorem nb_5_0 : (PySem.Str.ofString "r" == PySem.Str.ofString "read") = false := by decide +kernel
@[simp] theorem ne_5_1 : (PySem.Str.ofString "r" = PySem.Str.ofString "write") = False := eq_false (by decide +kernel)
@[simp] theorem nb_5_1 : (PySem.Str.ofString "r" == PySem.Str.ofString "write") = false := by decide +kernel
@[simp] theorem ne_5_2 : (PySem.Str.ofString "r" = PySem.Str.ofString "copy") = False := eq_false (by decide +kernel)
@[simp] theorem nb_5_2 : (PySem.Str.ofString "r" == PySem.Str.ofString "copy") = false := by decide +kernel
@[simp] theorem ne_5_3 : (PySem.Str.ofString "r" = PySem.Str.ofString "fence") = False := eq_false (by decide +kernel)
@[simp] theorem nb_5_3 : (PySem.Str.ofString "r" == PySem.Str.ofString "fence") = false := by decide +kernel
@[simp] theorem ne_5_4 : (PySem.Str.ofString "r" = PySem.Str.ofString "guard") = False := eq_false (by decide +kernel)
@[simp] theorem nb_5_4 : (PySem.Str.ofString "r" == PySem.Str.ofString "guard") = false := by decide +kernel
@[simp] theorem ne_5_6 : (PySem.Str.ofString "r" = PySem.Str.ofString "w") = False := eq_false (by decide +kernel)
@[simp] theorem nb_5_6 : (PySem.Str.ofString "r" == PySem.Str.ofString "w") = false := by decide +kernel
@[simp] theorem ne_5_7 : (PySem.Str.ofString "r" = PySem.Str.ofString "g") = False := eq_false (by decide +kernel)
@[simp] theorem nb_5_7 : (PySem.Str.ofString "r" == PySem.Str.ofString "g") = false := by decide +kernel
@[simp] theorem ne_5_8 : (PySem.Str.ofString "r" = PySem.Str.ofString "f") = False := eq_false (by decide +kernel)
@[simp] theorem nb_5_8 : (PySem.Str.ofString "r" == PySem.Str.ofString "f") = false := by decide +kernel
@[simp] theorem ne_5_9 : (PySem.Str.ofString "r" = PySem.Str.ofString "rr") = False := eq_false (by decide +kernel)
@[simp] theorem nb_5_9 : (PySem.Str.ofString "r" == PySem.Str.ofString "rr") = false := by decide +kernel
@[simp] theorem ne_5_10 : (PySem.Str.ofString "r" = PySem.Str.ofString "rw") = False := eq_false (by decide +kernel)
@[simp] theorem nb_5_10 : (PySem.Str.ofString "r" == PySem.Str.ofString "rw") = false := by decide +kernel
@[simp] theorem ne_5_11 : (PySem.Str.ofString "r" = PySem.Str.ofString "rg") = False := eq_false (by decide +kernel)
@[simp] theorem nb_5_11 : (PySem.Str.ofString "r" == PySem.Str.ofString "rg") = false := by decide +kernel
@[simp] theorem ne_5_12 : (PySem.Str.ofString "r" = PySem.Str.ofString "rf") = False := eq_false (by decide +kernel)
@[simp] theorem nb_5_12 : (PySem.Str.ofString "r" == PySem.Str.ofString "rf") = false := by decide +kernel
@[simp] theorem ne_5_13 : (PySem.Str.ofString "r" = PySem.Str.ofString "wr") = False := eq_false (by decide +kernel)
@[simp] theorem nb_5_13 : (PySem.Str.ofString "r" == PySem.Str.ofString "wr") = false := by decide +kernel
@[simp] theorem ne_5_14 : (PySem.Str.ofString "r" = PySem.Str.ofString "ww") = False := eq_false (by decide +kernel)
@[simp] theorem nb_5_14 : (PySem.Str.ofString "r" == PySem.Str.ofString "ww") = false := by decide +kernel
@[simp] theorem ne_5_15 : (PySem.Str.ofString "r" = PySem.Str.ofString "wg") = False := eq_false (by decide +kernel)
@[simp] theorem nb_5_15 : (PySem.Str.ofString "r" == PySem.Str.ofString "wg") = false := by decide +kernel
@[simp] theorem ne_5_16 : (PySem.Str.ofString "r" = PySem.Str.ofString "wf") = False := eq_false (by decide +kernel)
@[simp] theorem nb_5_16 : (PySem.Str.ofString "r" == PySem.Str.ofString "wf") = false := by decide +kernel
@[simp] theorem ne_5_17 : (PySem.Str.ofString "r" = PySem.Str.ofString "gr") = False := eq_false (by decide +kernel)
@[simp] theorem nb_5_17 : (PySem.Str.ofString "r" == PySem.Str.ofString "gr") = false := by decide +kernel
@[simp] theorem ne_5_18 : (PySem.Str.ofString "r" = PySem.Str.ofString "gw") = False := eq_false (by decide +kernel)
@[simp] theorem nb_5_18 : (PySem.Str.ofString "r" == PySem.Str.ofString "gw") = false := by decide +kernel
@[simp] theorem ne_5_19 : (PySem.Str.ofString "r" = PySem.Str.ofString "gg") = False := eq_false (by decide +kernel)
@[simp] theorem nb_5_19 : (PySem.Str.ofString "r" == PySem.Str.ofString "gg") = false := by decide +kernel
@[simp] theorem ne_5_20 : (PySem.Str.ofString "r" = PySem.Str.ofString "gf") = False := eq_false (by decide +kernel)
@[simp] theorem nb_5_20 : (PySem.Str.ofString "r" == PySem.Str.ofString "gf") = false := by decide +kernel
@[simp] theorem ne_5_21 : (PySem.Str.ofString "r" = PySem.Str.ofString "fr") = False := eq_false (by decide +kernel)
@[simp] theorem nb_5_21 : (PySem.Str.ofString "r" == PySem.Str.ofString "fr") = false := by decide +kernel
@[simp] theorem ne_5_22 : (PySem.Str.ofString "r" = PySem.Str.ofString "fw") = False := eq_false (by decide +kernel)
@[simp] theorem nb_5_22 : (PySem.Str.ofString "r" == PySem.Str.ofString "fw") = false := by decide +kernel
@[simp] theorem ne_5_23 : (PySem.Str.ofString "r" = PySem.Str.ofString "fg") = False := eq_false (by decide +kernel)
@[simp] theorem nb_5_23 : (PySem.Str.ofString "r" == PySem.Str.ofString "fg") = false := by decide +kernel
@[simp] theorem ne_5_24 : (PySem.Str.ofString "r" = PySem.Str.ofString "ff") = False := eq_false (by decide +kernel)
@[simp] theorem nb_5_24 : (PySem.Str.ofString "r" == PySem.Str.ofString "ff") = false := by decide +kernel
@[simp] theorem ne_5_25 : (PySem.Str.ofString "r" = PySem.Str.ofString "own") = False := eq_false (by decide +kernel)
@[simp] theorem nb_5_25 : (PySem.Str.ofString "r" == PySem.Str.ofString "own") = false := by decide +kernel
@[simp] theorem ne_5_26 : (PySem.Str.ofString "r" = PySem.Str.ofString "ss") = False := eq_false (by decide +kernel)
@[simp] theorem nb_5_26 : (PySem.Str.ofString "r" == PySem.Str.ofString "ss") = false := by decide +kernel
@[simp] theorem ne_5_27 : (PySem.Str.ofString "r" = PySem.Str.ofString "core") = False := eq_false (by decide +kernel)
@[simp] theorem nb_5_27 : (PySem.Str.ofString "r" == PySem.Str.ofString "core") = false := by decide +kernel
@[simp] theorem ne_5_28 : (PySem.Str.ofString "r" = PySem.Str.ofString "place") = False := eq_false (by decide +kernel)
@[simp] theorem nb_5_28 : (PySem.Str.ofString "r" == PySem.Str.ofString "place") = false := by decide +kernel
@[simp] theorem ne_5_29 : (PySem.Str.ofString "r" = PySem.Str.ofString "design") = False := eq_false (by decide +kernel)
@[simp] theorem nb_5_29 : (PySem.Str.ofString "r" == PySem.Str.ofString "design") = false := by decide +kernel
@[simp] theorem ne_5_30 : (PySem.Str.ofString "r" = PySem.Str.ofString "") = False := eq_false (by decide +kernel)
@[simp] theorem nb_5_30 : (PySem.Str.ofString "r" == PySem.Str.ofString "") = false := by decide +kernel
@[simp] theorem ne_5_31 : (PySem.Str.ofString "r" = PySem.Str.ofString "xx") = False := eq_false (by decide +kernel)
@[simp] theorem nb_5_31 : (PySem.Str.ofString "r" == PySem.Str.ofString "xx") = false := by decide +kernel
@[simp] theorem ok_6 : PyData.strOk (PySem.Str.ofString "w") = true := by decide +kernel
@[simp] theorem len_6 : (PySem.Str.ofString "w").length = 1 := by decide +kernel
@[simp] theorem ne_6_0 : (PySem.Str.ofString "w" = PySem.Str.ofString "read") = False := eq_false (by decide +kernel)
@[simp] theorem nb_6_0 : (PySem.Str.ofString "w" == PySem.Str.ofString "read") = false := by decide +kernel
@[simp] theorem ne_6_1 : (PySem.Str.ofString "w" = PySem.Str.ofString "write") = False := eq_false (by decide +kernel)
@[simp] theorem nb_6_1 : (PySem.Str.ofString "w" == PySem.Str.ofString "write") = false := by decide +kernel
@[simp] theorem ne_6_2 : (PySem.Str.ofString "w" = PySem.Str.ofString "copy") = False := eq_false (by decide +kernel)
@[simp] theorem nb_6_2 : (PySem.Str.ofString "w" == PySem.Str.ofString "copy") = false := by decide +kernel
@[simp] theorem ne_6_3 : (PySem.Str.ofString "w" = PySem.Str.ofString "fence") = False := eq_false (by decide +kernel)
@[simp] theorem nb_6_3 : (PySem.Str.ofString "w" == PySem.Str.ofString "fence") = false := by decide +kernel
@[simp] theorem ne_6_4 : (PySem.Str.ofString "w" = PySem.Str.ofString "guard") = False := eq_false (by decide +kernel)
@[simp] theorem nb_6_4 : (PySem.Str.ofString "w" == PySem.Str.ofString "guard") = false := by decide +kernel
@[simp] theorem ne_6_5 : (PySem.Str.ofString "w" = PySem.Str.ofString "r") = False := eq_false (by decide +kernel)
@[simp] theorem nb_6_5 : (PySem.Str.ofString "w" == PySem.Str.ofString "r") = false := by decide +kernel
@[simp] theorem ne_6_7 : (PySem.Str.ofString "w" = PySem.Str.ofString "g") = False := eq_false (by decide +kernel)
@[simp] theorem nb_6_7 : (PySem.Str.ofString "w" == PySem.Str.ofString "g") = false := by decide +kernel
@[simp] theorem ne_6_8 : (PySem.Str.ofString "w" = PySem.Str.ofString "f") = False := eq_false (by decide +kernel)
@[simp] theorem nb_6_8 : (PySem.Str.ofString "w" == PySem.Str.ofString "f") = false := by decide +kernel
@[simp] theorem ne_6_9 : (PySem.Str.ofString "w" = PySem.Str.ofString "rr") = False := eq_false (by decide +kernel)
@[simp] theorem nb_6_9 : (PySem.Str.ofString "w" == PySem.Str.ofString "rr") = false := by decide +kernel
@[simp] theorem ne_6_10 : (PySem.Str.ofString "w" = PySem.Str.ofString "rw") = False := eq_false (by decide +kernel)
@[simp] theorem nb_6_10 : (PySem.Str.ofString "w" == PySem.Str.ofString "rw") = false := by decide +kernel
@[simp] theorem ne_6_11 : (PySem.Str.ofString "w" = PySem.Str.ofString "rg") = False := eq_false (by decide +kernel)
@[simp] theorem nb_6_11 : (PySem.Str.ofString "w" == PySem.Str.ofString "rg") = false := by decide +kernel
@[simp] theorem ne_6_12 : (PySem.Str.ofString "w" = PySem.Str.ofString "rf") = False := eq_false (by decide +kernel)
@[simp] theorem nb_6_12 : (PySem.Str.ofString "w" == PySem.Str.ofString "rf") = false := by decide +kernel
@[simp] theorem ne_6_13 : (PySem.Str.ofString "w" = PySem.Str.ofString "wr") = False := eq_false (by decide +kernel)
@[simp] theorem nb_6_13 : (PySem.Str.ofString "w" == PySem.Str.ofString "wr") = false := by decide +kernel
@[simp] theorem ne_6_14 : (PySem.Str.ofString "w" = PySem.Str.ofString "ww") = False := eq_false (by decide +kernel)
@[simp] theorem nb_6_14 : (PySem.Str.ofString "w" == PySem.Str.ofString "ww") = false := by decide +kernel
@[simp] theorem ne_6_15 : (PySem.Str.ofString "w" = PySem.Str.ofString "wg") = False := eq_false (by decide +kernel)
@[simp] theorem nb_6_15 : (PySem.Str.ofString "w" == PySem.Str.ofString "wg") = false := by decide +kernel
@[simp] theorem ne_6_16 : (PySem.Str.ofString "w" = PySem.Str.ofString "wf") = False := eq_false (by decide +kernel)
@[simp] theorem nb_6_16 : (PySem.Str.ofString "w" == PySem.Str.ofString "wf") = false := by decide +kernel
@[simp] theorem ne_6_17 : (PySem.Str.ofString "w" = PySem.Str.ofString "gr") = False := eq_false (by decide +kernel)
@[simp] theorem nb_6_17 : (PySem.Str.ofString "w" == PySem.Str.ofString "gr") = false := by decide +kernel
@[simp] theorem ne_6_18 : (PySem.Str.ofString "w" = PySem.Str.ofString "gw") = False := eq_false (by decide +kernel)
@[simp] theorem nb_6_18 : (PySem.Str.ofString "w" == PySem.Str.ofString "gw") = false := by decide +kernel
@[simp] theorem ne_6_19 : (PySem.Str.ofString "w" = PySem.Str.ofString "gg") = False := eq_false (by decide +kernel)
@[simp] theorem nb_6_19 : (PySem.Str.ofString "w" == PySem.Str.ofString "gg") = false := by decide +kernel
@[simp] theorem ne_6_20 : (PySem.Str.ofString "w" = PySem.Str.ofString "gf") = False := eq_false (by decide +kernel)
@[simp] theorem nb_6_20 : (PySem.Str.ofString "w" == PySem.Str.ofString "gf") = false := by decide +kernel
@[simp] theorem ne_6_21 : (PySem.Str.ofString "w" = PySem.Str.ofString "fr") = False := eq_false (by decide +kernel)
@[simp] theorem nb_6_21 : (PySem.Str.ofString "w" == PySem.Str.ofString "fr") = false := by decide +kernel
@[simp] theorem ne_6_22 : (PySem.Str.ofString "w" = PySem.Str.ofString "fw") = False := eq_false (by decide +kernel)
@[simp] theorem nb_6_22 : (PySem.Str.ofString "w" == PySem.Str.ofString "fw") = false := by decide +kernel
@[simp] theorem ne_6_23 : (PySem.Str.ofString "w" = PySem.Str.ofString "fg") = False := eq_false (by decide +kernel)
@[simp] theorem nb_6_23 : (PySem.Str.ofString "w" == PySem.Str.ofString "fg") = false := by decide +kernel
@[simp] theorem ne_6_24 : (PySem.Str.ofString "w" = PySem.Str.ofString "ff") = False := eq_false (by decide +kernel)
@[simp] theorem nb_6_24 : (PySem.Str.ofString "w" == PySem.Str.ofString "ff") = false := by decide +kernel
@[simp] theorem ne_6_25 : (PySem.Str.ofString "w" = PySem.Str.ofString "own") = False := eq_false (by decide +kernel)
@[simp] theorem nb_6_25 : (PySem.Str.ofString "w" == PySem.Str.ofString "own") = false := by decide +kernel
@[simp] theorem ne_6_26 : (PySem.Str.ofString "w" = PySem.Str.ofString "ss") = False := eq_false (by decide +kernel)
@[simp] theorem nb_6_26 : (PySem.Str.ofString "w" == PySem.Str.ofString "ss") = false := by decide +kernel
@[simp] theorem ne_6_27 : (PySem.Str.ofString "w" = PySem.Str.ofString "core") = False := eq_false (by decide +kernel)
@[simp] theorem nb_6_27 : (PySem.Str.ofString "w" == PySem.Str.ofString "core") = false := by decide +kernel
@[simp] theorem ne_6_28 : (PySem.Str.ofString "w" = PySem.Str.ofString "place") = False := eq_false (by decide +kernel)
@[simp] theorem nb_6_28 : (PySem.Str.ofString "w" == PySem.Str.ofString "place") = false := by decide +kernel
@[simp] theorem ne_6_29 : (PySem.Str.ofString "w" = PySem.Str.ofString "design") = False := eq_false (by decide +kernel)
@[simp] theorem nb_6_29 : (PySem.Str.ofString "w" == PySem.Str.ofString "design") = false := by decide +kernel
@[simp] theorem ne_6_30 : (PySem.Str.ofString "w" = PySem.Str.ofString "") = False := eq_false (by decide +kernel)
@[simp] theorem nb_6_30 : (PySem.Str.ofString "w" == PySem.Str.ofString "") = false := by decide +kernel
@[simp] theorem ne_6_31 : (PySem.Str.ofString "w" = PySem.Str.ofString "xx") = False := eq_false (by decide +kernel)
@[simp] theorem nb_6_31 : (PySem.Str.ofString "w" == PySem.Str.ofString "xx") = false := by decide +kernel
@[simp] theorem ok_7 : PyData.strOk (PySem.Str.ofString "g") = true := by decide +kernel
@[simp] theorem len_7 : (PySem.Str.ofString "g").length = 1 := by decide +kernel
@[simp] theorem ne_7_0 : (PySem.Str.ofString "g" = PySem.Str.ofString "read") = False := eq_false (by decide +kernel)
@[simp] theorem nb_7_0 : (PySem.Str.ofString "g" == PySem.Str.ofString "read") = false := by decide +kernel
@[simp] theorem ne_7_1 : (PySem.Str.ofString "g" = PySem.Str.ofString "write") = False := eq_false (by decide +kernel)
@[simp] theorem nb_7_1 : (PySem.Str.ofString "g" == PySem.Str.ofString "write") = false := by decide +kernel
@[simp] theorem ne_7_2 : (PySem.Str.ofString "g" = PySem.Str.ofString "copy") = False := eq_false (by decide +kernel)
@[simp] theorem nb_7_2 : (PySem.Str.ofString "g" == PySem.Str.ofString "copy") = false := by decide +kernel
@[simp] theorem ne_7_3 : (PySem.Str.ofString "g" = PySem.Str.ofString "fence") = False := eq_false (by decide +kernel)
@[simp] theorem nb_7_3 : (PySem.Str.ofString "g" == PySem.Str.ofString "fence") = false := by decide +kernel
@[simp] theorem ne_7_4 : (PySem.Str.ofString "g" = PySem.Str.ofString "guard") = False := eq_false (by decide +kernel)
@[simp] theorem nb_7_4 : (PySem.Str.ofString "g" == PySem.Str.ofString "guard") = false := by decide +kernel
@[simp] theorem ne_7_5 : (PySem.Str.ofString "g" = PySem.Str.ofString "r") = False := eq_false (by decide +kernel)
@[simp] theorem nb_7_5 : (PySem.Str.ofString "g" == PySem.Str.ofString "r") = false := by decide +kernel
@[simp] theorem ne_7_6 : (PySem.Str.ofString "g" = PySem.Str.ofString "w") = False := eq_false (by decide +kernel)
@[simp] theorem nb_7_6 : (PySem.Str.ofString "g" == PySem.Str.ofString "w") = false := by decide +kernel
@[simp] theorem ne_7_8 : (PySem.Str.ofString "g" = PySem.Str.ofString "f") = False := eq_false (by decide +kernel)
@[simp] theorem nb_7_8 : (PySem.Str.ofString "g" == PySem.Str.ofString "f") = false := by decide +kernel
@[simp] theorem ne_7_9 : (PySem.Str.ofString "g" = PySem.Str.ofString "rr") = False := eq_false (by decide +kernel)
@[simp] theorem nb_7_9 : (PySem.Str.ofString "g" == PySem.Str.ofString "rr") = false := by decide +kernel
@[simp] theorem ne_7_10 : (PySem.Str.ofString "g" = PySem.Str.ofString "rw") = False := eq_false (by decide +kernel)
@[simp] theorem nb_7_10 : (PySem.Str.ofString "g" == PySem.Str.ofString "rw") = false := by decide +kernel
@[simp] theorem ne_7_11 : (PySem.Str.ofString "g" = PySem.Str.ofString "rg") = False := eq_false (by decide +kernel)
@[simp] theorem nb_7_11 : (PySem.Str.ofString "g" == PySem.Str.ofString "rg") = false := by decide +kernel
@[simp] theorem ne_7_12 : (PySem.Str.ofString "g" = PySem.Str.ofString "rf") = False := eq_false (by decide +kernel)
@[simp] theorem nb_7_12 : (PySem.Str.ofString "g" == PySem.Str.ofString "rf") = false := by decide +kernel
@[simp] theorem ne_7_13 : (PySem.Str.ofString "g" = PySem.Str.ofString "wr") = False := eq_false (by decide +kernel)
@[simp] theorem nb_7_13 : (PySem.Str.ofString "g" == PySem.Str.ofString "wr") = false := by decide +kernel
@[simp] theorem ne_7_14 : (PySem.Str.ofString "g" = PySem.Str.ofString "ww") = False := eq_false (by decide +kernel)
@[simp] theorem nb_7_14 : (PySem.Str.ofString "g" == PySem.Str.ofString "ww") = false := by decide +kernel
@[simp] theorem ne_7_15 : (PySem.Str.ofString "g" = PySem.Str.ofString "wg") = False := eq_false (by decide +kernel)
@[simp] theorem nb_7_15 : (PySem.Str.ofString "g" == PySem.Str.ofString "wg") = false := by decide +kernel
@[simp] theorem ne_7_16 : (PySem.Str.ofString "g" = PySem.Str.ofString "wf") = False := eq_false (by decide +kernel)
@[simp] theorem nb_7_16 : (PySem.Str.ofString "g" == PySem.Str.ofString "wf") = false := by decide +kernel
@[simp] theorem ne_7_17 : (PySem.Str.ofString "g" = PySem.Str.ofString "gr") = False := eq_false (by decide +kernel)
@[simp] theorem nb_7_17 : (PySem.Str.ofString "g" == PySem.Str.ofString "gr") = false := by decide +kernel
@[simp] theorem ne_7_18 : (PySem.Str.ofString "g" = PySem.Str.ofString "gw") = False := eq_false (by decide +kernel)
@[simp] theorem nb_7_18 : (PySem.Str.ofString "g" == PySem.Str.ofString "gw") = false := by decide +kernel
@[simp] theorem ne_7_19 : (PySem.Str.ofString "g" = PySem.Str.ofString "gg") = False := eq_false (by decide +kernel)
@[simp] theorem nb_7_19 : (PySem.Str.ofString "g" == PySem.Str.ofString "gg") = false := by decide +kernel
@[simp] theorem ne_7_20 : (PySem.Str.ofString "g" = PySem.Str.ofString "gf") = False := eq_false (by decide +kernel)
@[simp] theorem nb_7_20 : (PySem.Str.ofString "g" == PySem.Str.ofString "gf") = false := by decide +kernel
@[simp] theorem ne_7_21 : (PySem.Str.ofString "g" = PySem.Str.ofString "fr") = False := eq_false (by decide +kernel)
@[simp] theorem nb_7_21 : (PySem.Str.ofString "g" == PySem.Str.ofString "fr") = false := by decide +kernel
@[simp] theorem ne_7_22 : (PySem.Str.ofString "g" = PySem.Str.ofString "fw") = False := eq_false (by decide +kernel)
@[simp] theorem nb_7_22 : (PySem.Str.ofString "g" == PySem.Str.ofString "fw") = false := by decide +kernel
@[simp] theorem ne_7_23 : (PySem.Str.ofString "g" = PySem.Str.ofString "fg") = False := eq_false (by decide +kernel)
@[simp] theorem nb_7_23 : (PySem.Str.ofString "g" == PySem.Str.ofString "fg") = false := by decide +kernel
@[simp] theorem ne_7_24 : (PySem.Str.ofString "g" = PySem.Str.ofString "ff") = False := eq_false (by decide +kernel)
@[simp] theorem nb_7_24 : (PySem.Str.ofString "g" == PySem.Str.ofString "ff") = false := by decide +kernel
@[simp] theorem ne_7_25 : (PySem.Str.ofString "g" = PySem.Str.ofString "own") = False := eq_false (by decide +kernel)
@[simp] theorem nb_7_25 : (PySem.Str.ofString "g" == PySem.Str.ofString "own") = false := by decide +kernel
@[simp] theorem ne_7_26 : (PySem.Str.ofString "g" = PySem.Str.ofString "ss") = False := eq_false (by decide +kernel)
@[simp] theorem nb_7_26 : (PySem.Str.ofString "g" == PySem.Str.ofString "ss") = false := by decide +kernel
@[simp] theorem ne_7_27 : (PySem.Str.ofString "g" = PySem.Str.ofString "core") = False := eq_false (by decide +kernel)
@[simp] theorem nb_7_27 : (PySem.Str.ofString "g" == PySem.Str.ofString "core") = false := by decide +kernel
@[simp] theorem ne_7_28 : (PySem.Str.ofString "g" = PySem.Str.ofString "place") = False := eq_false (by decide +kernel)
@[simp] theorem nb_7_28 : (PySem.Str.ofString "g" == PySem.Str.ofString "place") = false := by decide +kernel
@[simp] theorem ne_7_29 : (PySem.Str.ofString "g" = PySem.Str.ofString "design") = False := eq_false (by decide +kernel)
@[simp] theorem nb_7_29 : (PySem.Str.ofString "g" == PySem.Str.ofString "design") = false := by decide +kernel
@[simp] theorem ne_7_30 : (PySem.Str.ofString "g" = PySem.Str.ofString "") = False := eq_false (by decide +kernel)
@[simp] theorem nb_7_30 : (PySem.Str.ofString "g" == PySem.Str.ofString "") = false := by decide +kernel
@[simp] theorem ne_7_31 : (PySem.Str.ofString "g" = PySem.Str.ofString "xx") = False := eq_false (by decide +kernel)
@[simp] theorem nb_7_31 : (PySem.Str.ofString "g" == PySem.Str.ofString "xx") = false := by decide +kernel
@[simp] theorem ok_8 : PyData.strOk (PySem.Str.ofString "f") = true := by decide +kernel
@[simp] theorem len_8 : (PySem.Str.ofString "f").length = 1 := by decide +kernel
@[simp] theorem ne_8_0 : (PySem.Str.ofString "f" = PySem.Str.ofString "read") = False := eq_false (by decide +kernel)
@[simp] theorem nb_8_0 : (PySem.Str.ofString "f" == PySem.Str.ofString "read") = false := by decide +kernel
@[simp] theorem ne_8_1 : (PySem.Str.ofString "f" = PySem.Str.ofString "write") = False := eq_false (by decide +kernel)
@[simp] theorem nb_8_1 : (PySem.Str.ofString "f" == PySem.Str.ofString "write") = false := by decide +kernel
@[simp] theorem ne_8_2 : (PySem.Str.ofString "f" = PySem.Str.ofString "copy") = False := eq_false (by decide +kernel)
@[simp] theorem nb_8_2 : (PySem.Str.ofString "f" == PySem.Str.ofString "copy") = false := by decide +kernel
@[simp] theorem ne_8_3 : (PySem.Str.ofString "f" = PySem.Str.ofString "fence") = False := eq_false (by decide +kernel)
@[simp] theorem nb_8_3 : (PySem.Str.ofString "f" == PySem.Str.ofString "fence") = false := by decide +kernel
@[simp] theorem ne_8_4 : (PySem.Str.ofString "f" = PySem.Str.ofString "guard") = False := eq_false (by decide +kernel)
@[simp] theorem nb_8_4 : (PySem.Str.ofString "f" == PySem.Str.ofString "guard") = false := by decide +kernel
@[simp] theorem ne_8_5 : (PySem.Str.ofString "f" = PySem.Str.ofString "r") = False := eq_false (by decide +kernel)
@[simp] theorem nb_8_5 : (PySem.Str.ofString "f" == PySem.Str.ofString "r") = false := by decide +kernel
@[simp] theorem ne_8_6 : (PySem.Str.ofString "f" = PySem.Str.ofString "w") = False := eq_false (by decide +kernel)
@[simp] theorem nb_8_6 : (PySem.Str.ofString "f" == PySem.Str.ofString "w") = false := by decide +kernel
@[simp] theorem ne_8_7 : (PySem.Str.ofString "f" = PySem.Str.ofString "g") = False := eq_false (by decide +kernel)
@[simp] theorem nb_8_7 : (PySem.Str.ofString "f" == PySem.Str.ofString "g") = false := by decide +kernel
@[simp] theorem ne_8_9 : (PySem.Str.ofString "f" = PySem.Str.ofString "rr") = False := eq_false (by decide +kernel)
@[simp] theorem nb_8_9 : (PySem.Str.ofString "f" == PySem.Str.ofString "rr") = false := by decide +kernel
@[simp] theorem ne_8_10 : (PySem.Str.ofString "f" = PySem.Str.ofString "rw") = False := eq_false (by decide +kernel)
@[simp] theorem nb_8_10 : (PySem.Str.ofString "f" == PySem.Str.ofString "rw") = false := by decide +kernel
@[simp] theorem ne_8_11 : (PySem.Str.ofString "f" = PySem.Str.ofString "rg") = False := eq_false (by decide +kernel)
@[simp] theorem nb_8_11 : (PySem.Str.ofString "f" == PySem.Str.ofString "rg") = false := by decide +kernel
@[simp] theorem ne_8_12 : (PySem.Str.ofString "f" = PySem.Str.ofString "rf") = False := eq_false (by decide +kernel)
@[simp] theorem nb_8_12 : (PySem.Str.ofString "f" == PySem.Str.ofString "rf") = false := by decide +kernel
@[simp] theorem ne_8_13 : (PySem.Str.ofString "f" = PySem.Str.ofString "wr") = False := eq_false (by decide +kernel)
@[simp] theorem nb_8_13 : (PySem.Str.ofString "f" == PySem.Str.ofString "wr") = false := by decide +kernel
@[simp] theorem ne_8_14 : (PySem.Str.ofString "f" = PySem.Str.ofString "ww") = False := eq_false (by decide +kernel)
@[simp] theorem nb_8_14 : (PySem.Str.ofString "f" == PySem.Str.ofString "ww") = false := by decide +kernel
@[simp] theorem ne_8_15 : (PySem.Str.ofString "f" = PySem.Str.ofString "wg") = False := eq_false (by decide +kernel)
@[simp] theorem nb_8_15 : (PySem.Str.ofString "f" == PySem.Str.ofString "wg") = false := by decide +kernel
@[simp] theorem ne_8_16 : (PySem.Str.ofString "f" = PySem.Str.ofString "wf") = False := eq_false (by decide +kernel)
@[simp] theorem nb_8_16 : (PySem.Str.ofString "f" == PySem.Str.ofString "wf") = false := by decide +kernel
@[simp] theorem ne_8_17 : (PySem.Str.ofString "f" = PySem.Str.ofString "gr") = False := eq_false (by decide +kernel)
@[simp] theorem nb_8_17 : (PySem.Str.ofString "f" == PySem.Str.ofString "gr") = false := by decide +kernel
@[simp] theorem ne_8_18 : (PySem.Str.ofString "f" = PySem.Str.ofString "gw") = False := eq_false (by decide +kernel)
@[simp] theorem nb_8_18 : (PySem.Str.ofString "f" == PySem.Str.ofString "gw") = false := by decide +kernel
@[simp] theorem ne_8_19 : (PySem.Str.ofString "f" = PySem.Str.ofString "gg") = False := eq_false (by decide +kernel)
@[simp] theorem nb_8_19 : (PySem.Str.ofString "f" == PySem.Str.ofString "gg") = false := by decide +kernel
@[simp] theorem ne_8_20 : (PySem.Str.ofString "f" = PySem.Str.ofString "gf") = False := eq_false (by decide +kernel)
@[simp] theorem nb_8_20 : (PySem.Str.ofString "f" == PySem.Str.ofString "gf") = false := by decide +kernel
@[simp] theorem ne_8_21 : (PySem.Str.ofString "f" = PySem.Str.ofString "fr") = False := eq_false (by decide +kernel)
@[simp] theorem nb_8_21 : (PySem.Str.ofString "f" == PySem.Str.ofString "fr") = false := by decide +kernel
@[simp] theorem ne_8_22 : (PySem.Str.ofString "f" = PySem.Str.ofString "fw") = False := eq_false (by decide +kernel)
@[simp] theorem nb_8_22 : (PySem.Str.ofString "f" == PySem.Str.ofString "fw") = false := by decide +kernel
@[simp] theorem ne_8_23 : (PySem.Str.ofString "f" = PySem.Str.ofString "fg") = False := eq_false (by decide +kernel)
@[simp] theorem nb_8_23 : (PySem.Str.ofString "f" == PySem.Str.ofString "fg") = false := by decide +kernel
@[simp] theorem ne_8_24 : (PySem.Str.ofString "f" = PySem.Str.ofString "ff") = False := eq_false (by decide +kernel)
@[simp] theorem nb_8_24 : (PySem.Str.ofString "f" == PySem.Str.ofString "ff") = false := by decide +kernel
@[simp] theorem ne_8_25 : (PySem.Str.ofString "f" = PySem.Str.ofString "own") = False := eq_false (by decide +kernel)
@[simp] theorem nb_8_25 : (PySem.Str.ofString "f" == PySem.Str.ofString "own") = false := by decide +kernel
@[simp] theorem ne_8_26 : (PySem.Str.ofString "f" = PySem.Str.ofString "ss") = False := eq_false (by decide +kernel)
@[simp] theorem nb_8_26 : (PySem.Str.ofString "f" == PySem.Str.ofString "ss") = false := by decide +kernel
@[simp] theorem ne_8_27 : (PySem.Str.ofString "f" = PySem.Str.ofString "core") = False := eq_false (by decide +kernel)
@[simp] theorem nb_8_27 : (PySem.Str.ofString "f" == PySem.Str.ofString "core") = false := by decide +kernel
@[simp] theorem ne_8_28 : (PySem.Str.ofString "f" = PySem.Str.ofString "place") = False := eq_false (by decide +kernel)
@[simp] theorem nb_8_28 : (PySem.Str.ofString "f" == PySem.Str.ofString "place") = false := by decide +kernel
@[simp] theorem ne_8_29 : (PySem.Str.ofString "f" = PySem.Str.ofString "design") = False := eq_false (by decide +kernel)
@[simp] theorem nb_8_29 : (PySem.Str.ofString "f" == PySem.Str.ofString "design") = false := by decide +kernel
@[simp] theorem ne_8_30 : (PySem.Str.ofString "f" = PySem.Str.ofString "") = False := eq_false (by decide +kernel)
@[simp] theorem nb_8_30 : (PySem.Str.ofString "f" == PySem.Str.ofString "") = false := by decide +kernel
@[simp] theorem ne_8_31 : (PySem.Str.ofString "f" = PySem.Str.ofString "xx") = False := eq_false (by decide +kernel)
@[simp] theorem nb_8_31 : (PySem.Str.ofString "f" == PySem.Str.ofString "xx") = false := by decide +kernel
@[simp] theorem ok_9 : PyData.strOk (PySem.Str.ofString "rr") = true := by decide +kernel
@[simp] theorem len_9 : (PySem.Str.ofString "rr").length = 2 := by decide +kernel
@[simp] theorem ne_9_0 : (PySem.Str.ofString "rr" = PySem.Str.ofString "read") = False := eq_false (by decide +kernel)
@[simp] theorem nb_9_0 : (PySem.Str.ofString "rr" == PySem.Str.ofString "read") = false := by decide +kernel
@[simp] theorem ne_9_1 : (PySem.Str.ofString "rr" = PySem.Str.ofString "write") = False := eq_false (by decide +kernel)
@[simp] theorem nb_9_1 : (PySem.Str.ofString "rr" == PySem.Str.ofString "write") = false := by decide +kernel
@[simp] theorem ne_9_2 : (PySem.Str.ofString "rr" = PySem.Str.ofString "copy") = False := eq_false (by decide +kernel)
@[simp] theorem nb_9_2 : (PySem.Str.ofString "rr" == PySem.Str.ofString "copy") = false := by decide +kernel
@[simp] theorem ne_9_3 : (PySem.Str.ofString "rr" = PySem.Str.ofString "fence") = False := eq_false (by decide +kernel)
@[simp] theorem nb_9_3 : (PySem.Str.ofString "rr" == PySem.Str.ofString "fence") = false := by decide +kernel
@[simp] theorem ne_9_4 : (PySem.Str.ofString "rr" = PySem.Str.ofString "guard") = False := eq_false (by decide +kernel)
@[simp] theorem nb_9_4 : (PySem.Str.ofString "rr" == PySem.Str.ofString "guard") = false := by decide +kernel
@[simp] theorem ne_9_5 : (PySem.Str.ofString "rr" = PySem.Str.ofString "r") = False := eq_false (by decide +kernel)
@[simp] theorem nb_9_5 : (PySem.Str.ofString "rr" == PySem.Str.ofString "r") = false := by decide +kernel
@[simp] theorem ne_9_6 : (PySem.Str.ofString "rr" = PySem.Str.ofString "w") = False := eq_false (by decide +kernel)
@[simp] theorem nb_9_6 : (PySem.Str.ofString "rr" == PySem.Str.ofString "w") = false := by decide +kernel
@[simp] theorem ne_9_7 : (PySem.Str.ofString "rr" = PySem.Str.ofString "g") = False := eq_false (by decide +kernel)
@[simp] theorem nb_9_7 : (PySem.Str.ofString "rr" == PySem.Str.ofString "g") = false := by decide +kernel
@[simp] theorem ne_9_8 : (PySem.Str.ofString "rr" = PySem.Str.ofString "f") = False := eq_false (by decide +kernel)
@[simp] theorem nb_9_8 : (PySem.Str.ofString "rr" == PySem.Str.ofString "f") = false := by decide +kernel
@[simp] theorem ne_9_10 : (PySem.Str.ofString "rr" = PySem.Str.ofString "rw") = False := eq_false (by decide +kernel)
@[simp] theorem nb_9_10 : (PySem.Str.ofString "rr" == PySem.Str.ofString "rw") = false := by decide +kernel
@[simp] theorem ne_9_11 : (PySem.Str.ofString "rr" = PySem.Str.ofString "rg") = False := eq_false (by decide +kernel)
@[simp] theorem nb_9_11 : (PySem.Str.ofString "rr" == PySem.Str.ofString "rg") = false := by decide +kernel
@[simp] theorem ne_9_12 : (PySem.Str.ofString "rr" = PySem.Str.ofString "rf") = False := eq_false (by decide +kernel)
@[simp] theorem nb_9_12 : (PySem.Str.ofString "rr" == PySem.Str.ofString "rf") = false := by decide +kernel
@[simp] theorem ne_9_13 : (PySem.Str.ofString "rr" = PySem.Str.ofString "wr") = False := eq_false (by decide +kernel)
@[simp] theorem nb_9_13 : (PySem.Str.ofString "rr" == PySem.Str.ofString "wr") = false := by decide +kernel
@[simp] theorem ne_9_14 : (PySem.Str.ofString "rr" = PySem.Str.ofString "ww") = False := eq_false (by decide +kernel)
@[simp] theorem nb_9_14 : (PySem.Str.ofString "rr" == PySem.Str.ofString "ww") = false := by decide +kernel
@[simp] theorem ne_9_15 : (PySem.Str.ofString "rr" = PySem.Str.ofString "wg") = False := eq_false (by decide +kernel)
@[simp] theorem nb_9_15 : (PySem.Str.ofString "rr" == PySem.Str.ofString "wg") = false := by decide +kernel
@[simp] theorem ne_9_16 : (PySem.Str.ofString "rr" = PySem.Str.ofString "wf") = False := eq_false (by decide +kernel)
@[simp] theorem nb_9_16 : (PySem.Str.ofString "rr" == PySem.Str.ofString "wf") = false := by decide +kernel
@[simp] theorem ne_9_17 : (PySem.Str.ofString "rr" = PySem.Str.ofString "gr") = False := eq_false (by decide +kernel)
@[simp] theorem nb_9_17 : (PySem.Str.ofString "rr" == PySem.Str.ofString "gr") = false := by decide +kernel
@[simp] theorem ne_9_18 : (PySem.Str.ofString "rr" = PySem.Str.ofString "gw") = False := eq_false (by decide +kernel)
@[simp] theorem nb_9_18 : (PySem.Str.ofString "rr" == PySem.Str.ofString "gw") = false := by decide +kernel
@[simp] theorem ne_9_19 : (PySem.Str.ofString "rr" = PySem.Str.ofString "gg") = False := eq_false (by decide +kernel)
@[simp] theorem nb_9_19 : (PySem.Str.ofString "rr" == PySem.Str.ofString "gg") = false := by decide +kernel
@[simp] theorem ne_9_20 : (PySem.Str.ofString "rr" = PySem.Str.ofString "gf") = False := eq_false (by decide +kernel)
@[simp] theorem nb_9_20 : (PySem.Str.ofString "rr" == PySem.Str.ofString "gf") = false := by decide +kernel
@[simp] theorem ne_9_21 : (PySem.Str.ofString "rr" = PySem.Str.ofString "fr") = False := eq_false (by decide +kernel)
@[simp] theorem nb_9_21 : (PySem.Str.ofString "rr" == PySem.Str.ofString "fr") = false := by decide +kernel
@[simp] theorem ne_9_22 : (PySem.Str.ofString "rr" = PySem.Str.ofString "fw") = False := eq_false (by decide +kernel)
@[simp] theorem nb_9_22 : (PySem.Str.ofString "rr" == PySem.Str.ofString "fw") = false := by decide +kernel
@[simp] theorem ne_9_23 : (PySem.Str.ofString "rr" = PySem.Str.ofString "fg") = False := eq_false (by decide +kernel)
@[simp] theorem nb_9_23 : (PySem.Str.ofString "rr" == PySem.Str.ofString "fg") = false := by decide +kernel
@[simp] theorem ne_9_24 : (PySem.Str.ofString "rr" = PySem.Str.ofString "ff") = False := eq_false (by decide +kernel)
@[simp] theorem nb_9_24 : (PySem.Str.ofString "rr" == PySem.Str.ofString "ff") = false := by decide +kernel
@[simp] theorem ne_9_25 : (PySem.Str.ofString "rr" = PySem.Str.ofString "own") = False := eq_false (by decide +kernel)
@[simp] theorem nb_9_25 : (PySem.Str.ofString "rr" == PySem.Str.ofString "own") = false := by decide +kernel
@[simp] theorem ne_9_26 : (PySem.Str.ofString "rr" = PySem.Str.ofString "ss") = False := eq_false (by decide +kernel)
@[simp] theorem nb_9_26 : (PySem.Str.ofString "rr" == PySem.Str.ofString "ss") = false := by decide +kernel
@[simp] theorem ne_9_27 : (PySem.Str.ofString "rr" = PySem.Str.ofString "core") = False := eq_false (by decide +kernel)
@[simp] theorem nb_9_27 : (PySem.Str.ofString "rr" == PySem.Str.ofString "core") = false := by decide +kernel
@[simp] theorem ne_9_28 : (PySem.Str.ofString "rr" = PySem.Str.ofString "place") = False := eq_false (by decide +kernel)
@[simp] theorem nb_9_28 : (PySem.Str.ofString "rr" == PySem.Str.ofString "place") = false := by decide +kernel
@[simp] theorem ne_9_29 : (PySem.Str.ofString "rr" = PySem.Str.ofString "design") = False := eq_false (by decide +kernel)
@[simp] theorem nb_9_29 : (PySem.Str.ofString "rr" == PySem.Str.ofString "design") = false := by decide +kernel
@[simp] theorem ne_9_30 : (PySem.Str.ofString "rr" = PySem.Str.ofString "") = False := eq_false (by decide +kernel)
@[simp] theorem nb_9_30 : (PySem.Str.ofString "rr" == PySem.Str.ofString "") = false := by decide +kernel
@[simp] theorem ne_9_31 : (PySem.Str.ofString "rr" = PySem.Str.ofString "xx") = False := eq_false (by decide +kernel)
@[simp] theorem nb_9_31 : (PySem.Str.ofString "rr" == PySem.Str.ofString "xx") = false := by decide +kernel
@[simp] theorem ok_10 : PyData.strOk (PySem.Str.ofString "rw") = true := by decide +kernel
@[simp] theorem len_10 : (PySem.Str.ofString "rw").length = 2 := by decide +kernel
@[simp] theorem ne_10_0 : (PySem.Str.ofString "rw" = PySem.Str.ofString "read") = False := eq_false (by decide +kernel)
@[simp] theorem nb_10_0 : (PySem.Str.ofString "rw" == PySem.Str.ofString "read") = false := by decide +kernel
@[simp] theorem ne_10_1 : (PySem.Str.ofString "rw" = PySem.Str.ofString "write") = False := eq_false (by decide +kernel)
@[simp] theorem nb_10_1 : (PySem.Str.ofString "rw" == PySem.Str.ofString "write") = false := by decide +kernel
@[simp] theorem ne_10_2 : (PySem.Str.ofString "rw" = PySem.Str.ofString "copy") = False := eq_false (by decide +kernel)
@[simp] theorem nb_10_2 : (PySem.Str.ofString "rw" == PySem.Str.ofString "copy") = false := by decide +kernel
@[simp] theorem ne_10_3 : (PySem.Str.ofString "rw" = PySem.Str.ofString "fence") = False := eq_false (by decide +kernel)
@[simp] theorem nb_10_3 : (PySem.Str.ofString "rw" == PySem.Str.ofString "fence") = false := by decide +kernel
@[simp] theorem ne_10_4 : (PySem.Str.ofString "rw" = PySem.Str.ofString "guard") = False := eq_false (by decide +kernel)
@[simp] theorem nb_10_4 : (PySem.Str.ofString "rw" == PySem.Str.ofString "guard") = false := by decide +kernel
@[simp] theorem ne_10_5 : (PySem.Str.ofString "rw" = PySem.Str.ofString "r") = False := eq_false (by decide +kernel)
@[simp] theorem nb_10_5 : (PySem.Str.ofString "rw" == PySem.Str.ofString "r") = false := by decide +kernel
@[simp] theorem ne_10_6 : (PySem.Str.ofString "rw" = PySem.Str.ofString "w") = False := eq_false (by decide +kernel)
@[simp] theorem nb_10_6 : (PySem.Str.ofString "rw" == PySem.Str.ofString "w") = false := by decide +kernel
@[simp] theorem ne_10_7 : (PySem.Str.ofString "rw" = PySem.Str.ofString "g") = False := eq_false (by decide +kernel)
@[simp] theorem nb_10_7 : (PySem.Str.ofString "rw" == PySem.Str.ofString "g") = false := by decide +kernel
@[simp] theorem ne_10_8 : (PySem.Str.ofString "rw" = PySem.Str.ofString "f") = False := eq_false (by decide +kernel)
@[simp] theorem nb_10_8 : (PySem.Str.ofString "rw" == PySem.Str.ofString "f") = false := by decide +kernel
@[simp] theorem ne_10_9 : (PySem.Str.ofString "rw" = PySem.Str.ofString "rr") = False := eq_false (by decide +kernel)
@[simp] theorem nb_10_9 : (PySem.Str.ofString "rw" == PySem.Str.ofString "rr") = false := by decide +kernel
@[simp] theorem ne_10_11 : (PySem.Str.ofString "rw" = PySem.Str.ofString "rg") = False := eq_false (by decide +kernel)
@[simp] theorem nb_10_11 : (PySem.Str.ofString "rw" == PySem.Str.ofString "rg") = false := by decide +kernel
@[simp] theorem ne_10_12 : (PySem.Str.ofString "rw" = PySem.Str.ofString "rf") = False := eq_false (by decide +kernel)
@[simp] theorem nb_10_12 : (PySem.Str.ofString "rw" == PySem.Str.ofString "rf") = false := by decide +kernel
@[simp] theorem ne_10_13 : (PySem.Str.ofString "rw" = PySem.Str.ofString "wr") = False := eq_false (by decide +kernel)
@[simp] theorem nb_10_13 : (PySem.Str.ofString "rw" == PySem.Str.ofString "wr") = false := by decide +kernel
@[simp] theorem ne_10_14 : (PySem.Str.ofString "rw" = PySem.Str.ofString "ww") = False := eq_false (by decide +kernel)
@[simp] theorem nb_10_14 : (PySem.Str.ofString "rw" == PySem.Str.ofString "ww") = false := by decide +kernel
@[simp] theorem ne_10_15 : (PySem.Str.ofString "rw" = PySem.Str.ofString "wg") = False := eq_false (by decide +kernel)
@[simp] theorem nb_10_15 : (PySem.Str.ofString "rw" == PySem.Str.ofString "wg") = false := by decide +kernel
@[simp] theorem ne_10_16 : (PySem.Str.ofString "rw" = PySem.Str.ofString "wf") = False := eq_false (by decide +kernel)
@[simp] theorem nb_10_16 : (PySem.Str.ofString "rw" == PySem.Str.ofString "wf") = false := by decide +kernel
@[simp] theorem ne_10_17 : (PySem.Str.ofString "rw" = PySem.Str.ofString "gr") = False := eq_false (by decide +kernel)
@[simp] theorem nb_10_17 : (PySem.Str.ofString "rw" == PySem.Str.ofString "gr") = false := by decide +kernel
@[simp] theorem ne_10_18 : (PySem.Str.ofString "rw" = PySem.Str.ofString "gw") = False := eq_false (by decide +kernel)
@[simp] theorem nb_10_18 : (PySem.Str.ofString "rw" == PySem.Str.ofString "gw") = false := by decide +kernel
@[simp] theorem ne_10_19 : (PySem.Str.ofString "rw" = PySem.Str.ofString "gg") = False := eq_false (by decide +kernel)
@[simp] theorem nb_10_19 : (PySem.Str.ofString "rw" == PySem.Str.ofString "gg") = false := by decide +kernel
@[simp] theorem ne_10_20 : (PySem.Str.ofString "rw" = PySem.Str.ofString "gf") = False := eq_false (by decide +kernel)
@[simp] theorem nb_10_20 : (PySem.Str.ofString "rw" == PySem.Str.ofString "gf") = false := by decide +kernel
@[simp] theorem ne_10_21 : (PySem.Str.ofString "rw" = PySem.Str.ofString "fr") = False := eq_false (by decide +kernel)
@[simp] theorem nb_10_21 : (PySem.Str.ofString "rw" == PySem.Str.ofString "fr") = false := by decide +kernel
@[simp] theorem ne_10_22 : (PySem.Str.ofString "rw" = PySem.Str.ofString "fw") = False := eq_false (by decide +kernel)
@[simp] theorem nb_10_22 : (PySem.Str.ofString "rw" == PySem.Str.ofString "fw") = false := by decide +kernel
@[simp] theorem ne_10_23 : (PySem.Str.ofString "rw" = PySem.Str.ofString "fg") = False := eq_false (by decide +kernel)
@[simp] theorem nb_10_23 : (PySem.Str.ofString "rw" == PySem.Str.ofString "fg") = false := by decide +kernel
@[simp] theorem ne_10_24 : (PySem.Str.ofString "rw" = PySem.Str.ofString "ff") = False := eq_false (by decide +kernel)
@[simp] theorem nb_10_24 : (PySem.Str.ofString "rw" == PySem.Str.ofString "ff") = false := by decide +kernel
@[simp] theorem ne_10_25 : (PySem.Str.ofString "rw" = PySem.Str.ofString "own") = False := eq_false (by decide +kernel)
@[simp] theorem nb_10_25 : (PySem.Str.ofString "rw" == PySem.Str.ofString "own") = false := by decide +kernel
@[simp] theorem ne_10_26 : (PySem.Str.ofString "rw" = PySem.Str.ofString "ss") = False := eq_false (by decide +kernel)
@[simp] theorem nb_10_26 : (PySem.Str.ofString "rw" == PySem.Str.ofString "ss") = false := by decide +kernel
@[simp] theorem ne_10_27 : (PySem.Str.ofString "rw" = PySem.Str.ofString "core") = False := eq_false (by decide +kernel)
@[simp] theorem nb_10_27 : (PySem.Str.ofString "rw" == PySem.Str.ofString "core") = false := by decide +kernel
@[simp] theorem ne_10_28 : (PySem.Str.ofString "rw" = PySem.Str.ofString "place") = False := eq_false (by decide +kernel)
@[simp] theorem nb_10_28 : (PySem.Str.ofString "rw" == PySem.Str.ofString "place") = false := by decide +kernel
@[simp] theorem ne_10_29 : (PySem.Str.ofString "rw" = PySem.Str.ofString "design") = False := eq_false (by decide +kernel)
@[simp] theorem nb_10_29 : (PySem.Str.ofString "rw" == PySem.Str.ofString "design") = false := by decide +kernel
@[simp] theorem ne_10_30 : (PySem.Str.ofString "rw" = PySem.Str.ofString "") = False := eq_false (by decide +kernel)
@[simp] theorem nb_10_30 : (PySem.Str.ofString "rw" == PySem.Str.ofString "") = false := by decide +kernel
@[simp] theorem ne_10_31 : (PySem.Str.ofString "rw" = PySem.Str.ofString "xx") = False := eq_false (by decide +kernel)
@[simp] theorem nb_10_31 : (PySem.Str.ofString "rw" == PySem.Str.ofString "xx") = false := by decide +kernel
@[simp] theorem ok_11 : PyData.strOk (PySem.Str.ofString "rg") = true := by decide +kernel
@[simp] theorem len_11 : (PySem.Str.ofString "rg").length = 2 := by decide +kernel
@[simp] theorem ne_11_0 : (PySem.Str.ofString "rg" = PySem.Str.ofString "read") = False := eq_false (by decide +kernel)
@[simp] theorem nb_11_0 : (PySem.Str.ofString "rg" == PySem.Str.ofString "read") = false := by decide +kernel
@[simp] theorem ne_11_1 : (PySem.Str.ofString "rg" = PySem.Str.ofString "write") = False := eq_false (by decide +kernel)
@[simp] theorem nb_11_1 : (PySem.Str.ofString "rg" == PySem.Str.ofString "write") = false := by decide +kernel
@[simp] theorem ne_11_2 : (PySem.Str.ofString "rg" = PySem.Str.ofString "copy") = False := eq_false (by decide +kernel)
@[simp] theorem nb_11_2 : (PySem.Str.ofString "rg" == PySem.Str.ofString "copy") = false := by decide +kernel
@[simp] theorem ne_11_3 : (PySem.Str.ofString "rg" = PySem.Str.ofString "fence") = False := eq_false (by decide +kernel)
@[simp] theorem nb_11_3 : (PySem.Str.ofString "rg" == PySem.Str.ofString "fence") = false := by decide +kernel
@[simp] theorem ne_11_4 : (PySem.Str.ofString "rg" = PySem.Str.ofString "guard") = False := eq_false (by decide +kernel)
@[simp] theorem nb_11_4 : (PySem.Str.ofString "rg" == PySem.Str.ofString "guard") = false := by decide +kernel
@[simp] theorem ne_11_5 : (PySem.Str.ofString "rg" = PySem.Str.ofString "r") = False := eq_false (by decide +kernel)
@[simp] theorem nb_11_5 : (PySem.Str.ofString "rg" == PySem.Str.ofString "r") = false := by decide +kernel
@[simp] theorem ne_11_6 : (PySem.Str.ofString "rg" = PySem.Str.ofString "w") = False := eq_false (by decide +kernel)
@[simp] theorem nb_11_6 : (PySem.Str.ofString "rg" == PySem.Str.ofString "w") = false := by decide +kernel
@[simp] theorem ne_11_7 : (PySem.Str.ofString "rg" = PySem.Str.ofString "g") = False := eq_false (by decide +kernel)
@[simp] theorem nb_11_7 : (PySem.Str.ofString "rg" == PySem.Str.ofString "g") = false := by decide +kernel
@[simp] theorem ne_11_8 : (PySem.Str.ofString "rg" = PySem.Str.ofString "f") = False := eq_false (by decide +kernel)
@[simp] theorem nb_11_8 : (PySem.Str.ofString "rg" == PySem.Str.ofString "f") = false := by decide +kernel
@[simp] theorem ne_11_9 : (PySem.Str.ofString "rg" = PySem.Str.ofString "rr") = False := eq_false (by decide +kernel)
@[simp] theorem nb_11_9 : (PySem.Str.ofString "rg" == PySem.Str.ofString "rr") = false := by decide +kernel
@[simp] theorem ne_11_10 : (PySem.Str.ofString "rg" = PySem.Str.ofString "rw") = False := eq_false (by decide +kernel)
@[simp] theorem nb_11_10 : (PySem.Str.ofString "rg" == PySem.Str.ofString "rw") = false := by decide +kernel
@[simp] theorem ne_11_12 : (PySem.Str.ofString "rg" = PySem.Str.ofString "rf") = False := eq_false (by decide +kernel)
@[simp] theorem nb_11_12 : (PySem.Str.ofString "rg" == PySem.Str.ofString "rf") = false := by decide +kernel
@[simp] theorem ne_11_13 : (PySem.Str.ofString "rg" = PySem.Str.ofString "wr") = False := eq_false (by decide +kernel)
@[simp] theorem nb_11_13 : (PySem.Str.ofString "rg" == PySem.Str.ofString "wr") = false := by decide +kernel
@[simp] theorem ne_11_14 : (PySem.Str.ofString "rg" = PySem.Str.ofString "ww") = False := eq_false (by decide +kernel)
@[simp] theorem nb_11_14 : (PySem.Str.ofString "rg" == PySem.Str.ofString "ww") = false := by decide +kernel
@[simp] theorem ne_11_15 : (PySem.Str.ofString "rg" = PySem.Str.ofString "wg") = False := eq_false (by decide +kernel)
@[simp] theorem nb_11_15 : (PySem.Str.ofString "rg" == PySem.Str.ofString "wg") = false := by decide +kernel
@[simp] theorem ne_11_16 : (PySem.Str.ofString "rg" = PySem.Str.ofString "wf") = False := eq_false (by decide +kernel)
@[simp] theorem nb_11_16 : (PySem.Str.ofString "rg" == PySem.Str.ofString "wf") = false := by decide +kernel
@[simp] theorem ne_11_17 : (PySem.Str.ofString "rg" = PySem.Str.ofString "gr") = False := eq_false (by decide +kernel)
@[simp] theorem nb_11_17 : (PySem.Str.ofString "rg" == PySem.Str.ofString "gr") = false := by decide +kernel
@[simp] theorem ne_11_18 : (PySem.Str.ofString "rg" = PySem.Str.ofString "gw") = False := eq_false (by decide +kernel)
@[simp] theorem nb_11_18 : (PySem.Str.ofString "rg" == PySem.Str.ofString "gw") = false := by decide +kernel
@[simp] theorem ne_11_19 : (PySem.Str.ofString "rg" = PySem.Str.ofString "gg") = False := eq_false (by decide +kernel)
@[simp] theorem nb_11_19 : (PySem.Str.ofString "rg" == PySem.Str.ofString "gg") = false := by decide +kernel
@[simp] theorem ne_11_20 : (PySem.Str.ofString "rg" = PySem.Str.ofString "gf") = False := eq_false (by decide +kernel)
@[simp] theorem nb_11_20 : (PySem.Str.ofString "rg" == PySem.Str.ofString "gf") = false := by decide +kernel
@[simp] theorem ne_11_21 : (PySem.Str.ofString "rg" = PySem.Str.ofString "fr") = False := eq_false (by decide +kernel)
@[simp] theorem nb_11_21 : (PySem.Str.ofString "rg" == PySem.Str.ofString "fr") = false := by decide +kernel
@[simp] theorem ne_11_22 : (PySem.Str.ofString "rg" = PySem.Str.ofString "fw") = False := eq_false (by decide +kernel)
@[simp] theorem nb_11_22 : (PySem.Str.ofString "rg" == PySem.Str.ofString "fw") = false := by decide +kernel
@[simp] theorem ne_11_23 : (PySem.Str.ofString "rg" = PySem.Str.ofString "fg") = False := eq_false (by decide +kernel)
@[simp] theorem nb_11_23 : (PySem.Str.ofString "rg" == PySem.Str.ofString "fg") = false := by decide +kernel
@[simp] theorem ne_11_24 : (PySem.Str.ofString "rg" = PySem.Str.ofString "ff") = False := eq_false (by decide +kernel)
@[simp] theorem nb_11_24 : (PySem.Str.ofString "rg" == PySem.Str.ofString "ff") = false := by decide +kernel
@[simp] theorem ne_11_25 : (PySem.Str.ofString "rg" = PySem.Str.ofString "own") = False := eq_false (by decide +kernel)
@[simp] theorem nb_11_25 : (PySem.Str.ofString "rg" == PySem.Str.ofString "own") = false := by decide +kernel
@[simp] theorem ne_11_26 : (PySem.Str.ofString "rg" = PySem.Str.ofString "ss") = False := eq_false (by decide +kernel)
@[simp] theorem nb_11_26 : (PySem.Str.ofString "rg" == PySem.Str.ofString "ss") = false := by decide +kernel
@[simp] theorem ne_11_27 : (PySem.Str.ofString "rg" = PySem.Str.ofString "core") = False := eq_false (by decide +kernel)
@[simp] theorem nb_11_27 : (PySem.Str.ofString "rg" == PySem.Str.ofString "core") = false := by decide +kernel
@[simp] theorem ne_11_28 : (PySem.Str.ofString "rg" = PySem.Str.ofString "place") = False := eq_false (by decide +kernel)
@[simp] theorem nb_11_28 : (PySem.Str.ofString "rg" == PySem.Str.ofString "place") = false := by decide +kernel
@[simp] theorem ne_11_29 : (PySem.Str.ofString "rg" = PySem.Str.ofString "design") = False := eq_false (by decide +kernel)
@[simp] theorem nb_11_29 : (PySem.Str.ofString "rg" == PySem.Str.ofString "design") = false := by decide +kernel
@[simp] theorem ne_11_30 : (PySem.Str.ofString "rg" = PySem.Str.ofString "") = False := eq_false (by decide +kernel)
@[simp] theorem nb_11_30 : (PySem.Str.ofString "rg" == PySem.Str.ofString "") = false := by decide +kernel
@[simp] theorem ne_11_31 : (PySem.Str.ofString "rg" = PySem.Str.ofString "xx") = False := eq_false (by decide +kernel)
@[simp] theorem nb_11_31 : (PySem.Str.ofString "rg" == PySem.Str.ofString "xx") = false := by decide +kernel
@[simp] theorem ok_12 : PyData.strOk (PySem.Str.ofString "rf") = true := by decide +kernel
@[simp] theorem len_12 : (PySem.Str.ofString "rf").length = 2 := by decide +kernel
@[simp] theorem ne_12_0 : (PySem.Str.ofString "rf" = PySem.Str.ofString "read") = False := eq_false (by decide +kernel)
@[simp] theorem nb_12_0 : (PySem.Str.ofString "rf" == PySem.Str.ofString "read") = false := by decide +kernel
@[simp] theorem ne_12_1 : (PySem.Str.ofString "rf" = PySem.Str.ofString "write") = False := eq_false (by decide +kernel)
@[simp] theorem nb_12_1 : (PySem.Str.ofString "rf" == PySem.Str.ofString "write") = false := by decide +kernel
@[simp] theorem ne_12_2 : (PySem.Str.ofString "rf" = PySem.Str.ofString "copy") = False := eq_false (by decide +kernel)
@[simp] theorem nb_12_2 : (PySem.Str.ofString "rf" == PySem.Str.ofString "copy") = false := by decide +kernel
@[simp] theorem ne_12_3 : (PySem.Str.ofString "rf" = PySem.Str.ofString "fence") = False := eq_false (by decide +kernel)
@[simp] theorem nb_12_3 : (PySem.Str.ofString "rf" == PySem.Str.ofString "fence") = false := by decide +kernel
@[simp] theorem ne_12_4 : (PySem.Str.ofString "rf" = PySem.Str.ofString "guard") = False := eq_false (by decide +kernel)
@[simp] theorem nb_12_4 : (PySem.Str.ofString "rf" == PySem.Str.ofString "guard") = false := by decide +kernel
@[simp] theorem ne_12_5 : (PySem.Str.ofString "rf" = PySem.Str.ofString "r") = False := eq_false (by decide +kernel)
@[simp] theorem nb_12_5 : (PySem.Str.ofString "rf" == PySem.Str.ofString "r") = false := by decide +kernel
@[simp] theorem ne_12_6 : (PySem.Str.ofString "rf" = PySem.Str.ofString "w") = False := eq_false (by decide +kernel)
@[simp] theorem nb_12_6 : (PySem.Str.ofString "rf" == PySem.Str.ofString "w") = false := by decide +kernel
@[simp] theorem ne_12_7 : (PySem.Str.ofString "rf" = PySem.Str.ofString "g") = False := eq_false (by decide +kernel)
@[simp] theorem nb_12_7 : (PySem.Str.ofString "rf" == PySem.Str.ofString "g") = false := by decide +kernel
@[simp] theorem ne_12_8 : (PySem.Str.ofString "rf" = PySem.Str.ofString "f") = False := eq_false (by decide +kernel)
@[simp] theorem nb_12_8 : (PySem.Str.ofString "rf" == PySem.Str.ofString "f") = false := by decide +kernel
@[simp] theorem ne_12_9 : (PySem.Str.ofString "rf" = PySem.Str.ofString "rr") = False := eq_false (by decide +kernel)
@[simp] theorem nb_12_9 : (PySem.Str.ofString "rf" == PySem.Str.ofString "rr") = false := by decide +kernel
@[simp] theorem ne_12_10 : (PySem.Str.ofString "rf" = PySem.Str.ofString "rw") = False := eq_false (by decide +kernel)
@[simp] theorem nb_12_10 : (PySem.Str.ofString "rf" == PySem.Str.ofString "rw") = false := by decide +kernel
@[simp] theorem ne_12_11 : (PySem.Str.ofString "rf" = PySem.Str.ofString "rg") = False := eq_false (by decide +kernel)
@[simp] theorem nb_12_11 : (PySem.Str.ofString "rf" == PySem.Str.ofString "rg") = false := by decide +kernel
@[simp] theorem ne_12_13 : (PySem.Str.ofString "rf" = PySem.Str.ofString "wr") = False := eq_false (by decide +kernel)
@[simp] theorem nb_12_13 : (PySem.Str.ofString "rf" == PySem.Str.ofString "wr") = false := by decide +kernel
@[simp] theorem ne_12_14 : (PySem.Str.ofString "rf" = PySem.Str.ofString "ww") = False := eq_false (by decide +kernel)
@[simp] theorem nb_12_14 : (PySem.Str.ofString "rf" == PySem.Str.ofString "ww") = false := by decide +kernel
@[simp] theorem ne_12_15 : (PySem.Str.ofString "rf" = PySem.Str.ofString "wg") = False := eq_false (by decide +kernel)
@[simp] theorem nb_12_15 : (PySem.Str.ofString "rf" == PySem.Str.ofString "wg") = false := by decide +kernel
@[simp] theorem ne_12_16 : (PySem.Str.ofString "rf" = PySem.Str.ofString "wf") = False := eq_false (by decide +kernel)
@[simp] theorem nb_12_16 : (PySem.Str.ofString "rf" == PySem.Str.ofString "wf") = false := by decide +kernel
@[simp] theorem ne_12_17 : (PySem.Str.ofString "rf" = PySem.Str.ofString "gr") = False := eq_false (by decide +kernel)
@[simp] theorem nb_12_17 : (PySem.Str.ofString "rf" == PySem.Str.ofString "gr") = false := by decide +kernel
@[simp] theorem ne_12_18 : (PySem.Str.ofString "rf" = PySem.Str.ofString "gw") = False := eq_false (by decide +kernel)
@[simp] theorem nb_12_18 : (PySem.Str.ofString "rf" == PySem.Str.ofString "gw") = false := by decide +kernel
@[simp] theorem ne_12_19 : (PySem.Str.ofString "rf" = PySem.Str.ofString "gg") = False := eq_false (by decide +kernel)
@[simp] theorem nb_12_19 : (PySem.Str.ofString "rf" == PySem.Str.ofString "gg") = false := by decide +kernel
@[simp] theorem ne_12_20 : (PySem.Str.ofString "rf" = PySem.Str.ofString "gf") = False := eq_false (by decide +kernel)
@[simp] theorem nb_12_20 : (PySem.Str.ofString "rf" == PySem.Str.ofString "gf") = false := by decide +kernel
@[simp] theorem ne_12_21 : (PySem.Str.ofString "rf" = PySem.Str.ofString "fr") = False := eq_false (by decide +kernel)
@[simp] theorem nb_12_21 : (PySem.Str.ofString "rf" == PySem.Str.ofString "fr") = false := by decide +kernel
@[simp] theorem ne_12_22 : (PySem.Str.ofString "rf" = PySem.Str.ofString "fw") = False := eq_false (by decide +kernel)
@[simp] theorem nb_12_22 : (PySem.Str.ofString "rf" == PySem.Str.ofString "fw") = false := by decide +kernel
@[simp] theorem ne_12_23 : (PySem.Str.ofString "rf" = PySem.Str.ofString "fg") = False := eq_false (by decide +kernel)
@[simp] theorem nb_12_23 : (PySem.Str.ofString "rf" == PySem.Str.ofString "fg") = false := by decide +kernel
@[simp] theorem ne_12_24 : (PySem.Str.ofString "rf" = PySem.Str.ofString "ff") = False := eq_false (by decide +kernel)
@[simp] theorem nb_12_24 : (PySem.Str.ofString "rf" == PySem.Str.ofString "ff") = false := by decide +kernel
@[simp] theorem ne_12_25 : (PySem.Str.ofString "rf" = PySem.Str.ofString "own") = False := eq_false (by decide +kernel)
@[simp] theorem nb_12_25 : (PySem.Str.ofString "rf" == PySem.Str.ofString "own") = false := by decide +kernel
@[simp] theorem ne_12_26 : (PySem.Str.ofString "rf" = PySem.Str.ofString "ss") = False := eq_false (by decide +kernel)
@[simp] theorem nb_12_26 : (PySem.Str.ofString "rf" == PySem.Str.ofString "ss") = false := by decide +kernel
@[simp] theorem ne_12_27 : (PySem.Str.ofString "rf" = PySem.Str.ofString "core") = False := eq_false (by decide +kernel)
@[simp] theorem nb_12_27 : (PySem.Str.ofString "rf" == PySem.Str.ofString "core") = false := by decide +kernel
@[simp] theorem ne_12_28 : (PySem.Str.ofString "rf" = PySem.Str.ofString "place") = False := eq_false (by decide +kernel)
@[simp] theorem nb_12_28 : (PySem.Str.ofString "rf" == PySem.Str.ofString "place") = false := by decide +kernel
@[simp] theorem ne_12_29 : (PySem.Str.ofString "rf" = PySem.Str.ofString "design") = False := eq_false (by decide +kernel)
@[simp] theorem nb_12_29 : (PySem.Str.ofString "rf" == PySem.Str.ofString "design") = false := by decide +kernel
@[simp] theorem ne_12_30 : (PySem.Str.ofString "rf" = PySem.Str.ofString "") = False := eq_false (by decide +kernel)
@[simp] theorem nb_12_30 : (PySem.Str.ofString "rf" == PySem.Str.ofString "") = false := by decide +kernel
@[simp] theorem ne_12_31 : (PySem.Str.ofString "rf" = PySem.Str.ofString "xx") = False := eq_false (by decide +kernel)
@[simp] theorem nb_12_31 : (PySem.Str.ofString "rf" == PySem.Str.ofString "xx") = false := by decide +kernel
@[simp] theorem ok_13 : PyData.strOk (PySem.Str.ofString "wr") = true := by decide +kernel
@[simp] theorem len_13 : (PySem.Str.ofString "wr").length = 2 := by decide +kernel
@[simp] theorem ne_13_0 : (PySem.Str.ofString "wr" = PySem.Str.ofString "read") = False := eq_false (by decide +kernel)
@[simp] theorem nb_13_0 : (PySem.Str.ofString "wr" == PySem.Str.ofString "read") = false := by decide +kernel
@[simp] theorem ne_13_1 : (PySem.Str.ofString "wr" = PySem.Str.ofString "write") = False := eq_false (by decide +kernel)
@[simp] theorem nb_13_1 : (PySem.Str.ofString "wr" == PySem.Str.ofString "write") = false := by decide +kernel
@[simp] theorem ne_13_2 : (PySem.Str.ofString "wr" = PySem.Str.ofString "copy") = False := eq_false (by decide +kernel)
@[simp] theorem nb_13_2 : (PySem.Str.ofString "wr" == PySem.Str.ofString "copy") = false := by decide +kernel
@[simp] theorem ne_13_3 : (PySem.Str.ofString "wr" = PySem.Str.ofString "fence") = False := eq_false (by decide +kernel)
@[simp] theorem nb_13_3 : (PySem.Str.ofString "wr" == PySem.Str.ofString "fence") = false := by decide +kernel
@[simp] theorem ne_13_4 : (PySem.Str.ofString "wr" = PySem.Str.ofString "guard") = False := eq_false (by decide +kernel)
@[simp] theorem nb_13_4 : (PySem.Str.ofString "wr" == PySem.Str.ofString "guard") = false := by decide +kernel
@[simp] theorem ne_13_5 : (PySem.Str.ofString "wr" = PySem.Str.ofString "r") = False := eq_false (by decide +kernel)
@[simp] theorem nb_13_5 : (PySem.Str.ofString "wr" == PySem.Str.ofString "r") = false := by decide +kernel
@[simp] theorem ne_13_6 : (PySem.Str.ofString "wr" = PySem.Str.ofString "w") = False := eq_false (by decide +kernel)
@[simp] theorem nb_13_6 : (PySem.Str.ofString "wr" == PySem.Str.ofString "w") = false := by decide +kernel
@[simp] theorem ne_13_7 : (PySem.Str.ofString "wr" = PySem.Str.ofString "g") = False := eq_false (by decide +kernel)
@[simp] theorem nb_13_7 : (PySem.Str.ofString "wr" == PySem.Str.ofString "g") = false := by decide +kernel
@[simp] theorem ne_13_8 : (PySem.Str.ofString "wr" = PySem.Str.ofString "f") = False := eq_false (by decide +kernel)
@[simp] theorem nb_13_8 : (PySem.Str.ofString "wr" == PySem.Str.ofString "f") = false := by decide +kernel
@[simp] theorem ne_13_9 : (PySem.Str.ofString "wr" = PySem.Str.ofString "rr") = False := eq_false (by decide +kernel)
@[simp] theorem nb_13_9 : (PySem.Str.ofString "wr" == PySem.Str.ofString "rr") = false := by decide +kernel
@[simp] theorem ne_13_10 : (PySem.Str.ofString "wr" = PySem.Str.ofString "rw") = False := eq_false (by decide +kernel)
@[simp] theorem nb_13_10 : (PySem.Str.ofString "wr" == PySem.Str.ofString "rw") = false := by decide +kernel
@[simp] theorem ne_13_11 : (PySem.Str.ofString "wr" = PySem.Str.ofString "rg") = False := eq_false (by decide +kernel)
@[simp] theorem nb_13_11 : (PySem.Str.ofString "wr" == PySem.Str.ofString "rg") = false := by decide +kernel
@[simp] theorem ne_13_12 : (PySem.Str.ofString "wr" = PySem.Str.ofString "rf") = False := eq_false (by decide +kernel)
@[simp] theorem nb_13_12 : (PySem.Str.ofString "wr" == PySem.Str.ofString "rf") = false := by decide +kernel
@[simp] theorem ne_13_14 : (PySem.Str.ofString "wr" = PySem.Str.ofString "ww") = False := eq_false (by decide +kernel)
@[simp] theorem nb_13_14 : (PySem.Str.ofString "wr" == PySem.Str.ofString "ww") = false := by decide +kernel
@[simp] theorem ne_13_15 : (PySem.Str.ofString "wr" = PySem.Str.ofString "wg") = False := eq_false (by decide +kernel)
@[simp] theorem nb_13_15 : (PySem.Str.ofString "wr" == PySem.Str.ofString "wg") = false := by decide +kernel
@[simp] theorem ne_13_16 : (PySem.Str.ofString "wr" = PySem.Str.ofString "wf") = False := eq_false (by decide +kernel)
@[simp] theorem nb_13_16 : (PySem.Str.ofString "wr" == PySem.Str.ofString "wf") = false := by decide +kernel
@[simp] theorem ne_13_17 : (PySem.Str.ofString "wr" = PySem.Str.ofString "gr") = False := eq_false (by decide +kernel)
@[simp] theorem nb_13_17 : (PySem.Str.ofString "wr" == PySem.Str.ofString "gr") = false := by decide +kernel
@[simp] theorem ne_13_18 : (PySem.Str.ofString "wr" = PySem.Str.ofString "gw") = False := eq_false (by decide +kernel)
@[simp] theorem nb_13_18 : (PySem.Str.ofString "wr" == PySem.Str.ofString "gw") = false := by decide +kernel
@[simp] theorem ne_13_19 : (PySem.Str.ofString "wr" = PySem.Str.ofString "gg") = False := eq_false (by decide +kernel)
@[simp] theorem nb_13_19 : (PySem.Str.ofString "wr" == PySem.Str.ofString "gg") = false := by decide +kernel
@[simp] theorem ne_13_20 : (PySem.Str.ofString "wr" = PySem.Str.ofString "gf") = False := eq_false (by decide +kernel)
@[simp] theorem nb_13_20 : (PySem.Str.ofString "wr" == PySem.Str.ofString "gf") = false := by decide +kernel
@[simp] theorem ne_13_21 : (PySem.Str.ofString "wr" = PySem.Str.ofString "fr") = False := eq_false (by decide +kernel)
@[simp] theorem nb_13_21 : (PySem.Str.ofString "wr" == PySem.Str.ofString "fr") = false := by decide +kernel
@[simp] theorem ne_13_22 : (PySem.Str.ofString "wr" = PySem.Str.ofString "fw") = False := eq_false (by decide +kernel)
@[simp] theorem nb_13_22 : (PySem.Str.ofString "wr" == PySem.Str.ofString "fw") = false := by decide +kernel
@[simp] theorem ne_13_23 : (PySem.Str.ofString "wr" = PySem.Str.ofString "fg") = False := eq_false (by decide +kernel)
@[simp] theorem nb_13_23 : (PySem.Str.ofString "wr" == PySem.Str.ofString "fg") = false := by decide +kernel
@[simp] theorem ne_13_24 : (PySem.Str.ofString "wr" = PySem.Str.ofString "ff") = False := eq_false (by decide +kernel)
@[simp] theorem nb_13_24 : (PySem.Str.ofString "wr" == PySem.Str.ofString "ff") = false := by decide +kernel
@[simp] theorem ne_13_25 : (PySem.Str.ofString "wr" = PySem.Str.ofString "own") = False := eq_false (by decide +kernel)
@[simp] theorem nb_13_25 : (PySem.Str.ofString "wr" == PySem.Str.ofString "own") = false := by decide +kernel
@[simp] theorem ne_13_26 : (PySem.Str.ofString "wr" = PySem.Str.ofString "ss") = False := eq_false (by decide +kernel)
@[simp] theorem nb_13_26 : (PySem.Str.ofString "wr" == PySem.Str.ofString "ss") = false := by decide +kernel
@[simp] theorem ne_13_27 : (PySem.Str.ofString "wr" = PySem.Str.ofString "core") = False := eq_false (by decide +kernel)
@[simp] theorem nb_13_27 : (PySem.Str.ofString "wr" == PySem.Str.ofString "core") = false := by decide +kernel
@[simp] theorem ne_13_28 : (PySem.Str.ofString "wr" = PySem.Str.ofString "place") = False := eq_false (by decide +kernel)
@[simp] theorem nb_13_28 : (PySem.Str.ofString "wr" == PySem.Str.ofString "place") = false := by decide +kernel
@[simp] theorem ne_13_29 : (PySem.Str.ofString "wr" = PySem.Str.ofString "design") = False := eq_false (by decide +kernel)
@[simp] theorem nb_13_29 : (PySem.Str.ofString "wr" == PySem.Str.ofString "design") = false := by decide +kernel
@[simp] theorem ne_13_30 : (PySem.Str.ofString "wr" = PySem.Str.ofString "") = False := eq_false (by decide +kernel)
@[simp] theorem nb_13_30 : (PySem.Str.ofString "wr" == PySem.Str.ofString "") = false := by decide +kernel
@[simp] theorem ne_13_31 : (PySem.Str.ofString "wr" = PySem.Str.ofString "xx") = False := eq_false (by decide +kernel)
@[simp] theorem nb_13_31 : (PySem.Str.ofString "wr" == PySem.Str.ofString "xx") = false := by decide +kernel
@[simp] theorem ok_14 : PyData.strOk (PySem.Str.ofString "ww") = true := by decide +kernel
@[simp] theorem len_14 : (PySem.Str.ofString "ww").length = 2 := by decide +kernel
@[simp] theorem ne_14_0 : (PySem.Str.ofString "ww" = PySem.Str.ofString "read") = False := eq_false (by decide +kernel)
@[simp] theorem nb_14_0 : (PySem.Str.ofString "ww" == PySem.Str.ofString "read") = false := by decide +kernel
@[simp] theorem ne_14_1 : (PySem.Str.ofString "ww" = PySem.Str.ofString "write") = False := eq_false (by decide +kernel)
@[simp] theorem nb_14_1 : (PySem.Str.ofString "ww" == PySem.Str.ofString "write") = false := by decide +kernel
@[simp] theorem ne_14_2 : (PySem.Str.ofString "ww" = PySem.Str.ofString "copy") = False := eq_false (by decide +kernel)
@[simp] theorem nb_14_2 : (PySem.Str.ofString "ww" == PySem.Str.ofString "copy") = false := by decide +kernel
@[simp] theorem ne_14_3 : (PySem.Str.ofString "ww" = PySem.Str.ofString "fence") = False := eq_false (by decide +kernel)
@[simp] theorem nb_14_3 : (PySem.Str.ofString "ww" == PySem.Str.ofString "fence") = false := by decide +kernel
@[simp] theorem ne_14_4 : (PySem.Str.ofString "ww" = PySem.Str.ofString "guard") = False := eq_false (by decide +kernel)
@[simp] theorem nb_14_4 : (PySem.Str.ofString "ww" == PySem.Str.ofString "guard") = false := by decide +kernel
@[simp] theorem ne_14_5 : (PySem.Str.ofString "ww" = PySem.Str.ofString "r") = False := eq_false (by decide +kernel)
@[simp] theorem nb_14_5 : (PySem.Str.ofString "ww" == PySem.Str.ofString "r") = false := by decide +kernel
@[simp] theorem ne_14_6 : (PySem.Str.ofString "ww" = PySem.Str.ofString "w") = False := eq_false (by decide +kernel)
@[simp] theorem nb_14_6 : (PySem.Str.ofString "ww" == PySem.Str.ofString "w") = false := by decide +kernel
@[simp] theorem ne_14_7 : (PySem.Str.ofString "ww" = PySem.Str.ofString "g") = False := eq_false (by decide +kernel)
@[simp] theorem nb_14_7 : (PySem.Str.ofString "ww" == PySem.Str.ofString "g") = false := by decide +kernel
@[simp] theorem ne_14_8 : (PySem.Str.ofString "ww" = PySem.Str.ofString "f") = False := eq_false (by decide +kernel)
@[simp] theorem nb_14_8 : (PySem.Str.ofString "ww" == PySem.Str.ofString "f") = false := by decide +kernel
@[simp] theorem ne_14_9 : (PySem.Str.ofString "ww" = PySem.Str.ofString "rr") = False := eq_false (by decide +kernel)
@[simp] theorem nb_14_9 : (PySem.Str.ofString "ww" == PySem.Str.ofString "rr") = false := by decide +kernel
@[simp] theorem ne_14_10 : (PySem.Str.ofString "ww" = PySem.Str.ofString "rw") = False := eq_false (by decide +kernel)
@[simp] theorem nb_14_10 : (PySem.Str.ofString "ww" == PySem.Str.ofString "rw") = false := by decide +kernel
@[simp] theorem ne_14_11 : (PySem.Str.ofString "ww" = PySem.Str.ofString "rg") = False := eq_false (by decide +kernel)
@[simp] theorem nb_14_11 : (PySem.Str.ofString "ww" == PySem.Str.ofString "rg") = false := by decide +kernel
@[simp] theorem ne_14_12 : (PySem.Str.ofString "ww" = PySem.Str.ofString "rf") = False := eq_false (by decide +kernel)
@[simp] theorem nb_14_12 : (PySem.Str.ofString "ww" == PySem.Str.ofString "rf") = false := by decide +kernel
@[simp] theorem ne_14_13 : (PySem.Str.ofString "ww" = PySem.Str.ofString "wr") = False := eq_false (by decide +kernel)
@[simp] theorem nb_14_13 : (PySem.Str.ofString "ww" == PySem.Str.ofString "wr") = false := by decide +kernel
@[simp] theorem ne_14_15 : (PySem.Str.ofString "ww" = PySem.Str.ofString "wg") = False := eq_false (by decide +kernel)
@[simp] theorem nb_14_15 : (PySem.Str.ofString "ww" == PySem.Str.ofString "wg") = false := by decide +kernel
@[simp] theorem ne_14_16 : (PySem.Str.ofString "ww" = PySem.Str.ofString "wf") = False := eq_false (by decide +kernel)
@[simp] theorem nb_14_16 : (PySem.Str.ofString "ww" == PySem.Str.ofString "wf") = false := by decide +kernel
@[simp] theorem ne_14_17 : (PySem.Str.ofString "ww" = PySem.Str.ofString "gr") = False := eq_false (by decide +kernel)
@[simp] theorem nb_14_17 : (PySem.Str.ofString "ww" == PySem.Str.ofString "gr") = false := by decide +kernel
@[simp] theorem ne_14_18 : (PySem.Str.ofString "ww" = PySem.Str.ofString "gw") = False := eq_false (by decide +kernel)
@[simp] theorem nb_14_18 : (PySem.Str.ofString "ww" == PySem.Str.ofString "gw") = false := by decide +kernel
@[simp] theorem ne_14_19 : (PySem.Str.ofString "ww" = PySem.Str.ofString "gg") = False := eq_false (by decide +kernel)
@[simp] theorem nb_14_19 : (PySem.Str.ofString "ww" == PySem.Str.ofString "gg") = false := by decide +kernel
@[simp] theorem ne_14_20 : (PySem.Str.ofString "ww" = PySem.Str.ofString "gf") = False := eq_false (by decide +kernel)
@[simp] theorem nb_14_20 : (PySem.Str.ofString "ww" == PySem.Str.ofString "gf") = false := by decide +kernel
@[simp] theorem ne_14_21 : (PySem.Str.ofString "ww" = PySem.Str.ofString "fr") = False := eq_false (by decide +kernel)
@[simp] theorem nb_14_21 : (PySem.Str.ofString "ww" == PySem.Str.ofString "fr") = false := by decide +kernel
@[simp] theorem ne_14_22 : (PySem.Str.ofString "ww" = PySem.Str.ofString "fw") = False := eq_false (by decide +kernel)
@[simp] theorem nb_14_22 : (PySem.Str.ofString "ww" == PySem.Str.ofString "fw") = false := by decide +kernel
@[simp] theorem ne_14_23 : (PySem.Str.ofString "ww" = PySem.Str.ofString "fg") = False := eq_false (by decide +kernel)
@[simp] theorem nb_14_23 : (PySem.Str.ofString "ww" == PySem.Str.ofString "fg") = false := by decide +kernel
@[simp] theorem ne_14_24 : (PySem.Str.ofString "ww" = PySem.Str.ofString "ff") = False := eq_false (by decide +kernel)
@[simp] theorem nb_14_24 : (PySem.Str.ofString "ww" == PySem.Str.ofString "ff") = false := by decide +kernel
@[simp] theorem ne_14_25 : (PySem.Str.ofString "ww" = PySem.Str.ofString "own") = False := eq_false (by decide +kernel)
@[simp] theorem nb_14_25 : (PySem.Str.ofString "ww" == PySem.Str.ofString "own") = false := by decide +kernel
@[simp] theorem ne_14_26 : (PySem.Str.ofString "ww" = PySem.Str.ofString "ss") = False := eq_false (by decide +kernel)
@[simp] theorem nb_14_26 : (PySem.Str.ofString "ww" == PySem.Str.ofString "ss") = false := by decide +kernel
@[simp] theorem ne_14_27 : (PySem.Str.ofString "ww" = PySem.Str.ofString "core") = False := eq_false (by decide +kernel)
@[simp] theorem nb_14_27 : (PySem.Str.ofString "ww" == PySem.Str.ofString "core") = false := by decide +kernel
@[simp] theorem ne_14_28 : (PySem.Str.ofString "ww" = PySem.Str.ofString "place") = False := eq_false (by decide +kernel)
@[simp] theorem nb_14_28 : (PySem.Str.ofString "ww" == PySem.Str.ofString "place") = false := by decide +kernel
@[simp] theorem ne_14_29 : (PySem.Str.ofString "ww" = PySem.Str.ofString "design") = False := eq_false (by decide +kernel)
@[simp] theorem nb_14_29 : (PySem.Str.ofString "ww" == PySem.Str.ofString "design") = false := by decide +kernel
@[simp] theorem ne_14_30 : (PySem.Str.ofString "ww" = PySem.Str.ofString "") = False := eq_false (by decide +kernel)
@[simp] theorem nb_14_30 : (PySem.Str.ofString "ww" == PySem.Str.ofString "") = false := by decide +kernel
@[simp] theorem ne_14_31 : (PySem.Str.ofString "ww" = PySem.Str.ofString "xx") = False := eq_false (by decide +kernel)
@[simp] theorem nb_14_31 : (PySem.Str.ofString "ww" == PySem.Str.ofString "xx") = false := by decide +kernel
@[simp] theorem ok_15 : PyData.strOk (PySem.Str.ofString "wg") = true := by decide +kernel
@[simp] theorem len_15 : (PySem.Str.ofString "wg").length = 2 := by decide +kernel
@[simp] theorem ne_15_0 : (PySem.Str.ofString "wg" = PySem.Str.ofString "read") = False := eq_false (by decide +kernel)
@[simp] theorem nb_15_0 : (PySem.Str.ofString "wg" == PySem.Str.ofString "read") = false := by decide +kernel
@[simp] theorem ne_15_1 : (PySem.Str.ofString "wg" = PySem.Str.ofString "write") = False := eq_false (by decide +kernel)
@[simp] theorem nb_15_1 : (PySem.Str.ofString "wg" == PySem.Str.ofString "write") = false := by decide +kernel
@[simp] theorem ne_15_2 : (PySem.Str.ofString "wg" = PySem.Str.ofString "copy") = False := eq_false (by decide +kernel)
@[simp] theorem nb_15_2 : (PySem.Str.ofString "wg" == PySem.Str.ofString "copy") = false := by decide +kernel
@[simp] theorem ne_15_3 : (PySem.Str.ofString "wg" = PySem.Str.ofString "fence") = False := eq_false (by decide +kernel)
@[simp] theorem nb_15_3 : (PySem.Str.ofString "wg" == PySem.Str.ofString "fence") = false := by decide +kernel
@[simp] theorem ne_15_4 : (PySem.Str.ofString "wg" = PySem.Str.ofString "guard") = False := eq_false (by decide +kernel)
@[simp] theorem nb_15_4 : (PySem.Str.ofString "wg" == PySem.Str.ofString "guard") = false := by decide +kernel
@[simp] theorem ne_15_5 : (PySem.Str.ofString "wg" = PySem.Str.ofString "r") = False := eq_false (by decide +kernel)
@[simp] theorem nb_15_5 : (PySem.Str.ofString "wg" == PySem.Str.ofString "r") = false := by decide +kernel
@[simp] theorem ne_15_6 : (PySem.Str.ofString "wg" = PySem.Str.ofString "w") = False := eq_false (by decide +kernel)
@[simp] theorem nb_15_6 : (PySem.Str.ofString "wg" == PySem.Str.ofString "w") = false := by decide +kernel
@[simp] theorem ne_15_7 : (PySem.Str.ofString "wg" = PySem.Str.ofString "g") = False := eq_false (by decide +kernel)
@[simp] theorem nb_15_7 : (PySem.Str.ofString "wg" == PySem.Str.ofString "g") = false := by decide +kernel
@[simp] theorem ne_15_8 : (PySem.Str.ofString "wg" = PySem.Str.ofString "f") = False := eq_false (by decide +kernel)
@[simp] theorem nb_15_8 : (PySem.Str.ofString "wg" == PySem.Str.ofString "f") = false := by decide +kernel
@[simp] theorem ne_15_9 : (PySem.Str.ofString "wg" = PySem.Str.ofString "rr") = False := eq_false (by decide +kernel)
@[simp] theorem nb_15_9 : (PySem.Str.ofString "wg" == PySem.Str.ofString "rr") = false := by decide +kernel
@[simp] theorem ne_15_10 : (PySem.Str.ofString "wg" = PySem.Str.ofString "rw") = False := eq_false (by decide +kernel)
@[simp] theorem nb_15_10 : (PySem.Str.ofString "wg" == PySem.Str.ofString "rw") = false := by decide +kernel
@[simp] theorem ne_15_11 : (PySem.Str.ofString "wg" = PySem.Str.ofString "rg") = False := eq_false (by decide +kernel)
@[simp] theorem nb_15_11 : (PySem.Str.ofString "wg" == PySem.Str.ofString "rg") = false := by decide +kernel
@[simp] theorem ne_15_12 : (PySem.Str.ofString "wg" = PySem.Str.ofString "rf") = False := eq_false (by decide +kernel)
@[simp] theorem nb_15_12 : (PySem.Str.ofString "wg" == PySem.Str.ofString "rf") = false := by decide +kernel
@[simp] theorem ne_15_13 : (PySem.Str.ofString "wg" = PySem.Str.ofString "wr") = False := eq_false (by decide +kernel)
@[simp] theorem nb_15_13 : (PySem.Str.ofString "wg" == PySem.Str.ofString "wr") = false := by decide +kernel
@[simp] theorem ne_15_14 : (PySem.Str.ofString "wg" = PySem.Str.ofString "ww") = False := eq_false (by decide +kernel)
@[simp] theorem nb_15_14 : (PySem.Str.ofString "wg" == PySem.Str.ofString "ww") = false := by decide +kernel
@[simp] theorem ne_15_16 : (PySem.Str.ofString "wg" = PySem.Str.ofString "wf") = False := eq_false (by decide +kernel)
@[simp] theorem nb_15_16 : (PySem.Str.ofString "wg" == PySem.Str.ofString "wf") = false := by decide +kernel
@[simp] theorem ne_15_17 : (PySem.Str.ofString "wg" = PySem.Str.ofString "gr") = False := eq_false (by decide +kernel)
@[simp] theorem nb_15_17 : (PySem.Str.ofString "wg" == PySem.Str.ofString "gr") = false := by decide +kernel
@[simp] theorem ne_15_18 : (PySem.Str.ofString "wg" = PySem.Str.ofString "gw") = False := eq_false (by decide +kernel)
@[simp] theorem nb_15_18 : (PySem.Str.ofString "wg" == PySem.Str.ofString "gw") = false := by decide +kernel
@[simp] theorem ne_15_19 : (PySem.Str.ofString "wg" = PySem.Str.ofString "gg") = False := eq_false (by decide +kernel)
@[simp] theorem nb_15_19 : (PySem.Str.ofString "wg" == PySem.Str.ofString "gg") = false := by decide +kernel
@[simp] theorem ne_15_20 : (PySem.Str.ofString "wg" = PySem.Str.ofString "gf") = False := eq_false (by decide +kernel)
@[simp] theorem nb_15_20 : (PySem.Str.ofString "wg" == PySem.Str.ofString "gf") = false := by decide +kernel
@[simp] theorem ne_15_21 : (PySem.Str.ofString "wg" = PySem.Str.ofString "fr") = False := eq_false (by decide +kernel)
@[simp] theorem nb_15_21 : (PySem.Str.ofString "wg" == PySem.Str.ofString "fr") = false := by decide +kernel
@[simp] theorem ne_15_22 : (PySem.Str.ofString "wg" = PySem.Str.ofString "fw") = False := eq_false (by decide +kernel)
@[simp] theorem nb_15_22 : (PySem.Str.ofString "wg" == PySem.Str.ofString "fw") = false := by decide +kernel
@[simp] theorem ne_15_23 : (PySem.Str.ofString "wg" = PySem.Str.ofString "fg") = False := eq_false (by decide +kernel)
@[simp] theorem nb_15_23 : (PySem.Str.ofString "wg" == PySem.Str.ofString "fg") = false := by decide +kernel
@[simp] theorem ne_15_24 : (PySem.Str.ofString "wg" = PySem.Str.ofString "ff") = False := eq_false (by decide +kernel)
@[simp] theorem nb_15_24 : (PySem.Str.ofString "wg" == PySem.Str.ofString "ff") = false := by decide +kernel
@[simp] theorem ne_15_25 : (PySem.Str.ofString "wg" = PySem.Str.ofString "own") = False := eq_false (by decide +kernel)
@[simp] theorem nb_15_25 : (PySem.Str.ofString "wg" == PySem.Str.ofString "own") = false := by decide +kernel
@[simp] theorem ne_15_26 : (PySem.Str.ofString "wg" = PySem.Str.ofString "ss") = False := eq_false (by decide +kernel)
@[simp] theorem nb_15_26 : (PySem.Str.ofString "wg" == PySem.Str.ofString "ss") = false := by decide +kernel
@[simp] theorem ne_15_27 : (PySem.Str.ofString "wg" = PySem.Str.ofString "core") = False := eq_false (by decide +kernel)
@[simp] theorem nb_15_27 : (PySem.Str.ofString "wg" == PySem.Str.ofString "core") = false := by decide +kernel
@[simp] theorem ne_15_28 : (PySem.Str.ofString "wg" = PySem.Str.ofString "place") = False := eq_false (by decide +kernel)
@[simp] theorem nb_15_28 : (PySem.Str.ofString "wg" == PySem.Str.ofString "place") = false := by decide +kernel
@[simp] theorem ne_15_29 : (PySem.Str.ofString "wg" = PySem.Str.ofString "design") = False := eq_false (by decide +kernel)
@[simp] theorem nb_15_29 : (PySem.Str.ofString "wg" == PySem.Str.ofString "design") = false := by decide +kernel
@[simp] theorem ne_15_30 : (PySem.Str.ofString "wg" = PySem.Str.ofString "") = False := eq_false (by decide +kernel)
@[simp] theorem nb_15_30 : (PySem.Str.ofString "wg" == PySem.Str.ofString "") = false := by decide +kernel
@[simp] theorem ne_15_31 : (PySem.Str.ofString "wg" = PySem.Str.ofString "xx") = False := eq_false (by decide +kernel)
@[simp] theorem nb_15_31 : (PySem.Str.ofString "wg" == PySem.Str.ofString "xx") = false := by decide +kernel
@[simp] theorem ok_16 : PyData.strOk (PySem.Str.ofString "wf") = true := by decide +kernel
@[simp] theorem len_16 : (PySem.Str.ofString "wf").length = 2 := by decide +kernel
@[simp] theorem ne_16_0 : (PySem.Str.ofString "wf" = PySem.Str.ofString "read") = False := eq_false (by decide +kernel)
@[simp] theorem nb_16_0 : (PySem.Str.ofString "wf" == PySem.Str.ofString "read") = false := by decide +kernel
@[simp] theorem ne_16_1 : (PySem.Str.ofString "wf" = PySem.Str.ofString "write") = False := eq_false (by decide +kernel)
@[simp] theorem nb_16_1 : (PySem.Str.ofString "wf" == PySem.Str.ofString "write") = false := by decide +kernel
@[simp] theorem ne_16_2 : (PySem.Str.ofString "wf" = PySem.Str.ofString "copy") = False := eq_false (by decide +kernel)
@[simp] theorem nb_16_2 : (PySem.Str.ofString "wf" == PySem.Str.ofString "copy") = false := by decide +kernel
@[simp] theorem ne_16_3 : (PySem.Str.ofString "wf" = PySem.Str.ofString "fence") = False := eq_false (by decide +kernel)
@[simp] theorem nb_16_3 : (PySem.Str.ofString "wf" == PySem.Str.ofString "fence") = false := by decide +kernel
@[simp] theorem ne_16_4 : (PySem.Str.ofString "wf" = PySem.Str.ofString "guard") = False := eq_false (by decide +kernel)
@[simp] theorem nb_16_4 : (PySem.Str.ofString "wf" == PySem.Str.ofString "guard") = false := by decide +kernel
@[simp] theorem ne_16_5 : (PySem.Str.ofString "wf" = PySem.Str.ofString "r") = False := eq_false (by decide +kernel)
@[simp] theorem nb_16_5 : (PySem.Str.ofString "wf" == PySem.Str.ofString "r") = false := by decide +kernel
@[simp] theorem ne_16_6 : (PySem.Str.ofString "wf" = PySem.Str.ofString "w") = False := eq_false (by decide +kernel)
@[simp] theorem nb_16_6 : (PySem.Str.ofString "wf" == PySem.Str.ofString "w") = false := by decide +kernel
@[simp] theorem ne_16_7 : (PySem.Str.ofString "wf" = PySem.Str.ofString "g") = False := eq_false (by decide +kernel)
@[simp] theorem nb_16_7 : (PySem.Str.ofString "wf" == PySem.Str.ofString "g") = false := by decide +kernel
@[simp] theorem ne_16_8 : (PySem.Str.ofString "wf" = PySem.Str.ofString "f") = False := eq_false (by decide +kernel)
@[simp] theorem nb_16_8 : (PySem.Str.ofString "wf" == PySem.Str.ofString "f") = false := by decide +kernel
@[simp] theorem ne_16_9 : (PySem.Str.ofString "wf" = PySem.Str.ofString "rr") = False := eq_false (by decide +kernel)
@[simp] theorem nb_16_9 : (PySem.Str.ofString "wf" == PySem.Str.ofString "rr") = false := by decide +kernel
@[simp] theorem ne_16_10 : (PySem.Str.ofString "wf" = PySem.Str.ofString "rw") = False := eq_false (by decide +kernel)
@[simp] theorem nb_16_10 : (PySem.Str.ofString "wf" == PySem.Str.ofString "rw") = false := by decide +kernel
@[simp] theorem ne_16_11 : (PySem.Str.ofString "wf" = PySem.Str.ofString "rg") = False := eq_false (by decide +kernel)
@[simp] theorem nb_16_11 : (PySem.Str.ofString "wf" == PySem.Str.ofString "rg") = false := by decide +kernel
@[simp] theorem ne_16_12 : (PySem.Str.ofString "wf" = PySem.Str.ofString "rf") = False := eq_false (by decide +kernel)
@[simp] theorem nb_16_12 : (PySem.Str.ofString "wf" == PySem.Str.ofString "rf") = false := by decide +kernel
@[simp] theorem ne_16_13 : (PySem.Str.ofString "wf" = PySem.Str.ofString "wr") = False := eq_false (by decide +kernel)
@[simp] theorem nb_16_13 : (PySem.Str.ofString "wf" == PySem.Str.ofString "wr") = false := by decide +kernel
@[simp] theorem ne_16_14 : (PySem.Str.ofString "wf" = PySem.Str.ofString "ww") = False := eq_false (by decide +kernel)
@[simp] theorem nb_16_14 : (PySem.Str.ofString "wf" == PySem.Str.ofString "ww") = false := by decide +kernel
@[simp] theorem ne_16_15 : (PySem.Str.ofString "wf" = PySem.Str.ofString "wg") = False := eq_false (by decide +kernel)
@[simp] theorem nb_16_15 : (PySem.Str.ofString "wf" == PySem.Str.ofString "wg") = false := by decide +kernel
@[simp] theorem ne_16_17 : (PySem.Str.ofString "wf" = PySem.Str.ofString "gr") = False := eq_false (by decide +kernel)
@[simp] theorem nb_16_17 : (PySem.Str.ofString "wf" == PySem.Str.ofString "gr") = false := by decide +kernel
@[simp] theorem ne_16_18 : (PySem.Str.ofString "wf" = PySem.Str.ofString "gw") = False := eq_false (by decide +kernel)
@[simp] theorem nb_16_18 : (PySem.Str.ofString "wf" == PySem.Str.ofString "gw") = false := by decide +kernel
@[simp] theorem ne_16_19 : (PySem.Str.ofString "wf" = PySem.Str.ofString "gg") = False := eq_false (by decide +kernel)
@[simp] theorem nb_16_19 : (PySem.Str.ofString "wf" == PySem.Str.ofString "gg") = false := by decide +kernel
@[simp] theorem ne_16_20 : (PySem.Str.ofString "wf" = PySem.Str.ofString "gf") = False := eq_false (by decide +kernel)
@[simp] theorem nb_16_20 : (PySem.Str.ofString "wf" == PySem.Str.ofString "gf") = false := by decide +kernel
@[simp] theorem ne_16_21 : (PySem.Str.ofString "wf" = PySem.Str.ofString "fr") = False := eq_false (by decide +kernel)
@[simp] theorem nb_16_21 : (PySem.Str.ofString "wf" == PySem.Str.ofString "fr") = false := by decide +kernel
@[simp] theorem ne_16_22 : (PySem.Str.ofString "wf" = PySem.Str.ofString "fw") = False := eq_false (by decide +kernel)
@[simp] theorem nb_16_22 : (PySem.Str.ofString "wf" == PySem.Str.ofString "fw") = false := by decide +kernel
@[simp] theorem ne_16_23 : (PySem.Str.ofString "wf" = PySem.Str.ofString "fg") = False := eq_false (by decide +kernel)
@[simp] theorem nb_16_23 : (PySem.Str.ofString "wf" == PySem.Str.ofString "fg") = false := by decide +kernel
@[simp] theorem ne_16_24 : (PySem.Str.ofString "wf" = PySem.Str.ofString "ff") = False := eq_false (by decide +kernel)
@[simp] theorem nb_16_24 : (PySem.Str.ofString "wf" == PySem.Str.ofString "ff") = false := by decide +kernel
@[simp] theorem ne_16_25 : (PySem.Str.ofString "wf" = PySem.Str.ofString "own") = False := eq_false (by decide +kernel)
@[simp] theorem nb_16_25 : (PySem.Str.ofString "wf" == PySem.Str.ofString "own") = false := by decide +kernel
@[simp] theorem ne_16_26 : (PySem.Str.ofString "wf" = PySem.Str.ofString "ss") = False := eq_false (by decide +kernel)
@[simp] theorem nb_16_26 : (PySem.Str.ofString "wf" == PySem.Str.ofString "ss") = false := by decide +kernel
@[simp] theorem ne_16_27 : (PySem.Str.ofString "wf" = PySem.Str.ofString "core") = False := eq_false (by decide +kernel)
@[simp] theorem nb_16_27 : (PySem.Str.ofString "wf" == PySem.Str.ofString "core") = false := by decide +kernel
@[simp] theorem ne_16_28 : (PySem.Str.ofString "wf" = PySem.Str.ofString "place") = False := eq_false (by decide +kernel)
@[simp] theorem nb_16_28 : (PySem.Str.ofString "wf" == PySem.Str.ofString "place") = false := by decide +kernel
@[simp] theorem ne_16_29 : (PySem.Str.ofString "wf" = PySem.Str.ofString "design") = False := eq_false (by decide +kernel)
@[simp] theorem nb_16_29 : (PySem.Str.ofString "wf" == PySem.Str.ofString "design") = false := by decide +kernel
@[simp] theorem ne_16_30 : (PySem.Str.ofString "wf" = PySem.Str.ofString "") = False := eq_false (by decide +kernel)
@[simp] theorem nb_16_30 : (PySem.Str.ofString "wf" == PySem.Str.ofString "") = false := by decide +kernel
@[simp] theorem ne_16_31 : (PySem.Str.ofString "wf" = PySem.Str.ofString "xx") = False := eq_false (by decide +kernel)
@[simp] theorem nb_16_31 : (PySem.Str.ofString "wf" == PySem.Str.ofString "xx") = false := by decide +kernel
@[simp] theorem ok_17 : PyData.strOk (PySem.Str.ofString "gr") = true := by decide +kernel
@[simp] theorem len_17 : (PySem.Str.ofString "gr").length = 2 := by decide +kernel
@[simp] theorem ne_17_0 : (PySem.Str.ofString "gr" = PySem.Str.ofString "read") = False := eq_false (by decide +kernel)
@[simp] theorem nb_17_0 : (PySem.Str.ofString "gr" == PySem.Str.ofString "read") = false := by decide +kernel
@[simp] theorem ne_17_1 : (PySem.Str.ofString "gr" = PySem.Str.ofString "write") = False := eq_false (by decide +kernel)
@[simp] theorem nb_17_1 : (PySem.Str.ofString "gr" == PySem.Str.ofString "write") = false := by decide +kernel
@[simp] theorem ne_17_2 : (PySem.Str.ofString "gr" = PySem.Str.ofString "copy") = False := eq_false (by decide +kernel)
@[simp] theorem nb_17_2 : (PySem.Str.ofString "gr" == PySem.Str.ofString "copy") = false := by decide +kernel
@[simp] theorem ne_17_3 : (PySem.Str.ofString "gr" = PySem.Str.ofString "fence") = False := eq_false (by decide +kernel)
@[simp] theorem nb_17_3 : (PySem.Str.ofString "gr" == PySem.Str.ofString "fence") = false := by decide +kernel
@[simp] theorem ne_17_4 : (PySem.Str.ofString "gr" = PySem.Str.ofString "guard") = False := eq_false (by decide +kernel)
@[simp] theorem nb_17_4 : (PySem.Str.ofString "gr" == PySem.Str.ofString "guard") = false := by decide +kernel
@[simp] theorem ne_17_5 : (PySem.Str.ofString "gr" = PySem.Str.ofString "r") = False := eq_false (by decide +kernel)
@[simp] theorem nb_17_5 : (PySem.Str.ofString "gr" == PySem.Str.ofString "r") = false := by decide +kernel
@[simp] theorem ne_17_6 : (PySem.Str.ofString "gr" = PySem.Str.ofString "w") = False := eq_false (by decide +kernel)
@[simp] theorem nb_17_6 : (PySem.Str.ofString "gr" == PySem.Str.ofString "w") = false := by decide +kernel
@[simp] theorem ne_17_7 : (PySem.Str.ofString "gr" = PySem.Str.ofString "g") = False := eq_false (by decide +kernel)
@[simp] theorem nb_17_7 : (PySem.Str.ofString "gr" == PySem.Str.ofString "g") = false := by decide +kernel
@[simp] theorem ne_17_8 : (PySem.Str.ofString "gr" = PySem.Str.ofString "f") = False := eq_false (by decide +kernel)
@[simp] theorem nb_17_8 : (PySem.Str.ofString "gr" == PySem.Str.ofString "f") = false := by decide +kernel
@[simp] theorem ne_17_9 : (PySem.Str.ofString "gr" = PySem.Str.ofString "rr") = False := eq_false (by decide +kernel)
@[simp] theorem nb_17_9 : (PySem.Str.ofString "gr" == PySem.Str.ofString "rr") = false := by decide +kernel
@[simp] theorem ne_17_10 : (PySem.Str.ofString "gr" = PySem.Str.ofString "rw") = False := eq_false (by decide +kernel)
@[simp] theorem nb_17_10 : (PySem.Str.ofString "gr" == PySem.Str.ofString "rw") = false := by decide +kernel
@[simp] theorem ne_17_11 : (PySem.Str.ofString "gr" = PySem.Str.ofString "rg") = False := eq_false (by decide +kernel)
@[simp] theorem nb_17_11 : (PySem.Str.ofString "gr" == PySem.Str.ofString "rg") = false := by decide +kernel
@[simp] theorem ne_17_12 : (PySem.Str.ofString "gr" = PySem.Str.ofString "rf") = False := eq_false (by decide +kernel)
@[simp] theorem nb_17_12 : (PySem.Str.ofString "gr" == PySem.Str.ofString "rf") = false := by decide +kernel
@[simp] theorem ne_17_13 : (PySem.Str.ofString "gr" = PySem.Str.ofString "wr") = False := eq_false (by decide +kernel)
@[simp] theorem nb_17_13 : (PySem.Str.ofString "gr" == PySem.Str.ofString "wr") = false := by decide +kernel
@[simp] theorem ne_17_14 : (PySem.Str.ofString "gr" = PySem.Str.ofString "ww") = False := eq_false (by decide +kernel)
@[simp] theorem nb_17_14 : (PySem.Str.ofString "gr" == PySem.Str.ofString "ww") = false := by decide +kernel
@[simp] theorem ne_17_15 : (PySem.Str.ofString "gr" = PySem.Str.ofString "wg") = False := eq_false (by decide +kernel)
@[simp] theorem nb_17_15 : (PySem.Str.ofString "gr" == PySem.Str.ofString "wg") = false := by decide +kernel
@[simp] theorem ne_17_16 : (PySem.Str.ofString "gr" = PySem.Str.ofString "wf") = False := eq_false (by decide +kernel)
@[simp] theorem nb_17_16 : (PySem.Str.ofString "gr" == PySem.Str.ofString "wf") = false := by decide +kernel
@[simp] theorem ne_17_18 : (PySem.Str.ofString "gr" = PySem.Str.ofString "gw") = False := eq_false (by decide +kernel)
@[simp] theorem nb_17_18 : (PySem.Str.ofString "gr" == PySem.Str.ofString "gw") = false := by decide +kernel
@[simp] theorem ne_17_19 : (PySem.Str.ofString "gr" = PySem.Str.ofString "gg") = False := eq_false (by decide +kernel)
@[simp] theorem nb_17_19 : (PySem.Str.ofString "gr" == PySem.Str.ofString "gg") = false := by decide +kernel
@[simp] theorem ne_17_20 : (PySem.Str.ofString "gr" = PySem.Str.ofString "gf") = False := eq_false (by decide +kernel)
@[simp] theorem nb_17_20 : (PySem.Str.ofString "gr" == PySem.Str.ofString "gf") = false := by decide +kernel
@[simp] theorem ne_17_21 : (PySem.Str.ofString "gr" = PySem.Str.ofString "fr") = False := eq_false (by decide +kernel)
@[simp] theorem nb_17_21 : (PySem.Str.ofString "gr" == PySem.Str.ofString "fr") = false := by decide +kernel
@[simp] theorem ne_17_22 : (PySem.Str.ofString "gr" = PySem.Str.ofString "fw") = False := eq_false (by decide +kernel)
@[simp] theorem nb_17_22 : (PySem.Str.ofString "gr" == PySem.Str.ofString "fw") = false := by decide +kernel
@[simp] theorem ne_17_23 : (PySem.Str.ofString "gr" = PySem.Str.ofString "fg") = False := eq_false (by decide +kernel)
@[simp] theorem nb_17_23 : (PySem.Str.ofString "gr" == PySem.Str.ofString "fg") = false := by decide +kernel
@[simp] theorem ne_17_24 : (PySem.Str.ofString "gr" = PySem.Str.ofString "ff") = False := eq_false (by decide +kernel)
@[simp] theorem nb_17_24 : (PySem.Str.ofString "gr" == PySem.Str.ofString "ff") = false := by decide +kernel
@[simp] theorem ne_17_25 : (PySem.Str.ofString "gr" = PySem.Str.ofString "own") = False := eq_false (by decide +kernel)
@[simp] theorem nb_17_25 : (PySem.Str.ofString "gr" == PySem.Str.ofString "own") = false := by decide +kernel
@[simp] theorem ne_17_26 : (PySem.Str.ofString "gr" = PySem.Str.ofString "ss") = False := eq_false (by decide +kernel)
@[simp] theorem nb_17_26 : (PySem.Str.ofString "gr" == PySem.Str.ofString "ss") = false := by decide +kernel
@[simp] theorem ne_17_27 : (PySem.Str.ofString "gr" = PySem.Str.ofString "core") = False := eq_false (by decide +kernel)
@[simp] theorem nb_17_27 : (PySem.Str.ofString "gr" == PySem.Str.ofString "core") = false := by decide +kernel
@[simp] theorem ne_17_28 : (PySem.Str.ofString "gr" = PySem.Str.ofString "place") = False := eq_false (by decide +kernel)
@[simp] theorem nb_17_28 : (PySem.Str.ofString "gr" == PySem.Str.ofString "place") = false := by decide +kernel
@[simp] theorem ne_17_29 : (PySem.Str.ofString "gr" = PySem.Str.ofString "design") = False := eq_false (by decide +kernel)
@[simp] theorem nb_17_29 : (PySem.Str.ofString "gr" == PySem.Str.ofString "design") = false := by decide +kernel
@[simp] theorem ne_17_30 : (PySem.Str.ofString "gr" = PySem.Str.ofString "") = False := eq_false (by decide +kernel)
@[simp] theorem nb_17_30 : (PySem.Str.ofString "gr" == PySem.Str.ofString "") = false := by decide +kernel
@[simp] theorem ne_17_31 : (PySem.Str.ofString "gr" = PySem.Str.ofString "xx") = False := eq_false (by decide +kernel)
@[simp] theorem nb_17_31 : (PySem.Str.ofString "gr" == PySem.Str.ofString "xx") = false := by decide +kernel
@[simp] theorem ok_18 : PyData.strOk (PySem.Str.ofString "gw") = true := by decide +kernel
@[simp] theorem len_18 : (PySem.Str.ofString "gw").length = 2 := by decide +kernel
@[simp] theorem ne_18_0 : (PySem.Str.ofString "gw" = PySem.Str.ofString "read") = False := eq_false (by decide +kernel)
@[simp] theorem nb_18_0 : (PySem.Str.ofString "gw" == PySem.Str.ofString "read") = false := by decide +kernel
@[simp] theorem ne_18_1 : (PySem.Str.ofString "gw" = PySem.Str.ofString "write") = False := eq_false (by decide +kernel)
@[simp] theorem nb_18_1 : (PySem.Str.ofString "gw" == PySem.Str.ofString "write") = false := by decide +kernel
@[simp] theorem ne_18_2 : (PySem.Str.ofString "gw" = PySem.Str.ofString "copy") = False := eq_false (by decide +kernel)
@[simp] theorem nb_18_2 : (PySem.Str.ofString "gw" == PySem.Str.ofString "copy") = false := by decide +kernel
@[simp] theorem ne_18_3 : (PySem.Str.ofString "gw" = PySem.Str.ofString "fence") = False := eq_false (by decide +kernel)
@[simp] theorem nb_18_3 : (PySem.Str.ofString "gw" == PySem.Str.ofString "fence") = false := by decide +kernel
@[simp] theorem ne_18_4 : (PySem.Str.ofString "gw" = PySem.Str.ofString "guard") = False := eq_false (by decide +kernel)
@[simp] theorem nb_18_4 : (PySem.Str.ofString "gw" == PySem.Str.ofString "guard") = false := by decide +kernel
@[simp] theorem ne_18_5 : (PySem.Str.ofString "gw" = PySem.Str.ofString "r") = False := eq_false (by decide +kernel)
@[simp] theorem nb_18_5 : (PySem.Str.ofString "gw" == PySem.Str.ofString "r") = false := by decide +kernel
@[simp] theorem ne_18_6 : (PySem.Str.ofString "gw" = PySem.Str.ofString "w") = False := eq_false (by decide +kernel)
@[simp] theorem nb_18_6 : (PySem.Str.ofString "gw" == PySem.Str.ofString "w") = false := by decide +kernel
@[simp] theorem ne_18_7 : (PySem.Str.ofString "gw" = PySem.Str.ofString "g") = False := eq_false (by decide +kernel)
@[simp] theorem nb_18_7 : (PySem.Str.ofString "gw" == PySem.Str.ofString "g") = false := by decide +kernel
@[simp] theorem ne_18_8 : (PySem.Str.ofString "gw" = PySem.Str.ofString "f") = False := eq_false (by decide +kernel)
@[simp] theorem nb_18_8 : (PySem.Str.ofString "gw" == PySem.Str.ofString "f") = false := by decide +kernel
@[simp] theorem ne_18_9 : (PySem.Str.ofString "gw" = PySem.Str.ofString "rr") = False := eq_false (by decide +kernel)
@[simp] theorem nb_18_9 : (PySem.Str.ofString "gw" == PySem.Str.ofString "rr") = false := by decide +kernel
@[simp] theorem ne_18_10 : (PySem.Str.ofString "gw" = PySem.Str.ofString "rw") = False := eq_false (by decide +kernel)
@[simp] theorem nb_18_10 : (PySem.Str.ofString "gw" == PySem.Str.ofString "rw") = false := by decide +kernel
@[simp] theorem ne_18_11 : (PySem.Str.ofString "gw" = PySem.Str.ofString "rg") = False := eq_false (by decide +kernel)
@[simp] theorem nb_18_11 : (PySem.Str.ofString "gw" == PySem.Str.ofString "rg") = false := by decide +kernel
@[simp] theorem ne_18_12 : (PySem.Str.ofString "gw" = PySem.Str.ofString "rf") = False := eq_false (by decide +kernel)
@[simp] theorem nb_18_12 : (PySem.Str.ofString "gw" == PySem.Str.ofString "rf") = false := by decide +kernel
@[simp] theorem ne_18_13 : (PySem.Str.ofString "gw" = PySem.Str.ofString "wr") = False := eq_false (by decide +kernel)
@[simp] theorem nb_18_13 : (PySem.Str.ofString "gw" == PySem.Str.ofString "wr") = false := by decide +kernel
@[simp] theorem ne_18_14 : (PySem.Str.ofString "gw" = PySem.Str.ofString "ww") = False := eq_false (by decide +kernel)
@[simp] theorem nb_18_14 : (PySem.Str.ofString "gw" == PySem.Str.ofString "ww") = false := by decide +kernel
@[simp] theorem ne_18_15 : (PySem.Str.ofString "gw" = PySem.Str.ofString "wg") = False := eq_false (by decide +kernel)
@[simp] theorem nb_18_15 : (PySem.Str.ofString "gw" == PySem.Str.ofString "wg") = false := by decide +kernel
@[simp] theorem ne_18_16 : (PySem.Str.ofString "gw" = PySem.Str.ofString "wf") = False := eq_false (by decide +kernel)
@[simp] theorem nb_18_16 : (PySem.Str.ofString "gw" == PySem.Str.ofString "wf") = false := by decide +kernel
@[simp] theorem ne_18_17 : (PySem.Str.ofString "gw" = PySem.Str.ofString "gr") = False := eq_false (by decide +kernel)
@[simp] theorem nb_18_17 : (PySem.Str.ofString "gw" == PySem.Str.ofString "gr") = false := by decide +kernel
@[simp] theorem ne_18_19 : (PySem.Str.ofString "gw" = PySem.Str.ofString "gg") = False := eq_false (by decide +kernel)
@[simp] theorem nb_18_19 : (PySem.Str.ofString "gw" == PySem.Str.ofString "gg") = false := by decide +kernel
@[simp] theorem ne_18_20 : (PySem.Str.ofString "gw" = PySem.Str.ofString "gf") = False := eq_false (by decide +kernel)
@[simp] theorem nb_18_20 : (PySem.Str.ofString "gw" == PySem.Str.ofString "gf") = false := by decide +kernel
@[simp] theorem ne_18_21 : (PySem.Str.ofString "gw" = PySem.Str.ofString "fr") = False := eq_false (by decide +kernel)
@[simp] theorem nb_18_21 : (PySem.Str.ofString "gw" == PySem.Str.ofString "fr") = false := by decide +kernel
@[simp] theorem ne_18_22 : (PySem.Str.ofString "gw" = PySem.Str.ofString "fw") = False := eq_false (by decide +kernel)
@[simp] theorem nb_18_22 : (PySem.Str.ofString "gw" == PySem.Str.ofString "fw") = false := by decide +kernel
@[simp] theorem ne_18_23 : (PySem.Str.ofString "gw" = PySem.Str.ofString "fg") = False := eq_false (by decide +kernel)
@[simp] theorem nb_18_23 : (PySem.Str.ofString "gw" == PySem.Str.ofString "fg") = false := by decide +kernel
@[simp] theorem ne_18_24 : (PySem.Str.ofString "gw" = PySem.Str.ofString "ff") = False := eq_false (by decide +kernel)
@[simp] theorem nb_18_24 : (PySem.Str.ofString "gw" == PySem.Str.ofString "ff") = false := by decide +kernel
@[simp] theorem ne_18_25 : (PySem.Str.ofString "gw" = PySem.Str.ofString "own") = False := eq_false (by decide +kernel)
@[simp] theorem nb_18_25 : (PySem.Str.ofString "gw" == PySem.Str.ofString "own") = false := by decide +kernel
@[simp] theorem ne_18_26 : (PySem.Str.ofString "gw" = PySem.Str.ofString "ss") = False := eq_false (by decide +kernel)
@[simp] theorem nb_18_26 : (PySem.Str.ofString "gw" == PySem.Str.ofString "ss") = false := by decide +kernel
@[simp] theorem ne_18_27 : (PySem.Str.ofString "gw" = PySem.Str.ofString "core") = False := eq_false (by decide +kernel)
@[simp] theorem nb_18_27 : (PySem.Str.ofString "gw" == PySem.Str.ofString "core") = false := by decide +kernel
@[simp] theorem ne_18_28 : (PySem.Str.ofString "gw" = PySem.Str.ofString "place") = False := eq_false (by decide +kernel)
@[simp] theorem nb_18_28 : (PySem.Str.ofString "gw" == PySem.Str.ofString "place") = false := by decide +kernel
@[simp] theorem ne_18_29 : (PySem.Str.ofString "gw" = PySem.Str.ofString "design") = False := eq_false (by decide +kernel)
@[simp] theorem nb_18_29 : (PySem.Str.ofString "gw" == PySem.Str.ofString "design") = false := by decide +kernel
@[simp] theorem ne_18_30 : (PySem.Str.ofString "gw" = PySem.Str.ofString "") = False := eq_false (by decide +kernel)
@[simp] theorem nb_18_30 : (PySem.Str.ofString "gw" == PySem.Str.ofString "") = false := by decide +kernel
@[simp] theorem ne_18_31 : (PySem.Str.ofString "gw" = PySem.Str.ofString "xx") = False := eq_false (by decide +kernel)
@[simp] theorem nb_18_31 : (PySem.Str.ofString "gw" == PySem.Str.ofString "xx") = false := by decide +kernel
@[simp] theorem ok_19 : PyData.strOk (PySem.Str.ofString "gg") = true := by decide +kernel
@[simp] theorem len_19 : (PySem.Str.ofString "gg").length = 2 := by decide +kernel
@[simp] theorem ne_19_0 : (PySem.Str.ofString "gg" = PySem.Str.ofString "read") = False := eq_false (by decide +kernel)
@[simp] theorem nb_19_0 : (PySem.Str.ofString "gg" == PySem.Str.ofString "read") = false := by decide +kernel
@[simp] theorem ne_19_1 : (PySem.Str.ofString "gg" = PySem.Str.ofString "write") = False := eq_false (by decide +kernel)
@[simp] theorem nb_19_1 : (PySem.Str.ofString "gg" == PySem.Str.ofString "write") = false := by decide +kernel
@[simp] theorem ne_19_2 : (PySem.Str.ofString "gg" = PySem.Str.ofString "copy") = False := eq_false (by decide +kernel)
@[simp] theorem nb_19_2 : (PySem.Str.ofString "gg" == PySem.Str.ofString "copy") = false := by decide +kernel
@[simp] theorem ne_19_3 : (PySem.Str.ofString "gg" = PySem.Str.ofString "fence") = False := eq_false (by decide +kernel)
@[simp] theorem nb_19_3 : (PySem.Str.ofString "gg" == PySem.Str.ofString "fence") = false := by decide +kernel
@[simp] theorem ne_19_4 : (PySem.Str.ofString "gg" = PySem.Str.ofString "guard") = False := eq_false (by decide +kernel)
@[simp] theorem nb_19_4 : (PySem.Str.ofString "gg" == PySem.Str.ofString "guard") = false := by decide +kernel
@[simp] theorem ne_19_5 : (PySem.Str.ofString "gg" = PySem.Str.ofString "r") = False := eq_false (by decide +kernel)
@[simp] theorem nb_19_5 : (PySem.Str.ofString "gg" == PySem.Str.ofString "r") = false := by decide +kernel
@[simp] theorem ne_19_6 : (PySem.Str.ofString "gg" = PySem.Str.ofString "w") = False := eq_false (by decide +kernel)
@[simp] theorem nb_19_6 : (PySem.Str.ofString "gg" == PySem.Str.ofString "w") = false := by decide +kernel
@[simp] theorem ne_19_7 : (PySem.Str.ofString "gg" = PySem.Str.ofString "g") = False := eq_false (by decide +kernel)
@[simp] theorem nb_19_7 : (PySem.Str.ofString "gg" == PySem.Str.ofString "g") = false := by decide +kernel
@[simp] theorem ne_19_8 : (PySem.Str.ofString "gg" = PySem.Str.ofString "f") = False := eq_false (by decide +kernel)
@[simp] theorem nb_19_8 : (PySem.Str.ofString "gg" == PySem.Str.ofString "f") = false := by decide +kernel
@[simp] theorem ne_19_9 : (PySem.Str.ofString "gg" = PySem.Str.ofString "rr") = False := eq_false (by decide +kernel)
@[simp] theorem nb_19_9 : (PySem.Str.ofString "gg" == PySem.Str.ofString "rr") = false := by decide +kernel
@[simp] theorem ne_19_10 : (PySem.Str.ofString "gg" = PySem.Str.ofString "rw") = False := eq_false (by decide +kernel)
@[simp] theorem nb_19_10 : (PySem.Str.ofString "gg" == PySem.Str.ofString "rw") = false := by decide +kernel
@[simp] theorem ne_19_11 : (PySem.Str.ofString "gg" = PySem.Str.ofString "rg") = False := eq_false (by decide +kernel)
@[simp] theorem nb_19_11 : (PySem.Str.ofString "gg" == PySem.Str.ofString "rg") = false := by decide +kernel
@[simp] theorem ne_19_12 : (PySem.Str.ofString "gg" = PySem.Str.ofString "rf") = False := eq_false (by decide +kernel)
@[simp] theorem nb_19_12 : (PySem.Str.ofString "gg" == PySem.Str.ofString "rf") = false := by decide +kernel
@[simp] theorem ne_19_13 : (PySem.Str.ofString "gg" = PySem.Str.ofString "wr") = False := eq_false (by decide +kernel)
@[simp] theorem nb_19_13 : (PySem.Str.ofString "gg" == PySem.Str.ofString "wr") = false := by decide +kernel
@[simp] theorem ne_19_14 : (PySem.Str.ofString "gg" = PySem.Str.ofString "ww") = False := eq_false (by decide +kernel)
@[simp] theorem nb_19_14 : (PySem.Str.ofString "gg" == PySem.Str.ofString "ww") = false := by decide +kernel
@[simp] theorem ne_19_15 : (PySem.Str.ofString "gg" = PySem.Str.ofString "wg") = False := eq_false (by decide +kernel)
@[simp] theorem nb_19_15 : (PySem.Str.ofString "gg" == PySem.Str.ofString "wg") = false := by decide +kernel
@[simp] theorem ne_19_16 : (PySem.Str.ofString "gg" = PySem.Str.ofString "wf") = False := eq_false (by decide +kernel)
@[simp] theorem nb_19_16 : (PySem.Str.ofString "gg" == PySem.Str.ofString "wf") = false := by decide +kernel
@[simp] theorem ne_19_17 : (PySem.Str.ofString "gg" = PySem.Str.ofString "gr") = False := eq_false (by decide +kernel)
@[simp] theorem nb_19_17 : (PySem.Str.ofString "gg" == PySem.Str.ofString "gr") = false := by decide +kernel
@[simp] theorem ne_19_18 : (PySem.Str.ofString "gg" = PySem.Str.ofString "gw") = False := eq_false (by decide +kernel)
@[simp] theorem nb_19_18 : (PySem.Str.ofString "gg" == PySem.Str.ofString "gw") = false := by decide +kernel
@[simp] theorem ne_19_20 : (PySem.Str.ofString "gg" = PySem.Str.ofString "gf") = False := eq_false (by decide +kernel)
@[simp] theorem nb_19_20 : (PySem.Str.ofString "gg" == PySem.Str.ofString "gf") = false := by decide +kernel
@[simp] theorem ne_19_21 : (PySem.Str.ofString "gg" = PySem.Str.ofString "fr") = False := eq_false (by decide +kernel)
@[simp] theorem nb_19_21 : (PySem.Str.ofString "gg" == PySem.Str.ofString "fr") = false := by decide +kernel
@[simp] theorem ne_19_22 : (PySem.Str.ofString "gg" = PySem.Str.ofString "fw") = False := eq_false (by decide +kernel)
@[simp] theorem nb_19_22 : (PySem.Str.ofString "gg" == PySem.Str.ofString "fw") = false := by decide +kernel
@[simp] theorem ne_19_23 : (PySem.Str.ofString "gg" = PySem.Str.ofString "fg") = False := eq_false (by decide +kernel)
@[simp] theorem nb_19_23 : (PySem.Str.ofString "gg" == PySem.Str.ofString "fg") = false := by decide +kernel
@[simp] theorem ne_19_24 : (PySem.Str.ofString "gg" = PySem.Str.ofString "ff") = False := eq_false (by decide +kernel)
@[simp] theorem nb_19_24 : (PySem.Str.ofString "gg" == PySem.Str.ofString "ff") = false := by decide +kernel
@[simp] theorem ne_19_25 : (PySem.Str.ofString "gg" = PySem.Str.ofString "own") = False := eq_false (by decide +kernel)
@[simp] theorem nb_19_25 : (PySem.Str.ofString "gg" == PySem.Str.ofString "own") = false := by decide +kernel
@[simp] theorem ne_19_26 : (PySem.Str.ofString "gg" = PySem.Str.ofString "ss") = False := eq_false (by decide +kernel)
@[simp] theorem nb_19_26 : (PySem.Str.ofString "gg" == PySem.Str.ofString "ss") = false := by decide +kernel
@[simp] theorem ne_19_27 : (PySem.Str.ofString "gg" = PySem.Str.ofString "core") = False := eq_false (by decide +kernel)
@[simp] theorem nb_19_27 : (PySem.Str.ofString "gg" == PySem.Str.ofString "core") = false := by decide +kernel
@[simp] theorem ne_19_28 : (PySem.Str.ofString "gg" = PySem.Str.ofString "place") = False := eq_false (by decide +kernel)
@[simp] theorem nb_19_28 : (PySem.Str.ofString "gg" == PySem.Str.ofString "place") = false := by decide +kernel
@[simp] theorem ne_19_29 : (PySem.Str.ofString "gg" = PySem.Str.ofString "design") = False := eq_false (by decide +kernel)
@[simp] theorem nb_19_29 : (PySem.Str.ofString "gg" == PySem.Str.ofString "design") = false := by decide +kernel
@[simp] theorem ne_19_30 : (PySem.Str.ofString "gg" = PySem.Str.ofString "") = False := eq_false (by decide +kernel)
@[simp] theorem nb_19_30 : (PySem.Str.ofString "gg" == PySem.Str.ofString "") = false := by decide +kernel
@[simp] theorem ne_19_31 : (PySem.Str.ofString "gg" = PySem.Str.ofString "xx") = False := eq_false (by decide +kernel)
@[simp] theorem nb_19_31 : (PySem.Str.ofString "gg" == PySem.Str.ofString "xx") = false := by decide +kernel
@[simp] theorem ok_20 : PyData.strOk (PySem.Str.ofString "gf") = true := by decide +kernel
@[simp] theorem len_20 : (PySem.Str.ofString "gf").length = 2 := by decide +kernel
@[simp] theorem ne_20_0 : (PySem.Str.ofString "gf" = PySem.Str.ofString "read") = False := eq_false (by decide +kernel)
@[simp] theorem nb_20_0 : (PySem.Str.ofString "gf" == PySem.Str.ofString "read") = false := by decide +kernel
@[simp] theorem ne_20_1 : (PySem.Str.ofString "gf" = PySem.Str.ofString "write") = False := eq_false (by decide +kernel)
@[simp] theorem nb_20_1 : (PySem.Str.ofString "gf" == PySem.Str.ofString "write") = false := by decide +kernel
@[simp] theorem ne_20_2 : (PySem.Str.ofString "gf" = PySem.Str.ofString "copy") = False := eq_false (by decide +kernel)
@[simp] theorem nb_20_2 : (PySem.Str.ofString "gf" == PySem.Str.ofString "copy") = false := by decide +kernel
@[simp] theorem ne_20_3 : (PySem.Str.ofString "gf" = PySem.Str.ofString "fence") = False := eq_false (by decide +kernel)
@[simp] theorem nb_20_3 : (PySem.Str.ofString "gf" == PySem.Str.ofString "fence") = false := by decide +kernel
@[simp] theorem ne_20_4 : (PySem.Str.ofString "gf" = PySem.Str.ofString "guard") = False := eq_false (by decide +kernel)
@[simp] theorem nb_20_4 : (PySem.Str.ofString "gf" == PySem.Str.ofString "guard") = false := by decide +kernel
@[simp] theorem ne_20_5 : (PySem.Str.ofString "gf" = PySem.Str.ofString "r") = False := eq_false (by decide +kernel)
@[simp] theorem nb_20_5 : (PySem.Str.ofString "gf" == PySem.Str.ofString "r") = false := by decide +kernel
@[simp] theorem ne_20_6 : (PySem.Str.ofString "gf" = PySem.Str.ofString "w") = False := eq_false (by decide +kernel)
@[simp] theorem nb_20_6 : (PySem.Str.ofString "gf" == PySem.Str.ofString "w") = false := by decide +kernel
@[simp] theorem ne_20_7 : (PySem.Str.ofString "gf" = PySem.Str.ofString "g") = False := eq_false (by decide +kernel)
@[simp] theorem nb_20_7 : (PySem.Str.ofString "gf" == PySem.Str.ofString "g") = false := by decide +kernel
@[simp] theorem ne_20_8 : (PySem.Str.ofString "gf" = PySem.Str.ofString "f") = False := eq_false (by decide +kernel)
@[simp] theorem nb_20_8 : (PySem.Str.ofString "gf" == PySem.Str.ofString "f") = false := by decide +kernel
@[simp] theorem ne_20_9 : (PySem.Str.ofString "gf" = PySem.Str.ofString "rr") = False := eq_false (by decide +kernel)
@[simp] theorem nb_20_9 : (PySem.Str.ofString "gf" == PySem.Str.ofString "rr") = false := by decide +kernel
@[simp] theorem ne_20_10 : (PySem.Str.ofString "gf" = PySem.Str.ofString "rw") = False := eq_false (by decide +kernel)
@[simp] theorem nb_20_10 : (PySem.Str.ofString "gf" == PySem.Str.ofString "rw") = false := by decide +kernel
@[simp] theorem ne_20_11 : (PySem.Str.ofString "gf" = PySem.Str.ofString "rg") = False := eq_false (by decide +kernel)
@[simp] theorem nb_20_11 : (PySem.Str.ofString "gf" == PySem.Str.ofString "rg") = false := by decide +kernel
@[simp] theorem ne_20_12 : (PySem.Str.ofString "gf" = PySem.Str.ofString "rf") = False := eq_false (by decide +kernel)
@[simp] theorem nb_20_12 : (PySem.Str.ofString "gf" == PySem.Str.ofString "rf") = false := by decide +kernel
@[simp] theorem ne_20_13 : (PySem.Str.ofString "gf" = PySem.Str.ofString "wr") = False := eq_false (by decide +kernel)
@[simp] theorem nb_20_13 : (PySem.Str.ofString "gf" == PySem.Str.ofString "wr") = false := by decide +kernel
@[simp] theorem ne_20_14 : (PySem.Str.ofString "gf" = PySem.Str.ofString "ww") = False := eq_false (by decide +kernel)
@[simp] theorem nb_20_14 : (PySem.Str.ofString "gf" == PySem.Str.ofString "ww") = false := by decide +kernel
@[simp] theorem ne_20_15 : (PySem.Str.ofString "gf" = PySem.Str.ofString "wg") = False := eq_false (by decide +kernel)
@[simp] theorem nb_20_15 : (PySem.Str.ofString "gf" == PySem.Str.ofString "wg") = false := by decide +kernel
@[simp] theorem ne_20_16 : (PySem.Str.ofString "gf" = PySem.Str.ofString "wf") = False := eq_false (by decide +kernel)
@[simp] theorem nb_20_16 : (PySem.Str.ofString "gf" == PySem.Str.ofString "wf") = false := by decide +kernel
@[simp] theorem ne_20_17 : (PySem.Str.ofString "gf" = PySem.Str.ofString "gr") = False := eq_false (by decide +kernel)
@[simp] theorem nb_20_17 : (PySem.Str.ofString "gf" == PySem.Str.ofString "gr") = false := by decide +kernel
@[simp] theorem ne_20_18 : (PySem.Str.ofString "gf" = PySem.Str.ofString "gw") = False := eq_false (by decide +kernel)
@[simp] theorem nb_20_18 : (PySem.Str.ofString "gf" == PySem.Str.ofString "gw") = false := by decide +kernel
@[simp] theorem ne_20_19 : (PySem.Str.ofString "gf" = PySem.Str.ofString "gg") = False := eq_false (by decide +kernel)
@[simp] theorem nb_20_19 : (PySem.Str.ofString "gf" == PySem.Str.ofString "gg") = false := by decide +kernel
@[simp] theorem ne_20_21 : (PySem.Str.ofString "gf" = PySem.Str.ofString "fr") = False := eq_false (by decide +kernel)
@[simp] theorem nb_20_21 : (PySem.Str.ofString "gf" == PySem.Str.ofString "fr") = false := by decide +kernel
@[simp] theorem ne_20_22 : (PySem.Str.ofString "gf" = PySem.Str.ofString "fw") = False := eq_false (by decide +kernel)
@[simp] theorem nb_20_22 : (PySem.Str.ofString "gf" == PySem.Str.ofString "fw") = false := by decide +kernel
@[simp] theorem ne_20_23 : (PySem.Str.ofString "gf" = PySem.Str.ofString "fg") = False := eq_false (by decide +kernel)
@[simp] theorem nb_20_23 : (PySem.Str.ofString "gf" == PySem.Str.ofString "fg") = false := by decide +kernel
@[simp] theorem ne_20_24 : (PySem.Str.ofString "gf" = PySem.Str.ofString "ff") = False := eq_false (by decide +kernel)
@[simp] theorem nb_20_24 : (PySem.Str.ofString "gf" == PySem.Str.ofString "ff") = false := by decide +kernel
@[simp] theorem ne_20_25 : (PySem.Str.ofString "gf" = PySem.Str.ofString "own") = False := eq_false (by decide +kernel)
@[simp] theorem nb_20_25 : (PySem.Str.ofString "gf" == PySem.Str.ofString "own") = false := by decide +kernel
@[simp] theorem ne_20_26 : (PySem.Str.ofString "gf" = PySem.Str.ofString "ss") = False := eq_false (by decide +kernel)
@[simp] theorem nb_20_26 : (PySem.Str.ofString "gf" == PySem.Str.ofString "ss") = false := by decide +kernel
@[simp] theorem ne_20_27 : (PySem.Str.ofString "gf" = PySem.Str.ofString "core") = False := eq_false (by decide +kernel)
@[simp] theorem nb_20_27 : (PySem.Str.ofString "gf" == PySem.Str.ofString "core") = false := by decide +kernel
@[simp] theorem ne_20_28 : (PySem.Str.ofString "gf" = PySem.Str.ofString "place") = False := eq_false (by decide +kernel)
@[simp] theorem nb_20_28 : (PySem.Str.ofString "gf" == PySem.Str.ofString "place") = false := by decide +kernel
@[simp] theorem ne_20_29 : (PySem.Str.ofString "gf" = PySem.Str.ofString "design") = False := eq_false (by decide +kernel)
@[simp] theorem nb_20_29 : (PySem.Str.ofString "gf" == PySem.Str.ofString "design") = false := by decide +kernel
@[simp] theorem ne_20_30 : (PySem.Str.ofString "gf" = PySem.Str.ofString "") = False := eq_false (by decide +kernel)
@[simp] theorem nb_20_30 : (PySem.Str.ofString "gf" == PySem.Str.ofString "") = false := by decide +kernel
@[simp] theorem ne_20_31 : (PySem.Str.ofString "gf" = PySem.Str.ofString "xx") = False := eq_false (by decide +kernel)
@[simp] theorem nb_20_31 : (PySem.Str.ofString "gf" == PySem.Str.ofString "xx") = false := by decide +kernel
@[simp] theorem ok_21 : PyData.strOk (PySem.Str.ofString "fr") = true := by decide +kernel
@[simp] theorem len_21 : (PySem.Str.ofString "fr").length = 2 := by decide +kernel
@[simp] theorem ne_21_0 : (PySem.Str.ofString "fr" = PySem.Str.ofString "read") = False := eq_false (by decide +kernel)
@[simp] theorem nb_21_0 : (PySem.Str.ofString "fr" == PySem.Str.ofString "read") = false := by decide +kernel
@[simp] theorem ne_21_1 : (PySem.Str.ofString "fr" = PySem.Str.ofString "write") = False := eq_false (by decide +kernel)
@[simp] theorem nb_21_1 : (PySem.Str.ofString "fr" == PySem.Str.ofString "write") = false := by decide +kernel
@[simp] theorem ne_21_2 : (PySem.Str.ofString "fr" = PySem.Str.ofString "copy") = False := eq_false (by decide +kernel)
@[simp] theorem nb_21_2 : (PySem.Str.ofString "fr" == PySem.Str.ofString "copy") = false := by decide +kernel
@[simp] theorem ne_21_3 : (PySem.Str.ofString "fr" = PySem.Str.ofString "fence") = False := eq_false (by decide +kernel)
@[simp] theorem nb_21_3 : (PySem.Str.ofString "fr" == PySem.Str.ofString "fence") = false := by decide +kernel
@[simp] theorem ne_21_4 : (PySem.Str.ofString "fr" = PySem.Str.ofString "guard") = False := eq_false (by decide +kernel)
@[simp] theorem nb_21_4 : (PySem.Str.ofString "fr" == PySem.Str.ofString "guard") = false := by decide +kernel
@[simp] theorem ne_21_5 : (PySem.Str.ofString "fr" = PySem.Str.ofString "r") = False := eq_false (by decide +kernel)
@[simp] theorem nb_21_5 : (PySem.Str.ofString "fr" == PySem.Str.ofString "r") = false := by decide +kernel
@[simp] theorem ne_21_6 : (PySem.Str.ofString "fr" = PySem.Str.ofString "w") = False := eq_false (by decide +kernel)
@[simp] theorem nb_21_6 : (PySem.Str.ofString "fr" == PySem.Str.ofString "w") = false := by decide +kernel
@[simp] theorem ne_21_7 : (PySem.Str.ofString "fr" = PySem.Str.ofString "g") = False := eq_false (by decide +kernel)
@[simp] theorem nb_21_7 : (PySem.Str.ofString "fr" == PySem.Str.ofString "g") = false := by decide +kernel
@[simp] theorem ne_21_8 : (PySem.Str.ofString "fr" = PySem.Str.ofString "f") = False := eq_false (by decide +kernel)
@[simp] theorem nb_21_8 : (PySem.Str.ofString "fr" == PySem.Str.ofString "f") = false := by decide +kernel
@[simp] theorem ne_21_9 : (PySem.Str.ofString "fr" = PySem.Str.ofString "rr") = False := eq_false (by decide +kernel)
@[simp] theorem nb_21_9 : (PySem.Str.ofString "fr" == PySem.Str.ofString "rr") = false := by decide +kernel
@[simp] theorem ne_21_10 : (PySem.Str.ofString "fr" = PySem.Str.ofString "rw") = False := eq_false (by decide +kernel)
@[simp] theorem nb_21_10 : (PySem.Str.ofString "fr" == PySem.Str.ofString "rw") = false := by decide +kernel
@[simp] theorem ne_21_11 : (PySem.Str.ofString "fr" = PySem.Str.ofString "rg") = False := eq_false (by decide +kernel)
@[simp] theorem nb_21_11 : (PySem.Str.ofString "fr" == PySem.Str.ofString "rg") = false := by decide +kernel
@[simp] theorem ne_21_12 : (PySem.Str.ofString "fr" = PySem.Str.ofString "rf") = False := eq_false (by decide +kernel)
@[simp] theorem nb_21_12 : (PySem.Str.ofString "fr" == PySem.Str.ofString "rf") = false := by decide +kernel
@[simp] theorem ne_21_13 : (PySem.Str.ofString "fr" = PySem.Str.ofString "wr") = False := eq_false (by decide +kernel)
@[simp] theorem nb_21_13 : (PySem.Str.ofString "fr" == PySem.Str.ofString "wr") = false := by decide +kernel
@[simp] theorem ne_21_14 : (PySem.Str.ofString "fr" = PySem.Str.ofString "ww") = False := eq_false (by decide +kernel)
@[simp] theorem nb_21_14 : (PySem.Str.ofString "fr" == PySem.Str.ofString "ww") = false := by decide +kernel
@[simp] theorem ne_21_15 : (PySem.Str.ofString "fr" = PySem.Str.ofString "wg") = False := eq_false (by decide +kernel)
@[simp] theorem nb_21_15 : (PySem.Str.ofString "fr" == PySem.Str.ofString "wg") = false := by decide +kernel
@[simp] theorem ne_21_16 : (PySem.Str.ofString "fr" = PySem.Str.ofString "wf") = False := eq_false (by decide +kernel)
@[simp] theorem nb_21_16 : (PySem.Str.ofString "fr" == PySem.Str.ofString "wf") = false := by decide +kernel
@[simp] theorem ne_21_17 : (PySem.Str.ofString "fr" = PySem.Str.ofString "gr") = False := eq_false (by decide +kernel)
@[simp] theorem nb_21_17 : (PySem.Str.ofString "fr" == PySem.Str.ofString "gr") = false := by decide +kernel
@[simp] theorem ne_21_18 : (PySem.Str.ofString "fr" = PySem.Str.ofString "gw") = False := eq_false (by decide +kernel)
@[simp] theorem nb_21_18 : (PySem.Str.ofString "fr" == PySem.Str.ofString "gw") = false := by decide +kernel
@[simp] theorem ne_21_19 : (PySem.Str.ofString "fr" = PySem.Str.ofString "gg") = False := eq_false (by decide +kernel)
@[simp] theorem nb_21_19 : (PySem.Str.ofString "fr" == PySem.Str.ofString "gg") = false := by decide +kernel
@[simp] theorem ne_21_20 : (PySem.Str.ofString "fr" = PySem.Str.ofString "gf") = False := eq_false (by decide +kernel)
@[simp] theorem nb_21_20 : (PySem.Str.ofString "fr" == PySem.Str.ofString "gf") = false := by decide +kernel
@[simp] theorem ne_21_22 : (PySem.Str.ofString "fr" = PySem.Str.ofString "fw") = False := eq_false (by decide +kernel)
@[simp] theorem nb_21_22 : (PySem.Str.ofString "fr" == PySem.Str.ofString "fw") = false := by decide +kernel
@[simp] theorem ne_21_23 : (PySem.Str.ofString "fr" = PySem.Str.ofString "fg") = False := eq_false (by decide +kernel)
@[simp] theorem nb_21_23 : (PySem.Str.ofString "fr" == PySem.Str.ofString "fg") = false := by decide +kernel
@[simp] theorem ne_21_24 : (PySem.Str.ofString "fr" = PySem.Str.ofString "ff") = False := eq_false (by decide +kernel)
@[simp] theorem nb_21_24 : (PySem.Str.ofString "fr" == PySem.Str.ofString "ff") = false := by decide +kernel
@[simp] theorem ne_21_25 : (PySem.Str.ofString "fr" = PySem.Str.ofString "own") = False := eq_false (by decide +kernel)
@[simp] theorem nb_21_25 : (PySem.Str.ofString "fr" == PySem.Str.ofString "own") = false := by decide +kernel
@[simp] theorem ne_21_26 : (PySem.Str.ofString "fr" = PySem.Str.ofString "ss") = False := eq_false (by decide +kernel)
@[simp] theorem nb_21_26 : (PySem.Str.ofString "fr" == PySem.Str.ofString "ss") = false := by decide +kernel
@[simp] theorem ne_21_27 : (PySem.Str.ofString "fr" = PySem.Str.ofString "core") = False := eq_false (by decide +kernel)
@[simp] theorem nb_21_27 : (PySem.Str.ofString "fr" == PySem.Str.ofString "core") = false := by decide +kernel
@[simp] theorem ne_21_28 : (PySem.Str.ofString "fr" = PySem.Str.ofString "place") = False := eq_false (by decide +kernel)
@[simp] theorem nb_21_28 : (PySem.Str.ofString "fr" == PySem.Str.ofString "place") = false := by decide +kernel
@[simp] theorem ne_21_29 : (PySem.Str.ofString "fr" = PySem.Str.ofString "design") = False := eq_false (by decide +kernel)
@[simp] theorem nb_21_29 : (PySem.Str.ofString "fr" == PySem.Str.ofString "design") = false := by decide +kernel
@[simp] theorem ne_21_30 : (PySem.Str.ofString "fr" = PySem.Str.ofString "") = False := eq_false (by decide +kernel)
@[simp] theorem nb_21_30 : (PySem.Str.ofString "fr" == PySem.Str.ofString "") = false := by decide +kernel
@[simp] theorem ne_21_31 : (PySem.Str.ofString "fr" = PySem.Str.ofString "xx") = False := eq_false (by decide +kernel)
@[simp] theorem nb_21_31 : (PySem.Str.ofString "fr" == PySem.Str.ofString "xx") = false := by decide +kernel
@[simp] theorem ok_22 : PyData.strOk (PySem.Str.ofString "fw") = true := by decide +kernel
@[simp] theorem len_22 : (PySem.Str.ofString "fw").length = 2 := by decide +kernel
@[simp] theorem ne_22_0 : (PySem.Str.ofString "fw" = PySem.Str.ofString "read") = False := eq_false (by decide +kernel)
@[simp] theorem nb_22_0 : (PySem.Str.ofString "fw" == PySem.Str.ofString "read") = false := by decide +kernel
@[simp] theorem ne_22_1 : (PySem.Str.ofString "fw" = PySem.Str.ofString "write") = False := eq_false (by decide +kernel)
@[simp] theorem nb_22_1 : (PySem.Str.ofString "fw" == PySem.Str.ofString "write") = false := by decide +kernel
@[simp] theorem ne_22_2 : (PySem.Str.ofString "fw" = PySem.Str.ofString "copy") = False := eq_false (by decide +kernel)
@[simp] theorem nb_22_2 : (PySem.Str.ofString "fw" == PySem.Str.ofString "copy") = false := by decide +kernel
@[simp] theorem ne_22_3 : (PySem.Str.ofString "fw" = PySem.Str.ofString "fence") = False := eq_false (by decide +kernel)
@[simp] theorem nb_22_3 : (PySem.Str.ofString "fw" == PySem.Str.ofString "fence") = false := by decide +kernel
@[simp] theorem ne_22_4 : (PySem.Str.ofString "fw" = PySem.Str.ofString "guard") = False := eq_false (by decide +kernel)
@[simp] theorem nb_22_4 : (PySem.Str.ofString "fw" == PySem.Str.ofString "guard") = false := by decide +kernel
@[simp] theorem ne_22_5 : (PySem.Str.ofString "fw" = PySem.Str.ofString "r") = False := eq_false (by decide +kernel)
@[simp] theorem nb_22_5 : (PySem.Str.ofString "fw" == PySem.Str.ofString "r") = false := by decide +kernel
@[simp] theorem ne_22_6 : (PySem.Str.ofString "fw" = PySem.Str.ofString "w") = False := eq_false (by decide +kernel)
@[simp] theorem nb_22_6 : (PySem.Str.ofString "fw" == PySem.Str.ofString "w") = false := by decide +kernel
@[simp] theorem ne_22_7 : (PySem.Str.ofString "fw" = PySem.Str.ofString "g") = False := eq_false (by decide +kernel)
@[simp] theorem nb_22_7 : (PySem.Str.ofString "fw" == PySem.Str.ofString "g") = false := by decide +kernel
@[simp] theorem ne_22_8 : (PySem.Str.ofString "fw" = PySem.Str.ofString "f") = False := eq_false (by decide +kernel)
@[simp] theorem nb_22_8 : (PySem.Str.ofString "fw" == PySem.Str.ofString "f") = false := by decide +kernel
@[simp] theorem ne_22_9 : (PySem.Str.ofString "fw" = PySem.Str.ofString "rr") = False := eq_false (by decide +kernel)
@[simp] theorem nb_22_9 : (PySem.Str.ofString "fw" == PySem.Str.ofString "rr") = false := by decide +kernel
@[simp] theorem ne_22_10 : (PySem.Str.ofString "fw" = PySem.Str.ofString "rw") = False := eq_false (by decide +kernel)
@[simp] theorem nb_22_10 : (PySem.Str.ofString "fw" == PySem.Str.ofString "rw") = false := by decide +kernel
@[simp] theorem ne_22_11 : (PySem.Str.ofString "fw" = PySem.Str.ofString "rg") = False := eq_false (by decide +kernel)
@[simp] theorem nb_22_11 : (PySem.Str.ofString "fw" == PySem.Str.ofString "rg") = false := by decide +kernel
@[simp] theorem ne_22_12 : (PySem.Str.ofString "fw" = PySem.Str.ofString "rf") = False := eq_false (by decide +kernel)
@[simp] theorem nb_22_12 : (PySem.Str.ofString "fw" == PySem.Str.ofString "rf") = false := by decide +kernel
@[simp] theorem ne_22_13 : (PySem.Str.ofString "fw" = PySem.Str.ofString "wr") = False := eq_false (by decide +kernel)
@[simp] theorem nb_22_13 : (PySem.Str.ofString "fw" == PySem.Str.ofString "wr") = false := by decide +kernel
@[simp] theorem ne_22_14 : (PySem.Str.ofString "fw" = PySem.Str.ofString "ww") = False := eq_false (by decide +kernel)
@[simp] theorem nb_22_14 : (PySem.Str.ofString "fw" == PySem.Str.ofString "ww") = false := by decide +kernel
@[simp] theorem ne_22_15 : (PySem.Str.ofString "fw" = PySem.Str.ofString "wg") = False := eq_false (by decide +kernel)
@[simp] theorem nb_22_15 : (PySem.Str.ofString "fw" == PySem.Str.ofString "wg") = false := by decide +kernel
@[simp] theorem ne_22_16 : (PySem.Str.ofString "fw" = PySem.Str.ofString "wf") = False := eq_false (by decide +kernel)
@[simp] theorem nb_22_16 : (PySem.Str.ofString "fw" == PySem.Str.ofString "wf") = false := by decide +kernel
@[simp] theorem ne_22_17 : (PySem.Str.ofString "fw" = PySem.Str.ofString "gr") = False := eq_false (by decide +kernel)
@[simp] theorem nb_22_17 : (PySem.Str.ofString "fw" == PySem.Str.ofString "gr") = false := by decide +kernel
@[simp] theorem ne_22_18 : (PySem.Str.ofString "fw" = PySem.Str.ofString "gw") = False := eq_false (by decide +kernel)
@[simp] theorem nb_22_18 : (PySem.Str.ofString "fw" == PySem.Str.ofString "gw") = false := by decide +kernel
@[simp] theorem ne_22_19 : (PySem.Str.ofString "fw" = PySem.Str.ofString "gg") = False := eq_false (by decide +kernel)
@[simp] theorem nb_22_19 : (PySem.Str.ofString "fw" == PySem.Str.ofString "gg") = false := by decide +kernel
@[simp] theorem ne_22_20 : (PySem.Str.ofString "fw" = PySem.Str.ofString "gf") = False := eq_false (by decide +kernel)
@[simp] theorem nb_22_20 : (PySem.Str.ofString "fw" == PySem.Str.ofString "gf") = false := by decide +kernel
@[simp] theorem ne_22_21 : (PySem.Str.ofString "fw" = PySem.Str.ofString "fr") = False := eq_false (by decide +kernel)
@[simp] theorem nb_22_21 : (PySem.Str.ofString "fw" == PySem.Str.ofString "fr") = false := by decide +kernel
@[simp] theorem ne_22_23 : (PySem.Str.ofString "fw" = PySem.Str.ofString "fg") = False := eq_false (by decide +kernel)
@[simp] theorem nb_22_23 : (PySem.Str.ofString "fw" == PySem.Str.ofString "fg") = false := by decide +kernel
@[simp] theorem ne_22_24 : (PySem.Str.ofString "fw" = PySem.Str.ofString "ff") = False := eq_false (by decide +kernel)
@[simp] theorem nb_22_24 : (PySem.Str.ofString "fw" == PySem.Str.ofString "ff") = false := by decide +kernel
@[simp] theorem ne_22_25 : (PySem.Str.ofString "fw" = PySem.Str.ofString "own") = False := eq_false (by decide +kernel)
@[simp] theorem nb_22_25 : (PySem.Str.ofString "fw" == PySem.Str.ofString "own") = false := by decide +kernel
@[simp] theorem ne_22_26 : (PySem.Str.ofString "fw" = PySem.Str.ofString "ss") = False := eq_false (by decide +kernel)
@[simp] theorem nb_22_26 : (PySem.Str.ofString "fw" == PySem.Str.ofString "ss") = false := by decide +kernel
@[simp] theorem ne_22_27 : (PySem.Str.ofString "fw" = PySem.Str.ofString "core") = False := eq_false (by decide +kernel)
@[simp] theorem nb_22_27 : (PySem.Str.ofString "fw" == PySem.Str.ofString "core") = false := by decide +kernel
@[simp] theorem ne_22_28 : (PySem.Str.ofString "fw" = PySem.Str.ofString "place") = False := eq_false (by decide +kernel)
@[simp] theorem nb_22_28 : (PySem.Str.ofString "fw" == PySem.Str.ofString "place") = false := by decide +kernel
@[simp] theorem ne_22_29 : (PySem.Str.ofString "fw" = PySem.Str.ofString "design") = False := eq_false (by decide +kernel)
@[simp] theorem nb_22_29 : (PySem.Str.ofString "fw" == PySem.Str.ofString "design") = false := by decide +kernel
@[simp] theorem ne_22_30 : (PySem.Str.ofString "fw" = PySem.Str.ofString "") = False := eq_false (by decide +kernel)
@[simp] theorem nb_22_30 : (PySem.Str.ofString "fw" == PySem.Str.ofString "") = false := by decide +kernel
@[simp] theorem ne_22_31 : (PySem.Str.ofString "fw" = PySem.Str.ofString "xx") = False := eq_false (by decide +kernel)
@[simp] theorem nb_22_31 : (PySem.Str.ofString "fw" == PySem.Str.ofString "xx") = false := by decide +kernel
@[simp] theorem ok_23 : PyData.strOk (PySem.Str.ofString "fg") = true := by decide +kernel
@[simp] theorem len_23 : (PySem.Str.ofString "fg").length = 2 := by decide +kernel
@[simp] theorem ne_23_0 : (PySem.Str.ofString "fg" = PySem.Str.ofString "read") = False := eq_false (by decide +kernel)
@[simp] theorem nb_23_0 : (PySem.Str.ofString "fg" == PySem.Str.ofString "read") = false := by decide +kernel
@[simp] theorem ne_23_1 : (PySem.Str.ofString "fg" = PySem.Str.ofString "write") = False := eq_false (by decide +kernel)
@[simp] theorem nb_23_1 : (PySem.Str.ofString "fg" == PySem.Str.ofString "write") = false := by decide +kernel
@[simp] theorem ne_23_2 : (PySem.Str.ofString "fg" = PySem.Str.ofString "copy") = False := eq_false (by decide +kernel)
@[simp] theorem nb_23_2 : (PySem.Str.ofString "fg" == PySem.Str.ofString "copy") = false := by decide +kernel
@[simp] theorem ne_23_3 : (PySem.Str.ofString "fg" = PySem.Str.ofString "fence") = False := eq_false (by decide +kernel)
@[simp] theorem nb_23_3 : (PySem.Str.ofString "fg" == PySem.Str.ofString "fence") = false := by decide +kernel
@[simp] theorem ne_23_4 : (PySem.Str.ofString "fg" = PySem.Str.ofString "guard") = False := eq_false (by decide +kernel)
@[simp] theorem nb_23_4 : (PySem.Str.ofString "fg" == PySem.Str.ofString "guard") = false := by decide +kernel
@[simp] theorem ne_23_5 : (PySem.Str.ofString "fg" = PySem.Str.ofString "r") = False := eq_false (by decide +kernel)
@[simp] theorem nb_23_5 : (PySem.Str.ofString "fg" == PySem.Str.ofString "r") = false := by decide +kernel
@[simp] theorem ne_23_6 : (PySem.Str.ofString "fg" = PySem.Str.ofString "w") = False := eq_false (by decide +kernel)
@[simp] theorem nb_23_6 : (PySem.Str.ofString "fg" == PySem.Str.ofString "w") = false := by decide +kernel
@[simp] theorem ne_23_7 : (PySem.Str.ofString "fg" = PySem.Str.ofString "g") = False := eq_false (by decide +kernel)
@[simp] theorem nb_23_7 : (PySem.Str.ofString "fg" == PySem.Str.ofString "g") = false := by decide +kernel
@[simp] theorem ne_23_8 : (PySem.Str.ofString "fg" = PySem.Str.ofString "f") = False := eq_false (by decide +kernel)
@[simp] theorem nb_23_8 : (PySem.Str.ofString "fg" == PySem.Str.ofString "f") = false := by decide +kernel
@[simp] theorem ne_23_9 : (PySem.Str.ofString "fg" = PySem.Str.ofString "rr") = False := eq_false (by decide +kernel)
@[simp] theorem nb_23_9 : (PySem.Str.ofString "fg" == PySem.Str.ofString "rr") = false := by decide +kernel
@[simp] theorem ne_23_10 : (PySem.Str.ofString "fg" = PySem.Str.ofString "rw") = False := eq_false (by decide +kernel)
@[simp] theorem nb_23_10 : (PySem.Str.ofString "fg" == PySem.Str.ofString "rw") = false := by decide +kernel
@[simp] theorem ne_23_11 : (PySem.Str.ofString "fg" = PySem.Str.ofString "rg") = False := eq_false (by decide +kernel)
@[simp] theorem nb_23_11 : (PySem.Str.ofString "fg" == PySem.Str.ofString "rg") = false := by decide +kernel
@[simp] theorem ne_23_12 : (PySem.Str.ofString "fg" = PySem.Str.ofString "rf") = False := eq_false (by decide +kernel)
@[simp] theorem nb_23_12 : (PySem.Str.ofString "fg" == PySem.Str.ofString "rf") = false := by decide +kernel
@[simp] theorem ne_23_13 : (PySem.Str.ofString "fg" = PySem.Str.ofString "wr") = False := eq_false (by decide +kernel)
@[simp] theorem nb_23_13 : (PySem.Str.ofString "fg" == PySem.Str.ofString "wr") = false := by decide +kernel
@[simp] theorem ne_23_14 : (PySem.Str.ofString "fg" = PySem.Str.ofString "ww") = False := eq_false (by decide +kernel)
@[simp] theorem nb_23_14 : (PySem.Str.ofString "fg" == PySem.Str.ofString "ww") = false := by decide +kernel
@[simp] theorem ne_23_15 : (PySem.Str.ofString "fg" = PySem.Str.ofString "wg") = False := eq_false (by decide +kernel)
@[simp] theorem nb_23_15 : (PySem.Str.ofString "fg" == PySem.Str.ofString "wg") = false := by decide +kernel
@[simp] theorem ne_23_16 : (PySem.Str.ofString "fg" = PySem.Str.ofString "wf") = False := eq_false (by decide +kernel)
@[simp] theorem nb_23_16 : (PySem.Str.ofString "fg" == PySem.Str.ofString "wf") = false := by decide +kernel
@[simp] theorem ne_23_17 : (PySem.Str.ofString "fg" = PySem.Str.ofString "gr") = False := eq_false (by decide +kernel)
@[simp] theorem nb_23_17 : (PySem.Str.ofString "fg" == PySem.Str.ofString "gr") = false := by decide +kernel
@[simp] theorem ne_23_18 : (PySem.Str.ofString "fg" = PySem.Str.ofString "gw") = False := eq_false (by decide +kernel)
@[simp] theorem nb_23_18 : (PySem.Str.ofString "fg" == PySem.Str.ofString "gw") = false := by decide +kernel
@[simp] theorem ne_23_19 : (PySem.Str.ofString "fg" = PySem.Str.ofString "gg") = False := eq_false (by decide +kernel)
@[simp] theorem nb_23_19 : (PySem.Str.ofString "fg" == PySem.Str.ofString "gg") = false := by decide +kernel
@[simp] theorem ne_23_20 : (PySem.Str.ofString "fg" = PySem.Str.ofString "gf") = False := eq_false (by decide +kernel)
@[simp] theorem nb_23_20 : (PySem.Str.ofString "fg" == PySem.Str.ofString "gf") = false := by decide +kernel
@[simp] theorem ne_23_21 : (PySem.Str.ofString "fg" = PySem.Str.ofString "fr") = False := eq_false (by decide +kernel)
@[simp] theorem nb_23_21 : (PySem.Str.ofString "fg" == PySem.Str.ofString "fr") = false := by decide +kernel
@[simp] theorem ne_23_22 : (PySem.Str.ofString "fg" = PySem.Str.ofString "fw") = False := eq_false (by decide +kernel)
@[simp] theorem nb_23_22 : (PySem.Str.ofString "fg" == PySem.Str.ofString "fw") = false := by decide +kernel
@[simp] theorem ne_23_24 : (PySem.Str.ofString "fg" = PySem.Str.ofString "ff") = False := eq_false (by decide +kernel)
@[simp] theorem nb_23_24 : (PySem.Str.ofString "fg" == PySem.Str.ofString "ff") = false := by decide +kernel
@[simp] theorem ne_23_25 : (PySem.Str.ofString "fg" = PySem.Str.ofString "own") = False := eq_false (by decide +kernel)
@[simp] theorem nb_23_25 : (PySem.Str.ofString "fg" == PySem.Str.ofString "own") = false := by decide +kernel
@[simp] theorem ne_23_26 : (PySem.Str.ofString "fg" = PySem.Str.ofString "ss") = False := eq_false (by decide +kernel)
@[simp] theorem nb_23_26 : (PySem.Str.ofString "fg" == PySem.Str.ofString "ss") = false := by decide +kernel
@[simp] theorem ne_23_27 : (PySem.Str.ofString "fg" = PySem.Str.ofString "core") = False := eq_false (by decide +kernel)
@[simp] theorem nb_23_27 : (PySem.Str.ofString "fg" == PySem.Str.ofString "core") = false := by decide +kernel
@[simp] theorem ne_23_28 : (PySem.Str.ofString "fg" = PySem.Str.ofString "place") = False := eq_false (by decide +kernel)
@[simp] theorem nb_23_28 : (PySem.Str.ofString "fg" == PySem.Str.ofString "place") = false := by decide +kernel
@[simp] theorem ne_23_29 : (PySem.Str.ofString "fg" = PySem.Str.ofString "design") = False := eq_false (by decide +kernel)
@[simp] theorem nb_23_29 : (PySem.Str.ofString "fg" == PySem.Str.ofString "design") = false := by decide +kernel
@[simp] theorem ne_23_30 : (PySem.Str.ofString "fg" = PySem.Str.ofString "") = False := eq_false (by decide +kernel)
@[simp] theorem nb_23_30 : (PySem.Str.ofString "fg" == PySem.Str.ofString "") = false := by decide +kernel
@[simp] theorem ne_23_31 : (PySem.Str.ofString "fg" = PySem.Str.ofString "xx") = False := eq_false (by decide +kernel)
@[simp] theorem nb_23_31 : (PySem.Str.ofString "fg" == PySem.Str.ofString "xx") = false := by decide +kernel
@[simp] theorem ok_24 : PyData.strOk (PySem.Str.ofString "ff") = true := by decide +kernel
@[simp] theorem len_24 : (PySem.Str.ofString "ff").length = 2 := by decide +kernel
@[simp] theorem ne_24_0 : (PySem.Str.ofString "ff" = PySem.Str.ofString "read") = False := eq_false (by decide +kernel)
@[simp] theorem nb_24_0 : (PySem.Str.ofString "ff" == PySem.Str.ofString "read") = false := by decide +kernel
@[simp] theorem ne_24_1 : (PySem.Str.ofString "ff" = PySem.Str.ofString "write") = False := eq_false (by decide +kernel)
@[simp] theorem nb_24_1 : (PySem.Str.ofString "ff" == PySem.Str.ofString "write") = false := by decide +kernel
@[simp] theorem ne_24_2 : (PySem.Str.ofString "ff" = PySem.Str.ofString "copy") = False := eq_false (by decide +kernel)
@[simp] theorem nb_24_2 : (PySem.Str.ofString "ff" == PySem.Str.ofString "copy") = false := by decide +kernel
@[simp] theorem ne_24_3 : (PySem.Str.ofString "ff" = PySem.Str.ofString "fence") = False := eq_false (by decide +kernel)
@[simp] theorem nb_24_3 : (PySem.Str.ofString "ff" == PySem.Str.ofString "fence") = false := by decide +kernel
@[simp] theorem ne_24_4 : (PySem.Str.ofString "ff" = PySem.Str.ofString "guard") = False := eq_false (by decide +kernel)
@[simp] theorem nb_24_4 : (PySem.Str.ofString "ff" == PySem.Str.ofString "guard") = false := by decide +kernel
@[simp] theorem ne_24_5 : (PySem.Str.ofString "ff" = PySem.Str.ofString "r") = False := eq_false (by decide +kernel)
@[simp] theorem nb_24_5 : (PySem.Str.ofString "ff" == PySem.Str.ofString "r") = false := by decide +kernel
@[simp] theorem ne_24_6 : (PySem.Str.ofString "ff" = PySem.Str.ofString "w") = False := eq_false (by decide +kernel)
@[simp] theorem nb_24_6 : (PySem.Str.ofString "ff" == PySem.Str.ofString "w") = false := by decide +kernel
@[simp] theorem ne_24_7 : (PySem.Str.ofString "ff" = PySem.Str.ofString "g") = False := eq_false (by decide +kernel)
@[simp] theorem nb_24_7 : (PySem.Str.ofString "ff" == PySem.Str.ofString "g") = false := by decide +kernel
@[simp] theorem ne_24_8 : (PySem.Str.ofString "ff" = PySem.Str.ofString "f") = False := eq_false (by decide +kernel)
@[simp] theorem nb_24_8 : (PySem.Str.ofString "ff" == PySem.Str.ofString "f") = false := by decide +kernel
@[simp] theorem ne_24_9 : (PySem.Str.ofString "ff" = PySem.Str.ofString "rr") = False := eq_false (by decide +kernel)
@[simp] theorem nb_24_9 : (PySem.Str.ofString "ff" == PySem.Str.ofString "rr") = false := by decide +kernel
@[simp] theorem ne_24_10 : (PySem.Str.ofString "ff" = PySem.Str.ofString "rw") = False := eq_false (by decide +kernel)
@[simp] theorem nb_24_10 : (PySem.Str.ofString "ff" == PySem.Str.ofString "rw") = false := by decide +kernel
@[simp] theorem ne_24_11 : (PySem.Str.ofString "ff" = PySem.Str.ofString "rg") = False := eq_false (by decide +kernel)
@[simp] theorem nb_24_11 : (PySem.Str.ofString "ff" == PySem.Str.ofString "rg") = false := by decide +kernel
@[simp] theorem ne_24_12 : (PySem.Str.ofString "ff" = PySem.Str.ofString "rf") = False := eq_false (by decide +kernel)
@[simp] theorem nb_24_12 : (PySem.Str.ofString "ff" == PySem.Str.ofString "rf") = false := by decide +kernel
@[simp] theorem ne_24_13 : (PySem.Str.ofString "ff" = PySem.Str.ofString "wr") = False := eq_false (by decide +kernel)
@[simp] theorem nb_24_13 : (PySem.Str.ofString "ff" == PySem.Str.ofString "wr") = false := by decide +kernel
@[simp] theorem ne_24_14 : (PySem.Str.ofString "ff" = PySem.Str.ofString "ww") = False := eq_false (by decide +kernel)
@[simp] theorem nb_24_14 : (PySem.Str.ofString "ff" == PySem.Str.ofString "ww") = false := by decide +kernel
@[simp] theorem ne_24_15 : (PySem.Str.ofString "ff" = PySem.Str.ofString "wg") = False := eq_false (by decide +kernel)
@[simp] theorem nb_24_15 : (PySem.Str.ofString "ff" == PySem.Str.ofString "wg") = false := by decide +kernel
@[simp] theorem ne_24_16 : (PySem.Str.ofString "ff" = PySem.Str.ofString "wf") = False := eq_false (by decide +kernel)
@[simp] theorem nb_24_16 : (PySem.Str.ofString "ff" == PySem.Str.ofString "wf") = false := by decide +kernel
@[simp] theorem ne_24_17 : (PySem.Str.ofString "ff" = PySem.Str.ofString "gr") = False := eq_false (by decide +kernel)
@[simp] theorem nb_24_17 : (PySem.Str.ofString "ff" == PySem.Str.ofString "gr") = false := by decide +kernel
@[simp] theorem ne_24_18 : (PySem.Str.ofString "ff" = PySem.Str.ofString "gw") = False := eq_false (by decide +kernel)
@[simp] theorem nb_24_18 : (PySem.Str.ofString "ff" == PySem.Str.ofString "gw") = false := by decide +kernel
@[simp] theorem ne_24_19 : (PySem.Str.ofString "ff" = PySem.Str.ofString "gg") = False := eq_false (by decide +kernel)
@[simp] theorem nb_24_19 : (PySem.Str.ofString "ff" == PySem.Str.ofString "gg") = false := by decide +kernel
@[simp] theorem ne_24_20 : (PySem.Str.ofString "ff" = PySem.Str.ofString "gf") = False := eq_false (by decide +kernel)
@[simp] theorem nb_24_20 : (PySem.Str.ofString "ff" == PySem.Str.ofString "gf") = false := by decide +kernel
@[simp] theorem ne_24_21 : (PySem.Str.ofString "ff" = PySem.Str.ofString "fr") = False := eq_false (by decide +kernel)
@[simp] theorem nb_24_21 : (PySem.Str.ofString "ff" == PySem.Str.ofString "fr") = false := by decide +kernel
@[simp] theorem ne_24_22 : (PySem.Str.ofString "ff" = PySem.Str.ofString "fw") = False := eq_false (by decide +kernel)
@[simp] theorem nb_24_22 : (PySem.Str.ofString "ff" == PySem.Str.ofString "fw") = false := by decide +kernel
@[simp] theorem ne_24_23 : (PySem.Str.ofString "ff" = PySem.Str.ofString "fg") = False := eq_false (by decide +kernel)
@[simp] theorem nb_24_23 : (PySem.Str.ofString "ff" == PySem.Str.ofString "fg") = false := by decide +kernel
@[simp] theorem ne_24_25 : (PySem.Str.ofString "ff" = PySem.Str.ofString "own") = False := eq_false (by decide +kernel)
@[simp] theorem nb_24_25 : (PySem.Str.ofString "ff" == PySem.Str.ofString "own") = false := by decide +kernel
@[simp] theorem ne_24_26 : (PySem.Str.ofString "ff" = PySem.Str.ofString "ss") = False := eq_false (by decide +kernel)
@[simp] theorem nb_24_26 : (PySem.Str.ofString "ff" == PySem.Str.ofString "ss") = false := by decide +kernel
@[simp] theorem ne_24_27 : (PySem.Str.ofString "ff" = PySem.Str.ofString "core") = False := eq_false (by decide +kernel)
@[simp] theorem nb_24_27 : (PySem.Str.ofString "ff" == PySem.Str.ofString "core") = false := by decide +kernel
@[simp] theorem ne_24_28 : (PySem.Str.ofString "ff" = PySem.Str.ofString "place") = False := eq_false (by decide +kernel)
@[simp] theorem nb_24_28 : (PySem.Str.ofString "ff" == PySem.Str.ofString "place") = false := by decide +kernel
@[simp] theorem ne_24_29 : (PySem.Str.ofString "ff" = PySem.Str.ofString "design") = False := eq_false (by decide +kernel)
@[simp] theorem nb_24_29 : (PySem.Str.ofString "ff" == PySem.Str.ofString "design") = false := by decide +kernel
@[simp] theorem ne_24_30 : (PySem.Str.ofString "ff" = PySem.Str.ofString "") = False := eq_false (by decide +kernel)
@[simp] theorem nb_24_30 : (PySem.Str.ofString "ff" == PySem.Str.ofString "") = false := by decide +kernel
@[simp] theorem ne_24_31 : (PySem.Str.ofString "ff" = PySem.Str.ofString "xx") = False := eq_false (by decide +kernel)
@[simp] theorem nb_24_31 : (PySem.Str.ofString "ff" == PySem.Str.ofString "xx") = false := by decide +kernel
@[simp] theorem ok_25 : PyData.strOk (PySem.Str.ofString "own") = true := by decide +kernel
@[simp] theorem len_25 : (PySem.Str.ofString "own").length = 3 := by decide +kernel
@[simp] theorem ne_25_0 : (PySem.Str.ofString "own" = PySem.Str.ofString "read") = False := eq_false (by decide +kernel)
@[simp] theorem nb_25_0 : (PySem.Str.ofString "own" == PySem.Str.ofString "read") = false := by decide +kernel
@[simp] theorem ne_25_1 : (PySem.Str.ofString "own" = PySem.Str.ofString "write") = False := eq_false (by decide +kernel)
@[simp] theorem nb_25_1 : (PySem.Str.ofString "own" == PySem.Str.ofString "write") = false := by decide +kernel
@[simp] theorem ne_25_2 : (PySem.Str.ofString "own" = PySem.Str.ofString "copy") = False := eq_false (by decide +kernel)
@[simp] theorem nb_25_2 : (PySem.Str.ofString "own" == PySem.Str.ofString "copy") = false := by decide +kernel
@[simp] theorem ne_25_3 : (PySem.Str.ofString "own" = PySem.Str.ofString "fence") = False := eq_false (by decide +kernel)
@[simp] theorem nb_25_3 : (PySem.Str.ofString "own" == PySem.Str.ofString "fence") = false := by decide +kernel
@[simp] theorem ne_25_4 : (PySem.Str.ofString "own" = PySem.Str.ofString "guard") = False := eq_false (by decide +kernel)
@[simp] theorem nb_25_4 : (PySem.Str.ofString "own" == PySem.Str.ofString "guard") = false := by decide +kernel
@[simp] theorem ne_25_5 : (PySem.Str.ofString "own" = PySem.Str.ofString "r") = False := eq_false (by decide +kernel)
@[simp] theorem nb_25_5 : (PySem.Str.ofString "own" == PySem.Str.ofString "r") = false := by decide +kernel
@[simp] theorem ne_25_6 : (PySem.Str.ofString "own" = PySem.Str.ofString "w") = False := eq_false (by decide +kernel)
@[simp] theorem nb_25_6 : (PySem.Str.ofString "own" == PySem.Str.ofString "w") = false := by decide +kernel
@[simp] theorem ne_25_7 : (PySem.Str.ofString "own" = PySem.Str.ofString "g") = False := eq_false (by decide +kernel)
@[simp] theorem nb_25_7 : (PySem.Str.ofString "own" == PySem.Str.ofString "g") = false := by decide +kernel
@[simp] theorem ne_25_8 : (PySem.Str.ofString "own" = PySem.Str.ofString "f") = False := eq_false (by decide +kernel)
@[simp] theorem nb_25_8 : (PySem.Str.ofString "own" == PySem.Str.ofString "f") = false := by decide +kernel
@[simp] theorem ne_25_9 : (PySem.Str.ofString "own" = PySem.Str.ofString "rr") = False := eq_false (by decide +kernel)
@[simp] theorem nb_25_9 : (PySem.Str.ofString "own" == PySem.Str.ofString "rr") = false := by decide +kernel
@[simp] theorem ne_25_10 : (PySem.Str.ofString "own" = PySem.Str.ofString "rw") = False := eq_false (by decide +kernel)
@[simp] theorem nb_25_10 : (PySem.Str.ofString "own" == PySem.Str.ofString "rw") = false := by decide +kernel
@[simp] theorem ne_25_11 : (PySem.Str.ofString "own" = PySem.Str.ofString "rg") = False := eq_false (by decide +kernel)
@[simp] theorem nb_25_11 : (PySem.Str.ofString "own" == PySem.Str.ofString "rg") = false := by decide +kernel
@[simp] theorem ne_25_12 : (PySem.Str.ofString "own" = PySem.Str.ofString "rf") = False := eq_false (by decide +kernel)
@[simp] theorem nb_25_12 : (PySem.Str.ofString "own" == PySem.Str.ofString "rf") = false := by decide +kernel
@[simp] theorem ne_25_13 : (PySem.Str.ofString "own" = PySem.Str.ofString "wr") = False := eq_false (by decide +kernel)
@[simp] theorem nb_25_13 : (PySem.Str.ofString "own" == PySem.Str.ofString "wr") = false := by decide +kernel
@[simp] theorem ne_25_14 : (PySem.Str.ofString "own" = PySem.Str.ofString "ww") = False := eq_false (by decide +kernel)
@[simp] theorem nb_25_14 : (PySem.Str.ofString "own" == PySem.Str.ofString "ww") = false := by decide +kernel
@[simp] theorem ne_25_15 : (PySem.Str.ofString "own" = PySem.Str.ofString "wg") = False := eq_false (by decide +kernel)
@[simp] theorem nb_25_15 : (PySem.Str.ofString "own" == PySem.Str.ofString "wg") = false := by decide +kernel
@[simp] theorem ne_25_16 : (PySem.Str.ofString "own" = PySem.Str.ofString "wf") = False := eq_false (by decide +kernel)
@[simp] theorem nb_25_16 : (PySem.Str.ofString "own" == PySem.Str.ofString "wf") = false := by decide +kernel
@[simp] theorem ne_25_17 : (PySem.Str.ofString "own" = PySem.Str.ofString "gr") = False := eq_false (by decide +kernel)
@[simp] theorem nb_25_17 : (PySem.Str.ofString "own" == PySem.Str.ofString "gr") = false := by decide +kernel
@[simp] theorem ne_25_18 : (PySem.Str.ofString "own" = PySem.Str.ofString "gw") = False := eq_false (by decide +kernel)
@[simp] theorem nb_25_18 : (PySem.Str.ofString "own" == PySem.Str.ofString "gw") = false := by decide +kernel
@[simp] theorem ne_25_19 : (PySem.Str.ofString "own" = PySem.Str.ofString "gg") = False := eq_false (by decide +kernel)
@[simp] theorem nb_25_19 : (PySem.Str.ofString "own" == PySem.Str.ofString "gg") = false := by decide +kernel
@[simp] theorem ne_25_20 : (PySem.Str.ofString "own" = PySem.Str.ofString "gf") = False := eq_false (by decide +kernel)
@[simp] theorem nb_25_20 : (PySem.Str.ofString "own" == PySem.Str.ofString "gf") = false := by decide +kernel
@[simp] theorem ne_25_21 : (PySem.Str.ofString "own" = PySem.Str.ofString "fr") = False := eq_false (by decide +kernel)
@[simp] theorem nb_25_21 : (PySem.Str.ofString "own" == PySem.Str.ofString "fr") = false := by decide +kernel
@[simp] theorem ne_25_22 : (PySem.Str.ofString "own" = PySem.Str.ofString "fw") = False := eq_false (by decide +kernel)
@[simp] theorem nb_25_22 : (PySem.Str.ofString "own" == PySem.Str.ofString "fw") = false := by decide +kernel
@[simp] theorem ne_25_23 : (PySem.Str.ofString "own" = PySem.Str.ofString "fg") = False := eq_false (by decide +kernel)
@[simp] theorem nb_25_23 : (PySem.Str.ofString "own" == PySem.Str.ofString "fg") = false := by decide +kernel
@[simp] theorem ne_25_24 : (PySem.Str.ofString "own" = PySem.Str.ofString "ff") = False := eq_false (by decide +kernel)
@[simp] theorem nb_25_24 : (PySem.Str.ofString "own" == PySem.Str.ofString "ff") = false := by decide +kernel
@[simp] theorem ne_25_26 : (PySem.Str.ofString "own" = PySem.Str.ofString "ss") = False := eq_false (by decide +kernel)
@[simp] theorem nb_25_26 : (PySem.Str.ofString "own" == PySem.Str.ofString "ss") = false := by decide +kernel
@[simp] theorem ne_25_27 : (PySem.Str.ofString "own" = PySem.Str.ofString "core") = False := eq_false (by decide +kernel)
@[simp] theorem nb_25_27 : (PySem.Str.ofString "own" == PySem.Str.ofString "core") = false := by decide +kernel
@[simp] theorem ne_25_28 : (PySem.Str.ofString "own" = PySem.Str.ofString "place") = False := eq_false (by decide +kernel)
@[simp] theorem nb_25_28 : (PySem.Str.ofString "own" == PySem.Str.ofString "place") = false := by decide +kernel
@[simp] theorem ne_25_29 : (PySem.Str.ofString "own" = PySem.Str.ofString "design") = False := eq_false (by decide +kernel)
@[simp] theorem nb_25_29 : (PySem.Str.ofString "own" == PySem.Str.ofString "design") = false := by decide +kernel
@[simp] theorem ne_25_30 : (PySem.Str.ofString "own" = PySem.Str.ofString "") = False := eq_false (by decide +kernel)
@[simp] theorem nb_25_30 : (PySem.Str.ofString "own" == PySem.Str.ofString "") = false := by decide +kernel
@[simp] theorem ne_25_31 : (PySem.Str.ofString "own" = PySem.Str.ofString "xx") = False := eq_false (by decide +kernel)
@[simp] theorem nb_25_31 : (PySem.Str.ofString "own" == PySem.Str.ofString "xx") = false := by decide +kernel
@[simp] theorem ok_26 : PyData.strOk (PySem.Str.ofString "ss") = true := by decide +kernel
@[simp] theorem len_26 : (PySem.Str.ofString "ss").length = 2 := by decide +kernel
@[simp] theorem ne_26_0 : (PySem.Str.ofString "ss" = PySem.Str.ofString "read") = False := eq_false (by decide +kernel)
@[simp] theorem nb_26_0 : (PySem.Str.ofString "ss" == PySem.Str.ofString "read") = false := by decide +kernel
@[simp] theorem ne_26_1 : (PySem.Str.ofString "ss" = PySem.Str.ofString "write") = False := eq_false (by decide +kernel)
@[simp] theorem nb_26_1 : (PySem.Str.ofString "ss" == PySem.Str.ofString "write") = false := by decide +kernel
@[simp] theorem ne_26_2 : (PySem.Str.ofString "ss" = PySem.Str.ofString "copy") = False := eq_false (by decide +kernel)
@[simp] theorem nb_26_2 : (PySem.Str.ofString "ss" == PySem.Str.ofString "copy") = false := by decide +kernel
@[simp] theorem ne_26_3 : (PySem.Str.ofString "ss" = PySem.Str.ofString "fence") = False := eq_false (by decide +kernel)
@[simp] theorem nb_26_3 : (PySem.Str.ofString "ss" == PySem.Str.ofString "fence") = false := by decide +kernel
@[simp] theorem ne_26_4 : (PySem.Str.ofString "ss" = PySem.Str.ofString "guard") = False := eq_false (by decide +kernel)
@[simp] theorem nb_26_4 : (PySem.Str.ofString "ss" == PySem.Str.ofString "guard") = false := by decide +kernel
@[simp] theorem ne_26_5 : (PySem.Str.ofString "ss" = PySem.Str.ofString "r") = False := eq_false (by decide +kernel)
@[simp] theorem nb_26_5 : (PySem.Str.ofString "ss" == PySem.Str.ofString "r") = false := by decide +kernel
@[simp] theorem ne_26_6 : (PySem.Str.ofString "ss" = PySem.Str.ofString "w") = False := eq_false (by decide +kernel)
@[simp] theorem nb_26_6 : (PySem.Str.ofString "ss" == PySem.Str.ofString "w") = false := by decide +kernel
@[simp] theorem ne_26_7 : (PySem.Str.ofString "ss" = PySem.Str.ofString "g") = False := eq_false (by decide +kernel)
@[simp] theorem nb_26_7 : (PySem.Str.ofString "ss" == PySem.Str.ofString "g") = false := by decide +kernel
@[simp] theorem ne_26_8 : (PySem.Str.ofString "ss" = PySem.Str.ofString "f") = False := eq_false (by decide +kernel)
@[simp] theorem nb_26_8 : (PySem.Str.ofString "ss" == PySem.Str.ofString "f") = false := by decide +kernel
@[simp] theorem ne_26_9 : (PySem.Str.ofString "ss" = PySem.Str.ofString "rr") = False := eq_false (by decide +kernel)
@[simp] theorem nb_26_9 : (PySem.Str.ofString "ss" == PySem.Str.ofString "rr") = false := by decide +kernel
@[simp] theorem ne_26_10 : (PySem.Str.ofString "ss" = PySem.Str.ofString "rw") = False := eq_false (by decide +kernel)
@[simp] theorem nb_26_10 : (PySem.Str.ofString "ss" == PySem.Str.ofString "rw") = false := by decide +kernel
@[simp] theorem ne_26_11 : (PySem.Str.ofString "ss" = PySem.Str.ofString "rg") = False := eq_false (by decide +kernel)
@[simp] theorem nb_26_11 : (PySem.Str.ofString "ss" == PySem.Str.ofString "rg") = false := by decide +kernel
@[simp] theorem ne_26_12 : (PySem.Str.ofString "ss" = PySem.Str.ofString "rf") = False := eq_false (by decide +kernel)
@[simp] theorem nb_26_12 : (PySem.Str.ofString "ss" == PySem.Str.ofString "rf") = false := by decide +kernel
@[simp] theorem ne_26_13 : (PySem.Str.ofString "ss" = PySem.Str.ofString "wr") = False := eq_false (by decide +kernel)
@[simp] theorem nb_26_13 : (PySem.Str.ofString "ss" == PySem.Str.ofString "wr") = false := by decide +kernel
@[simp] theorem ne_26_14 : (PySem.Str.ofString "ss" = PySem.Str.ofString "ww") = False := eq_false (by decide +kernel)
@[simp] theorem nb_26_14 : (PySem.Str.ofString "ss" == PySem.Str.ofString "ww") = false := by decide +kernel
@[simp] theorem ne_26_15 : (PySem.Str.ofString "ss" = PySem.Str.ofString "wg") = False := eq_false (by decide +kernel)
@[simp] theorem nb_26_15 : (PySem.Str.ofString "ss" == PySem.Str.ofString "wg") = false := by decide +kernel
@[simp] theorem ne_26_16 : (PySem.Str.ofString "ss" = PySem.Str.ofString "wf") = False := eq_false (by decide +kernel)
@[simp] theorem nb_26_16 : (PySem.Str.ofString "ss" == PySem.Str.ofString "wf") = false := by decide +kernel
@[simp] theorem ne_26_17 : (PySem.Str.ofString "ss" = PySem.Str.ofString "gr") = False := eq_false (by decide +kernel)
@[simp] theorem nb_26_17 : (PySem.Str.ofString "ss" == PySem.Str.ofString "gr") = false := by decide +kernel
@[simp] theorem ne_26_18 : (PySem.Str.ofString "ss" = PySem.Str.ofString "gw") = False := eq_false (by decide +kernel)
@[simp] theorem nb_26_18 : (PySem.Str.ofString "ss" == PySem.Str.ofString "gw") = false := by decide +kernel
@[simp] theorem ne_26_19 : (PySem.Str.ofString "ss" = PySem.Str.ofString "gg") = False := eq_false (by decide +kernel)
@[simp] theorem nb_26_19 : (PySem.Str.ofString "ss" == PySem.Str.ofString "gg") = false := by decide +kernel
@[simp] theorem ne_26_20 : (PySem.Str.ofString "ss" = PySem.Str.ofString "gf") = False := eq_false (by decide +kernel)
@[simp] theorem nb_26_20 : (PySem.Str.ofString "ss" == PySem.Str.ofString "gf") = false := by decide +kernel
@[simp] theorem ne_26_21 : (PySem.Str.ofString "ss" = PySem.Str.ofString "fr") = False := eq_false (by decide +kernel)
@[simp] theorem nb_26_21 : (PySem.Str.ofString "ss" == PySem.Str.ofString "fr") = false := by decide +kernel
@[simp] theorem ne_26_22 : (PySem.Str.ofString "ss" = PySem.Str.ofString "fw") = False := eq_false (by decide +kernel)
@[simp] theorem nb_26_22 : (PySem.Str.ofString "ss" == PySem.Str.ofString "fw") = false := by decide +kernel
@[simp] theorem ne_26_23 : (PySem.Str.ofString "ss" = PySem.Str.ofString "fg") = False := eq_false (by decide +kernel)
@[simp] theorem nb_26_23 : (PySem.Str.ofString "ss" == PySem.Str.ofString "fg") = false := by decide +kernel
@[simp] theorem ne_26_24 : (PySem.Str.ofString "ss" = PySem.Str.ofString "ff") = False := eq_false (by decide +kernel)
@[simp] theorem nb_26_24 : (PySem.Str.ofString "ss" == PySem.Str.ofString "ff") = false := by decide +kernel
@[simp] theorem ne_26_25 : (PySem.Str.ofString "ss" = PySem.Str.ofString "own") = False := eq_false (by decide +kernel)
@[simp] theorem nb_26_25 : (PySem.Str.ofString "ss" == PySem.Str.ofString "own") = false := by decide +kernel
@[simp] theorem ne_26_27 : (PySem.Str.ofString "ss" = PySem.Str.ofString "core") = False := eq_false (by decide +kernel)
@[simp] theorem nb_26_27 : (PySem.Str.ofString "ss" == PySem.Str.ofString "core") = false := by decide +kernel
@[simp] theorem ne_26_28 : (PySem.Str.ofString "ss" = PySem.Str.ofString "place") = False := eq_false (by decide +kernel)
@[simp] theorem nb_26_28 : (PySem.Str.ofString "ss" == PySem.Str.ofString "place") = false := by decide +kernel
@[simp] theorem ne_26_29 : (PySem.Str.ofString "ss" = PySem.Str.ofString "design") = False := eq_false (by decide +kernel)
@[simp] theorem nb_26_29 : (PySem.Str.ofString "ss" == PySem.Str.ofString "design") = false := by decide +kernel
@[simp] theorem ne_26_30 : (PySem.Str.ofString "ss" = PySem.Str.ofString "") = False := eq_false (by decide +kernel)
@[simp] theorem nb_26_30 : (PySem.Str.ofString "ss" == PySem.Str.ofString "") = false := by decide +kernel
@[simp] theorem ne_26_31 : (PySem.Str.ofString "ss" = PySem.Str.ofString "xx") = False := eq_false (by decide +kernel)
@[simp] theorem nb_26_31 : (PySem.Str.ofString "ss" == PySem.Str.ofString "xx") = false := by decide +kernel
@[simp] theorem ok_27 : PyData.strOk (PySem.Str.ofString "core") = true := by decide +kernel
@[simp] theorem len_27 : (PySem.Str.ofString "core").length = 4 := by decide +kernel
@[simp] theorem ne_27_0 : (PySem.Str.ofString "core" = PySem.Str.ofString "read") = False := eq_false (by decide +kernel)
@[simp] theorem nb_27_0 : (PySem.Str.ofString "core" == PySem.Str.ofString "read") = false := by decide +kernel
@[simp] theorem ne_27_1 : (PySem.Str.ofString "core" = PySem.Str.ofString "write") = False := eq_false (by decide +kernel)
@[simp] theorem nb_27_1 : (PySem.Str.ofString "core" == PySem.Str.ofString "write") = false := by decide +kernel
@[simp] theorem ne_27_2 : (PySem.Str.ofString "core" = PySem.Str.ofString "copy") = False := eq_false (by decide +kernel)
@[simp] theorem nb_27_2 : (PySem.Str.ofString "core" == PySem.Str.ofString "copy") = false := by decide +kernel
@[simp] theorem ne_27_3 : (PySem.Str.ofString "core" = PySem.Str.ofString "fence") = False := eq_false (by decide +kernel)
@[simp] theorem nb_27_3 : (PySem.Str.ofString "core" == PySem.Str.ofString "fence") = false := by decide +kernel
@[simp] theorem ne_27_4 : (PySem.Str.ofString "core" = PySem.Str.ofString "guard") = False := eq_false (by decide +kernel)
@[simp] theorem nb_27_4 : (PySem.Str.ofString "core" == PySem.Str.ofString "guard") = false := by decide +kernel
@[simp] theorem ne_27_5 : (PySem.Str.ofString "core" = PySem.Str.ofString "r") = False := eq_false (by decide +kernel)
@[simp] theorem nb_27_5 : (PySem.Str.ofString "core" == PySem.Str.ofString "r") = false := by decide +kernel
@[simp] theorem ne_27_6 : (PySem.Str.ofString "core" = PySem.Str.ofString "w") = False := eq_false (by decide +kernel)
@[simp] theorem nb_27_6 : (PySem.Str.ofString "core" == PySem.Str.ofString "w") = false := by decide +kernel
@[simp] theorem ne_27_7 : (PySem.Str.ofString "core" = PySem.Str.ofString "g") = False := eq_false (by decide +kernel)
@[simp] theorem nb_27_7 : (PySem.Str.ofString "core" == PySem.Str.ofString "g") = false := by decide +kernel
@[simp] theorem ne_27_8 : (PySem.Str.ofString "core" = PySem.Str.ofString "f") = False := eq_false (by decide +kernel)
@[simp] theorem nb_27_8 : (PySem.Str.ofString "core" == PySem.Str.ofString "f") = false := by decide +kernel
@[simp] theorem ne_27_9 : (PySem.Str.ofString "core" = PySem.Str.ofString "rr") = False := eq_false (by decide +kernel)
@[simp] theorem nb_27_9 : (PySem.Str.ofString "core" == PySem.Str.ofString "rr") = false := by decide +kernel
@[simp] theorem ne_27_10 : (PySem.Str.ofString "core" = PySem.Str.ofString "rw") = False := eq_false (by decide +kernel)
@[simp] theorem nb_27_10 : (PySem.Str.ofString "core" == PySem.Str.ofString "rw") = false := by decide +kernel
@[simp] theorem ne_27_11 : (PySem.Str.ofString "core" = PySem.Str.ofString "rg") = False := eq_false (by decide +kernel)
@[simp] theorem nb_27_11 : (PySem.Str.ofString "core" == PySem.Str.ofString "rg") = false := by decide +kernel
@[simp] theorem ne_27_12 : (PySem.Str.ofString "core" = PySem.Str.ofString "rf") = False := eq_false (by decide +kernel)
@[simp] theorem nb_27_12 : (PySem.Str.ofString "core" == PySem.Str.ofString "rf") = false := by decide +kernel
@[simp] theorem ne_27_13 : (PySem.Str.ofString "core" = PySem.Str.ofString "wr") = False := eq_false (by decide +kernel)
@[simp] theorem nb_27_13 : (PySem.Str.ofString "core" == PySem.Str.ofString "wr") = false := by decide +kernel
@[simp] theorem ne_27_14 : (PySem.Str.ofString "core" = PySem.Str.ofString "ww") = False := eq_false (by decide +kernel)
@[simp] theorem nb_27_14 : (PySem.Str.ofString "core" == PySem.Str.ofString "ww") = false := by decide +kernel
@[simp] theorem ne_27_15 : (PySem.Str.ofString "core" = PySem.Str.ofString "wg") = False := eq_false (by decide +kernel)
@[simp] theorem nb_27_15 : (PySem.Str.ofString "core" == PySem.Str.ofString "wg") = false := by decide +kernel
@[simp] theorem ne_27_16 : (PySem.Str.ofString "core" = PySem.Str.ofString "wf") = False := eq_false (by decide +kernel)
@[simp] theorem nb_27_16 : (PySem.Str.ofString "core" == PySem.Str.ofString "wf") = false := by decide +kernel
@[simp] theorem ne_27_17 : (PySem.Str.ofString "core" = PySem.Str.ofString "gr") = False := eq_false (by decide +kernel)
@[simp] theorem nb_27_17 : (PySem.Str.ofString "core" == PySem.Str.ofString "gr") = false := by decide +kernel
@[simp] theorem ne_27_18 : (PySem.Str.ofString "core" = PySem.Str.ofString "gw") = False := eq_false (by decide +kernel)
@[simp] theorem nb_27_18 : (PySem.Str.ofString "core" == PySem.Str.ofString "gw") = false := by decide +kernel
@[simp] theorem ne_27_19 : (PySem.Str.ofString "core" = PySem.Str.ofString "gg") = False := eq_false (by decide +kernel)
@[simp] theorem nb_27_19 : (PySem.Str.ofString "core" == PySem.Str.ofString "gg") = false := by decide +kernel
@[simp] theorem ne_27_20 : (PySem.Str.ofString "core" = PySem.Str.ofString "gf") = False := eq_false (by decide +kernel)
@[simp] theorem nb_27_20 : (PySem.Str.ofString "core" == PySem.Str.ofString "gf") = false := by decide +kernel
@[simp] theorem ne_27_21 : (PySem.Str.ofString "core" = PySem.Str.ofString "fr") = False := eq_false (by decide +kernel)
@[simp] theorem nb_27_21 : (PySem.Str.ofString "core" == PySem.Str.ofString "fr") = false := by decide +kernel
@[simp] theorem ne_27_22 : (PySem.Str.ofString "core" = PySem.Str.ofString "fw") = False := eq_false (by decide +kernel)
@[simp] theorem nb_27_22 : (PySem.Str.ofString "core" == PySem.Str.ofString "fw") = false := by decide +kernel
@[simp] theorem ne_27_23 : (PySem.Str.ofString "core" = PySem.Str.ofString "fg") = False := eq_false (by decide +kernel)
@[simp] theorem nb_27_23 : (PySem.Str.ofString "core" == PySem.Str.ofString "fg") = false := by decide +kernel
@[simp] theorem ne_27_24 : (PySem.Str.ofString "core" = PySem.Str.ofString "ff") = False := eq_false (by decide +kernel)
@[simp] theorem nb_27_24 : (PySem.Str.ofString "core" == PySem.Str.ofString "ff") = false := by decide +kernel
@[simp] theorem ne_27_25 : (PySem.Str.ofString "core" = PySem.Str.ofString "own") = False := eq_false (by decide +kernel)
@[simp] theorem nb_27_25 : (PySem.Str.ofString "core" == PySem.Str.ofString "own") = false := by decide +kernel
@[simp] theorem ne_27_26 : (PySem.Str.ofString "core" = PySem.Str.ofString "ss") = False := eq_false (by decide +kernel)
@[simp] theorem nb_27_26 : (PySem.Str.ofString "core" == PySem.Str.ofString "ss") = false := by decide +kernel
@[simp] theorem ne_27_28 : (PySem.Str.ofString "core" = PySem.Str.ofString "place") = False := eq_false (by decide +kernel)
@[simp] theorem nb_27_28 : (PySem.Str.ofString "core" == PySem.Str.ofString "place") = false := by decide +kernel
@[simp] theorem ne_27_29 : (PySem.Str.ofString "core" = PySem.Str.ofString "design") = False := eq_false (by decide +kernel)
@[simp] theorem nb_27_29 : (PySem.Str.ofString "core" == PySem.Str.ofString "design") = false := by decide +kernel
@[simp] theorem ne_27_30 : (PySem.Str.ofString "core" = PySem.Str.ofString "") = False := eq_false (by decide +kernel)
@[simp] theorem nb_27_30 : (PySem.Str.ofString "core" == PySem.Str.ofString "") = false := by decide +kernel
@[simp] theorem ne_27_31 : (PySem.Str.ofString "core" = PySem.Str.ofString "xx") = False := eq_false (by decide +kernel)
@[simp] theorem nb_27_31 : (PySem.Str.ofString "core" == PySem.Str.ofString "xx") = false := by decide +kernel
@[simp] theorem ok_28 : PyData.strOk (PySem.Str.ofString "place") = true := by decide +kernel
@[simp] theorem len_28 : (PySem.Str.ofString "place").length = 5 := by decide +kernel
@[simp] theorem ne_28_0 : (PySem.Str.ofString "place" = PySem.Str.ofString "read") = False := eq_false (by decide +kernel)
@[simp] theorem nb_28_0 : (PySem.Str.ofString "place" == PySem.Str.ofString "read") = false := by decide +kernel
@[simp] theorem ne_28_1 : (PySem.Str.ofString "place" = PySem.Str.ofString "write") = False := eq_false (by decide +kernel)
@[simp] theorem nb_28_1 : (PySem.Str.ofString "place" == PySem.Str.ofString "write") = false := by decide +kernel
@[simp] theorem ne_28_2 : (PySem.Str.ofString "place" = PySem.Str.ofString "copy") = False := eq_false (by decide +kernel)
@[simp] theorem nb_28_2 : (PySem.Str.ofString "place" == PySem.Str.ofString "copy") = false := by decide +kernel
@[simp] theorem ne_28_3 : (PySem.Str.ofString "place" = PySem.Str.ofString "fence") = False := eq_false (by decide +kernel)
@[simp] theorem nb_28_3 : (PySem.Str.ofString "place" == PySem.Str.ofString "fence") = false := by decide +kernel
@[simp] theorem ne_28_4 : (PySem.Str.ofString "place" = PySem.Str.ofString "guard") = False := eq_false (by decide +kernel)
@[simp] theorem nb_28_4 : (PySem.Str.ofString "place" == PySem.Str.ofString "guard") = false := by decide +kernel
@[simp] theorem ne_28_5 : (PySem.Str.ofString "place" = PySem.Str.ofString "r") = False := eq_false (by decide +kernel)
@[simp] theorem nb_28_5 : (PySem.Str.ofString "place" == PySem.Str.ofString "r") = false := by decide +kernel
@[simp] theorem ne_28_6 : (PySem.Str.ofString "place" = PySem.Str.ofString "w") = False := eq_false (by decide +kernel)
@[simp] theorem nb_28_6 : (PySem.Str.ofString "place" == PySem.Str.ofString "w") = false := by decide +kernel
@[simp] theorem ne_28_7 : (PySem.Str.ofString "place" = PySem.Str.ofString "g") = False := eq_false (by decide +kernel)
@[simp] theorem nb_28_7 : (PySem.Str.ofString "place" == PySem.Str.ofString "g") = false := by decide +kernel
@[simp] theorem ne_28_8 : (PySem.Str.ofString "place" = PySem.Str.ofString "f") = False := eq_false (by decide +kernel)
@[simp] theorem nb_28_8 : (PySem.Str.ofString "place" == PySem.Str.ofString "f") = false := by decide +kernel
@[simp] theorem ne_28_9 : (PySem.Str.ofString "place" = PySem.Str.ofString "rr") = False := eq_false (by decide +kernel)
@[simp] theorem nb_28_9 : (PySem.Str.ofString "place" == PySem.Str.ofString "rr") = false := by decide +kernel
@[simp] theorem ne_28_10 : (PySem.Str.ofString "place" = PySem.Str.ofString "rw") = False := eq_false (by decide +kernel)
@[simp] theorem nb_28_10 : (PySem.Str.ofString "place" == PySem.Str.ofString "rw") = false := by decide +kernel
@[simp] theorem ne_28_11 : (PySem.Str.ofString "place" = PySem.Str.ofString "rg") = False := eq_false (by decide +kernel)
@[simp] theorem nb_28_11 : (PySem.Str.ofString "place" == PySem.Str.ofString "rg") = false := by decide +kernel
@[simp] theorem ne_28_12 : (PySem.Str.ofString "place" = PySem.Str.ofString "rf") = False := eq_false (by decide +kernel)
@[simp] theorem nb_28_12 : (PySem.Str.ofString "place" == PySem.Str.ofString "rf") = false := by decide +kernel
@[simp] theorem ne_28_13 : (PySem.Str.ofString "place" = PySem.Str.ofString "wr") = False := eq_false (by decide +kernel)
@[simp] theorem nb_28_13 : (PySem.Str.ofString "place" == PySem.Str.ofString "wr") = false := by decide +kernel
@[simp] theorem ne_28_14 : (PySem.Str.ofString "place" = PySem.Str.ofString "ww") = False := eq_false (by decide +kernel)
@[simp] theorem nb_28_14 : (PySem.Str.ofString "place" == PySem.Str.ofString "ww") = false := by decide +kernel
@[simp] theorem ne_28_15 : (PySem.Str.ofString "place" = PySem.Str.ofString "wg") = False := eq_false (by decide +kernel)
@[simp] theorem nb_28_15 : (PySem.Str.ofString "place" == PySem.Str.ofString "wg") = false := by decide +kernel
@[simp] theorem ne_28_16 : (PySem.Str.ofString "place" = PySem.Str.ofString "wf") = False := eq_false (by decide +kernel)
@[simp] theorem nb_28_16 : (PySem.Str.ofString "place" == PySem.Str.ofString "wf") = false := by decide +kernel
@[simp] theorem ne_28_17 : (PySem.Str.ofString "place" = PySem.Str.ofString "gr") = False := eq_false (by decide +kernel)
@[simp] theorem nb_28_17 : (PySem.Str.ofString "place" == PySem.Str.ofString "gr") = false := by decide +kernel
@[simp] theorem ne_28_18 : (PySem.Str.ofString "place" = PySem.Str.ofString "gw") = False := eq_false (by decide +kernel)
@[simp] theorem nb_28_18 : (PySem.Str.ofString "place" == PySem.Str.ofString "gw") = false := by decide +kernel
@[simp] theorem ne_28_19 : (PySem.Str.ofString "place" = PySem.Str.ofString "gg") = False := eq_false (by decide +kernel)
@[simp] theorem nb_28_19 : (PySem.Str.ofString "place" == PySem.Str.ofString "gg") = false := by decide +kernel
@[simp] theorem ne_28_20 : (PySem.Str.ofString "place" = PySem.Str.ofString "gf") = False := eq_false (by decide +kernel)
@[simp] theorem nb_28_20 : (PySem.Str.ofString "place" == PySem.Str.ofString "gf") = false := by decide +kernel
@[simp] theorem ne_28_21 : (PySem.Str.ofString "place" = PySem.Str.ofString "fr") = False := eq_false (by decide +kernel)
@[simp] theorem nb_28_21 : (PySem.Str.ofString "place" == PySem.Str.ofString "fr") = false := by decide +kernel
@[simp] theorem ne_28_22 : (PySem.Str.ofString "place" = PySem.Str.ofString "fw") = False := eq_false (by decide +kernel)
@[simp] theorem nb_28_22 : (PySem.Str.ofString "place" == PySem.Str.ofString "fw") = false := by decide +kernel
@[simp] theorem ne_28_23 : (PySem.Str.ofString "place" = PySem.Str.ofString "fg") = False := eq_false (by decide +kernel)
@[simp] theorem nb_28_23 : (PySem.Str.ofString "place" == PySem.Str.ofString "fg") = false := by decide +kernel
@[simp] theorem ne_28_24 : (PySem.Str.ofString "place" = PySem.Str.ofString "ff") = False := eq_false (by decide +kernel)
@[simp] theorem nb_28_24 : (PySem.Str.ofString "place" == PySem.Str.ofString "ff") = false := by decide +kernel
@[simp] theorem ne_28_25 : (PySem.Str.ofString "place" = PySem.Str.ofString "own") = False := eq_false (by decide +kernel)
@[simp] theorem nb_28_25 : (PySem.Str.ofString "place" == PySem.Str.ofString "own") = false := by decide +kernel
@[simp] theorem ne_28_26 : (PySem.Str.ofString "place" = PySem.Str.ofString "ss") = False := eq_false (by decide +kernel)
@[simp] theorem nb_28_26 : (PySem.Str.ofString "place" == PySem.Str.ofString "ss") = false := by decide +kernel
@[simp] theorem ne_28_27 : (PySem.Str.ofString "place" = PySem.Str.ofString "core") = False := eq_false (by decide +kernel)
@[simp] theorem nb_28_27 : (PySem.Str.ofString "place" == PySem.Str.ofString "core") = false := by decide +kernel
@[simp] theorem ne_28_29 : (PySem.Str.ofString "place" = PySem.Str.ofString "design") = False := eq_false (by decide +kernel)
@[simp] theorem nb_28_29 : (PySem.Str.ofString "place" == PySem.Str.ofString "design") = false := by decide +kernel
@[simp] theorem ne_28_30 : (PySem.Str.ofString "place" = PySem.Str.ofString "") = False := eq_false (by decide +kernel)
@[simp] theorem nb_28_30 : (PySem.Str.ofString "place" == PySem.Str.ofString "") = false := by decide +kernel
@[simp] theorem ne_28_31 : (PySem.Str.ofString "place" = PySem.Str.ofString "xx") = False := eq_false (by decide +kernel)
@[simp] theorem nb_28_31 : (PySem.Str.ofString "place" == PySem.Str.ofString "xx") = false := by decide +kernel
@[simp] theorem ok_29 : PyData.strOk (PySem.Str.ofString "design") = true := by decide +kernel
@[simp] theorem len_29 : (PySem.Str.ofString "design").length = 6 := by decide +kernel
@[simp] theorem ne_29_0 : (PySem.Str.ofString "design" = PySem.Str.ofString "read") = False := eq_false (by decide +kernel)
@[simp] theorem nb_29_0 : (PySem.Str.ofString "design" == PySem.Str.ofString "read") = false := by decide +kernel
@[simp] theorem ne_29_1 : (PySem.Str.ofString "design" = PySem.Str.ofString "write") = False := eq_false (by decide +kernel)
@[simp] theorem nb_29_1 : (PySem.Str.ofString "design" == PySem.Str.ofString "write") = false := by decide +kernel
@[simp] theorem ne_29_2 : (PySem.Str.ofString "design" = PySem.Str.ofString "copy") = False := eq_false (by decide +kernel)
@[simp] theorem nb_29_2 : (PySem.Str.ofString "design" == PySem.Str.ofString "copy") = false := by decide +kernel
@[simp] theorem ne_29_3 : (PySem.Str.ofString "design" = PySem.Str.ofString "fence") = False := eq_false (by decide +kernel)
@[simp] theorem nb_29_3 : (PySem.Str.ofString "design" == PySem.Str.ofString "fence") = false := by decide +kernel
@[simp] theorem ne_29_4 : (PySem.Str.ofString "design" = PySem.Str.ofString "guard") = False := eq_false (by decide +kernel)
@[simp] theorem nb_29_4 : (PySem.Str.ofString "design" == PySem.Str.ofString "guard") = false := by decide +kernel
@[simp] theorem ne_29_5 : (PySem.Str.ofString "design" = PySem.Str.ofString "r") = False := eq_false (by decide +kernel)
@[simp] theorem nb_29_5 : (PySem.Str.ofString "design" == PySem.Str.ofString "r") = false := by decide +kernel
@[simp] theorem ne_29_6 : (PySem.Str.ofString "design" = PySem.Str.ofString "w") = False := eq_false (by decide +kernel)
@[simp] theorem nb_29_6 : (PySem.Str.ofString "design" == PySem.Str.ofString "w") = false := by decide +kernel
@[simp] theorem ne_29_7 : (PySem.Str.ofString "design" = PySem.Str.ofString "g") = False := eq_false (by decide +kernel)
@[simp] theorem nb_29_7 : (PySem.Str.ofString "design" == PySem.Str.ofString "g") = false := by decide +kernel
@[simp] theorem ne_29_8 : (PySem.Str.ofString "design" = PySem.Str.ofString "f") = False := eq_false (by decide +kernel)
@[simp] theorem nb_29_8 : (PySem.Str.ofString "design" == PySem.Str.ofString "f") = false := by decide +kernel
@[simp] theorem ne_29_9 : (PySem.Str.ofString "design" = PySem.Str.ofString "rr") = False := eq_false (by decide +kernel)
@[simp] theorem nb_29_9 : (PySem.Str.ofString "design" == PySem.Str.ofString "rr") = false := by decide +kernel
@[simp] theorem ne_29_10 : (PySem.Str.ofString "design" = PySem.Str.ofString "rw") = False := eq_false (by decide +kernel)
@[simp] theorem nb_29_10 : (PySem.Str.ofString "design" == PySem.Str.ofString "rw") = false := by decide +kernel
@[simp] theorem ne_29_11 : (PySem.Str.ofString "design" = PySem.Str.ofString "rg") = False := eq_false (by decide +kernel)
@[simp] theorem nb_29_11 : (PySem.Str.ofString "design" == PySem.Str.ofString "rg") = false := by decide +kernel
@[simp] theorem ne_29_12 : (PySem.Str.ofString "design" = PySem.Str.ofString "rf") = False := eq_false (by decide +kernel)
@[simp] theorem nb_29_12 : (PySem.Str.ofString "design" == PySem.Str.ofString "rf") = false := by decide +kernel
@[simp] theorem ne_29_13 : (PySem.Str.ofString "design" = PySem.Str.ofString "wr") = False := eq_false (by decide +kernel)
@[simp] theorem nb_29_13 : (PySem.Str.ofString "design" == PySem.Str.ofString "wr") = false := by decide +kernel
@[simp] theorem ne_29_14 : (PySem.Str.ofString "design" = PySem.Str.ofString "ww") = False := eq_false (by decide +kernel)
@[simp] theorem nb_29_14 : (PySem.Str.ofString "design" == PySem.Str.ofString "ww") = false := by decide +kernel
@[simp] theorem ne_29_15 : (PySem.Str.ofString "design" = PySem.Str.ofString "wg") = False := eq_false (by decide +kernel)
@[simp] theorem nb_29_15 : (PySem.Str.ofString "design" == PySem.Str.ofString "wg") = false := by decide +kernel
@[simp] theorem ne_29_16 : (PySem.Str.ofString "design" = PySem.Str.ofString "wf") = False := eq_false (by decide +kernel)
@[simp] theorem nb_29_16 : (PySem.Str.ofString "design" == PySem.Str.ofString "wf") = false := by decide +kernel
@[simp] theorem ne_29_17 : (PySem.Str.ofString "design" = PySem.Str.ofString "gr") = False := eq_false (by decide +kernel)
@[simp] theorem nb_29_17 : (PySem.Str.ofString "design" == PySem.Str.ofString "gr") = false := by decide +kernel
@[simp] theorem ne_29_18 : (PySem.Str.ofString "design" = PySem.Str.ofString "gw") = False := eq_false (by decide +kernel)
@[simp] theorem nb_29_18 : (PySem.Str.ofString "design" == PySem.Str.ofString "gw") = false := by decide +kernel
@[simp] theorem ne_29_19 : (PySem.Str.ofString "design" = PySem.Str.ofString "gg") = False := eq_false (by decide +kernel)
@[simp] theorem nb_29_19 : (PySem.Str.ofString "design" == PySem.Str.ofString "gg") = false := by decide +kernel
@[simp] theorem ne_29_20 : (PySem.Str.ofString "design" = PySem.Str.ofString "gf") = False := eq_false (by decide +kernel)
@[simp] theorem nb_29_20 : (PySem.Str.ofString "design" == PySem.Str.ofString "gf") = false := by decide +kernel
@[simp] theorem ne_29_21 : (PySem.Str.ofString "design" = PySem.Str.ofString "fr") = False := eq_false (by decide +kernel)
@[simp] theorem nb_29_21 : (PySem.Str.ofString "design" == PySem.Str.ofString "fr") = false := by decide +kernel
@[simp] theorem ne_29_22 : (PySem.Str.ofString "design" = PySem.Str.ofString "fw") = False := eq_false (by decide +kernel)
@[simp] theorem nb_29_22 : (PySem.Str.ofString "design" == PySem.Str.ofString "fw") = false := by decide +kernel
@[simp] theorem ne_29_23 : (PySem.Str.ofString "design" = PySem.Str.ofString "fg") = False := eq_false (by decide +kernel)
@[simp] theorem nb_29_23 : (PySem.Str.ofString "design" == PySem.Str.ofString "fg") = false := by decide +kernel
@[simp] theorem ne_29_24 : (PySem.Str.ofString "design" = PySem.Str.ofString "ff") = False := eq_false (by decide +kernel)
@[simp] theorem nb_29_24 : (PySem.Str.ofString "design" == PySem.Str.ofString "ff") = false := by decide +kernel
@[simp] theorem ne_29_25 : (PySem.Str.ofString "design" = PySem.Str.ofString "own") = False := eq_false (by decide +kernel)
@[simp] theorem nb_29_25 : (PySem.Str.ofString "design" == PySem.Str.ofString "own") = false := by decide +kernel
@[simp] theorem ne_29_26 : (PySem.Str.ofString "design" = PySem.Str.ofString "ss") = False := eq_false (by decide +kernel)
@[simp] theorem nb_29_26 : (PySem.Str.ofString "design" == PySem.Str.ofString "ss") = false := by decide +kernel
@[simp] theorem ne_29_27 : (PySem.Str.ofString "design" = PySem.Str.ofString "core") = False := eq_false (by decide +kernel)
@[simp] theorem nb_29_27 : (PySem.Str.ofString "design" == PySem.Str.ofString "core") = false := by decide +kernel
@[simp] theorem ne_29_28 : (PySem.Str.ofString "design" = PySem.Str.ofString "place") = False := eq_false (by decide +kernel)
@[simp] theorem nb_29_28 : (PySem.Str.ofString "design" == PySem.Str.ofString "place") = false := by decide +kernel
@[simp] theorem ne_29_30 : (PySem.Str.ofString "design" = PySem.Str.ofString "") = False := eq_false (by decide +kernel)
@[simp] theorem nb_29_30 : (PySem.Str.ofString "design" == PySem.Str.ofString "") = false := by decide +kernel
@[simp] theorem ne_29_31 : (PySem.Str.ofString "design" = PySem.Str.ofString "xx") = False := eq_false (by decide +kernel)
@[simp] theorem nb_29_31 : (PySem.Str.ofString "design" == PySem.Str.ofString "xx") = false := by decide +kernel
@[simp] theorem ok_30 : PyData.strOk (PySem.Str.ofString "") = true := by decide +kernel
@[simp] theorem len_30 : (PySem.Str.ofString "").length = 0 := by decide +kernel
@[simp] theorem ne_30_0 : (PySem.Str.ofString "" = PySem.Str.ofString "read") = False := eq_false (by decide +kernel)
@[simp] theorem nb_30_0 : (PySem.Str.ofString "" == PySem.Str.ofString "read") = false := by decide +kernel
@[simp] theorem ne_30_1 : (PySem.Str.ofString "" = PySem.Str.ofString "write") = False := eq_false (by decide +kernel)
@[simp] theorem nb_30_1 : (PySem.Str.ofString "" == PySem.Str.ofString "write") = false := by decide +kernel
@[simp] theorem ne_30_2 : (PySem.Str.ofString "" = PySem.Str.ofString "copy") = False := eq_false (by decide +kernel)
@[simp] theorem nb_30_2 : (PySem.Str.ofString "" == PySem.Str.ofString "copy") = false := by decide +kernel
@[simp] theorem ne_30_3 : (PySem.Str.ofString "" = PySem.Str.ofString "fence") = False := eq_false (by decide +kernel)
@[simp] theorem nb_30_3 : (PySem.Str.ofString "" == PySem.Str.ofString "fence") = false := by decide +kernel
@[simp] theorem ne_30_4 : (PySem.Str.ofString "" = PySem.Str.ofString "guard") = False := eq_false (by decide +kernel)
@[simp] theorem nb_30_4 : (PySem.Str.ofString "" == PySem.Str.ofString "guard") = false := by decide +kernel
@[simp] theorem ne_30_5 : (PySem.Str.ofString "" = PySem.Str.ofString "r") = False := eq_false (by decide +kernel)
@[simp] theorem nb_30_5 : (PySem.Str.ofString "" == PySem.Str.ofString "r") = false := by decide +kernel
@[simp] theorem ne_30_6 : (PySem.Str.ofString "" = PySem.Str.ofString "w") = False := eq_false (by decide +kernel)
@[simp] theorem nb_30_6 : (PySem.Str.ofString "" == PySem.Str.ofString "w") = false := by decide +kernel
@[simp] theorem ne_30_7 : (PySem.Str.ofString "" = PySem.Str.ofString "g") = False := eq_false (by decide +kernel)
@[simp] theorem nb_30_7 : (PySem.Str.ofString "" == PySem.Str.ofString "g") = false := by decide +kernel
@[simp] theorem ne_30_8 : (PySem.Str.ofString "" = PySem.Str.ofString "f") = False := eq_false (by decide +kernel)
@[simp] theorem nb_30_8 : (PySem.Str.ofString "" == PySem.Str.ofString "f") = false := by decide +kernel
@[simp] theorem ne_30_9 : (PySem.Str.ofString "" = PySem.Str.ofString "rr") = False := eq_false (by decide +kernel)
@[simp] theorem nb_30_9 : (PySem.Str.ofString "" == PySem.Str.ofString "rr") = false := by decide +kernel
@[simp] theorem ne_30_10 : (PySem.Str.ofString "" = PySem.Str.ofString "rw") = False := eq_false (by decide +kernel)
@[simp] theorem nb_30_10 : (PySem.Str.ofString "" == PySem.Str.ofString "rw") = false := by decide +kernel
@[simp] theorem ne_30_11 : (PySem.Str.ofString "" = PySem.Str.ofString "rg") = False := eq_false (by decide +kernel)
@[simp] theorem nb_30_11 : (PySem.Str.ofString "" == PySem.Str.ofString "rg") = false := by decide +kernel
@[simp] theorem ne_30_12 : (PySem.Str.ofString "" = PySem.Str.ofString "rf") = False := eq_false (by decide +kernel)
@[simp] theorem nb_30_12 : (PySem.Str.ofString "" == PySem.Str.ofString "rf") = false := by decide +kernel
@[simp] theorem ne_30_13 : (PySem.Str.ofString "" = PySem.Str.ofString "wr") = False := eq_false (by decide +kernel)
@[simp] theorem nb_30_13 : (PySem.Str.ofString "" == PySem.Str.ofString "wr") = false := by decide +kernel
@[simp] theorem ne_30_14 : (PySem.Str.ofString "" = PySem.Str.ofString "ww") = False := eq_false (by decide +kernel)
@[simp] theorem nb_30_14 : (PySem.Str.ofString "" == PySem.Str.ofString "ww") = false := by decide +kernel
@[simp] theorem ne_30_15 : (PySem.Str.ofString "" = PySem.Str.ofString "wg") = False := eq_false (by decide +kernel)
@[simp] theorem nb_30_15 : (PySem.Str.ofString "" == PySem.Str.ofString "wg") = false := by decide +kernel
@[simp] theorem ne_30_16 : (PySem.Str.ofString "" = PySem.Str.ofString "wf") = False := eq_false (by decide +kernel)
@[simp] theorem nb_30_16 : (PySem.Str.ofString "" == PySem.Str.ofString "wf") = false := by decide +kernel
@[simp] theorem ne_30_17 : (PySem.Str.ofString "" = PySem.Str.ofString "gr") = False := eq_false (by decide +kernel)
@[simp] theorem nb_30_17 : (PySem.Str.ofString "" == PySem.Str.ofString "gr") = false := by decide +kernel
@[simp] theorem ne_30_18 : (PySem.Str.ofString "" = PySem.Str.ofString "gw") = False := eq_false (by decide +kernel)
@[simp] theorem nb_30_18 : (PySem.Str.ofString "" == PySem.Str.ofString "gw") = false := by decide +kernel
@[simp] theorem ne_30_19 : (PySem.Str.ofString "" = PySem.Str.ofString "gg") = False := eq_false (by decide +kernel)
@[simp] theorem nb_30_19 : (PySem.Str.ofString "" == PySem.Str.ofString "gg") = false := by decide +kernel
@[simp] theorem ne_30_20 : (PySem.Str.ofString "" = PySem.Str.ofString "gf") = False := eq_false (by decide +kernel)
@[simp] theorem nb_30_20 : (PySem.Str.ofString "" == PySem.Str.ofString "gf") = false := by decide +kernel
@[simp] theorem ne_30_21 : (PySem.Str.ofString "" = PySem.Str.ofString "fr") = False := eq_false (by decide +kernel)
@[simp] theorem nb_30_21 : (PySem.Str.ofString "" == PySem.Str.ofString "fr") = false := by decide +kernel
@[simp] theorem ne_30_22 : (PySem.Str.ofString "" = PySem.Str.ofString "fw") = False := eq_false (by decide +kernel)
@[simp] theorem nb_30_22 : (PySem.Str.ofString "" == PySem.Str.ofString "fw") = false := by decide +kernel
@[simp] theorem ne_30_23 : (PySem.Str.ofString "" = PySem.Str.ofString "fg") = False := eq_false (by decide +kernel)
@[simp] theorem nb_30_23 : (PySem.Str.ofString "" == PySem.Str.ofString "fg") = false := by decide +kernel
@[simp] theorem ne_30_24 : (PySem.Str.ofString "" = PySem.Str.ofString "ff") = False := eq_false (by decide +kernel)
@[simp] theorem nb_30_24 : (PySem.Str.ofString "" == PySem.Str.ofString "ff") = false := by decide +kernel
@[simp] theorem ne_30_25 : (PySem.Str.ofString "" = PySem.Str.ofString "own") = False := eq_false (by decide +kernel)
@[simp] theorem nb_30_25 : (PySem.Str.ofString "" == PySem.Str.ofString "own") = false := by decide +kernel
@[simp] theorem ne_30_26 : (PySem.Str.ofString "" = PySem.Str.ofString "ss") = False := eq_false (by decide +kernel)
@[simp] theorem nb_30_26 : (PySem.Str.ofString "" == PySem.Str.ofString "ss") = false := by decide +kernel
@[simp] theorem ne_30_27 : (PySem.Str.ofString "" = PySem.Str.ofString "core") = False := eq_false (by decide +kernel)
@[simp] theorem nb_30_27 : (PySem.Str.ofString "" == PySem.Str.ofString "core") = false := by decide +kernel
@[simp] theorem ne_30_28 : (PySem.Str.ofString "" = PySem.Str.ofString "place") = False := eq_false (by decide +kernel)
@[simp] theorem nb_30_28 : (PySem.Str.ofString "" == PySem.Str.ofString "place") = false := by decide +kernel
@[simp] theorem ne_30_29 : (PySem.Str.ofString "" = PySem.Str.ofString "design") = False := eq_false (by decide +kernel)
@[simp] theorem nb_30_29 : (PySem.Str.ofString "" == PySem.Str.ofString "design") = false := by decide +kernel
@[simp] theorem ne_30_31 : (PySem.Str.ofString "" = PySem.Str.ofString "xx") = False := eq_false (by decide +kernel)
@[simp] theorem nb_30_31 : (PySem.Str.ofString "" == PySem.Str.ofString "xx") = false := by decide +kernel
@[simp] theorem ok_31 : PyData.strOk (PySem.Str.ofString "xx") = true := by decide +kernel
@[simp] theorem len_31 : (PySem.Str.ofString "xx").length = 2 := by decide +kernel
@[simp] theorem ne_31_0 : (PySem.Str.ofString "xx" = PySem.Str.ofString "read") = False := eq_false (by decide +kernel)
@[simp] theorem nb_31_0 : (PySem.Str.ofString "xx" == PySem.Str.ofString "read") = false := by decide +kernel
@[simp] theorem ne_31_1 : (PySem.Str.ofString "xx" = PySem.Str.ofString "write") = False := eq_false (by decide +kernel)
@[simp] theorem nb_31_1 : (PySem.Str.ofString "xx" == PySem.Str.ofString "write") = false := by decide +kernel
@[simp] theorem ne_31_2 : (PySem.Str.ofString "xx" = PySem.Str.ofString "copy") = False := eq_false (by decide +kernel)
@[simp] theorem nb_31_2 : (PySem.Str.ofString "xx" == PySem.Str.ofString "copy") = false := by decide +kernel
@[simp] theorem ne_31_3 : (PySem.Str.ofString "xx" = PySem.Str.ofString "fence") = False := eq_false (by decide +kernel)
@[simp] theorem nb_31_3 : (PySem.Str.ofString "xx" == PySem.Str.ofString "fence") = false := by decide +kernel
@[simp] theorem ne_31_4 : (PySem.Str.ofString "xx" = PySem.Str.ofString "guard") = False := eq_false (by decide +kernel)
@[simp] theorem nb_31_4 : (PySem.Str.ofString "xx" == PySem.Str.ofString "guard") = false := by decide +kernel
@[simp] theorem ne_31_5 : (PySem.Str.ofString "xx" = PySem.Str.ofString "r") = False := eq_false (by decide +kernel)
@[simp] theorem nb_31_5 : (PySem.Str.ofString "xx" == PySem.Str.ofString "r") = false := by decide +kernel
@[simp] theorem ne_31_6 : (PySem.Str.ofString "xx" = PySem.Str.ofString "w") = False := eq_false (by decide +kernel)
@[simp] theorem nb_31_6 : (PySem.Str.ofString "xx" == PySem.Str.ofString "w") = false := by decide +kernel
@[simp] theorem ne_31_7 : (PySem.Str.ofString "xx" = PySem.Str.ofString "g") = False := eq_false (by decide +kernel)
@[simp] theorem nb_31_7 : (PySem.Str.ofString "xx" == PySem.Str.ofString "g") = false := by decide +kernel
@[simp] theorem ne_31_8 : (PySem.Str.ofString "xx" = PySem.Str.ofString "f") = False := eq_false (by decide +kernel)
@[simp] theorem nb_31_8 : (PySem.Str.ofString "xx" == PySem.Str.ofString "f") = false := by decide +kernel
@[simp] theorem ne_31_9 : (PySem.Str.ofString "xx" = PySem.Str.ofString "rr") = False := eq_false (by decide +kernel)
@[simp] theorem nb_31_9 : (PySem.Str.ofString "xx" == PySem.Str.ofString "rr") = false := by decide +kernel
@[simp] theorem ne_31_10 : (PySem.Str.ofString "xx" = PySem.Str.ofString "rw") = False := eq_false (by decide +kernel)
@[simp] theorem nb_31_10 : (PySem.Str.ofString "xx" == PySem.Str.ofString "rw") = false := by decide +kernel
@[simp] theorem ne_31_11 : (PySem.Str.ofString "xx" = PySem.Str.ofString "rg") = False := eq_false (by decide +kernel)
@[simp] theorem nb_31_11 : (PySem.Str.ofString "xx" == PySem.Str.ofString "rg") = false := by decide +kernel
@[simp] theorem ne_31_12 : (PySem.Str.ofString "xx" = PySem.Str.ofString "rf") = False := eq_false (by decide +kernel)
@[simp] theorem nb_31_12 : (PySem.Str.ofString "xx" == PySem.Str.ofString "rf") = false := by decide +kernel
@[simp] theorem ne_31_13 : (PySem.Str.ofString "xx" = PySem.Str.ofString "wr") = False := eq_false (by decide +kernel)
@[simp] theorem nb_31_13 : (PySem.Str.ofString "xx" == PySem.Str.ofString "wr") = false := by decide +kernel
@[simp] theorem ne_31_14 : (PySem.Str.ofString "xx" = PySem.Str.ofString "ww") = False := eq_false (by decide +kernel)
@[simp] theorem nb_31_14 : (PySem.Str.ofString "xx" == PySem.Str.ofString "ww") = false := by decide +kernel
@[simp] theorem ne_31_15 : (PySem.Str.ofString "xx" = PySem.Str.ofString "wg") = False := eq_false (by decide +kernel)
@[simp] theorem nb_31_15 : (PySem.Str.ofString "xx" == PySem.Str.ofString "wg") = false := by decide +kernel
@[simp] theorem ne_31_16 : (PySem.Str.ofString "xx" = PySem.Str.ofString "wf") = False := eq_false (by decide +kernel)
@[simp] theorem nb_31_16 : (PySem.Str.ofString "xx" == PySem.Str.ofString "wf") = false := by decide +kernel
@[simp] theorem ne_31_17 : (PySem.Str.ofString "xx" = PySem.Str.ofString "gr") = False := eq_false (by decide +kernel)
@[simp] theorem nb_31_17 : (PySem.Str.ofString "xx" == PySem.Str.ofString "gr") = false := by decide +kernel
@[simp] theorem ne_31_18 : (PySem.Str.ofString "xx" = PySem.Str.ofString "gw") = False := eq_false (by decide +kernel)
@[simp] theorem nb_31_18 : (PySem.Str.ofString "xx" == PySem.Str.ofString "gw") = false := by decide +kernel
@[simp] theorem ne_31_19 : (PySem.Str.ofString "xx" = PySem.Str.ofString "gg") = False := eq_false (by decide +kernel)
@[simp] theorem nb_31_19 : (PySem.Str.ofString "xx" == PySem.Str.ofString "gg") = false := by decide +kernel
@[simp] theorem ne_31_20 : (PySem.Str.ofString "xx" = PySem.Str.ofString "gf") = False := eq_false (by decide +kernel)
@[simp] theorem nb_31_20 : (PySem.Str.ofString "xx" == PySem.Str.ofString "gf") = false := by decide +kernel
@[simp] theorem ne_31_21 : (PySem.Str.ofString "xx" = PySem.Str.ofString "fr") = False := eq_false (by decide +kernel)
@[simp] theorem nb_31_21 : (PySem.Str.ofString "xx" == PySem.Str.ofString "fr") = false := by decide +kernel
@[simp] theorem ne_31_22 : (PySem.Str.ofString "xx" = PySem.Str.ofString "fw") = False := eq_false (by decide +kernel)
@[simp] theorem nb_31_22 : (PySem.Str.ofString "xx" == PySem.Str.ofString "fw") = false := by decide +kernel
@[simp] theorem ne_31_23 : (PySem.Str.ofString "xx" = PySem.Str.ofString "fg") = False := eq_false (by decide +kernel)
@[simp] theorem nb_31_23 : (PySem.Str.ofString "xx" == PySem.Str.ofString "fg") = false := by decide +kernel
@[simp] theorem ne_31_24 : (PySem.Str.ofString "xx" = PySem.Str.ofString "ff") = False := eq_false (by decide +kernel)
@[simp] theorem nb_31_24 : (PySem.Str.ofString "xx" == PySem.Str.ofString "ff") = false := by decide +kernel
@[simp] theorem ne_31_25 : (PySem.Str.ofString "xx" = PySem.Str.ofString "own") = False := eq_false (by decide +kernel)
@[simp] theorem nb_31_25 : (PySem.Str.ofString "xx" == PySem.Str.ofString "own") = false := by decide +kernel
@[simp] theorem ne_31_26 : (PySem.Str.ofString "xx" = PySem.Str.ofString "ss") = False := eq_false (by decide +kernel)
@[simp] theorem nb_31_26 : (PySem.Str.ofString "xx" == PySem.Str.ofString "ss") = false := by decide +kernel
@[simp] theorem ne_31_27 : (PySem.Str.ofString "xx" = PySem.Str.ofString "core") = False := eq_false (by decide +kernel)
@[simp] theorem nb_31_27 : (PySem.Str.ofString "xx" == PySem.Str.ofString "core") = false := by decide +kernel
@[simp] theorem ne_31_28 : (PySem.Str.ofString "xx" = PySem.Str.ofString "place") = False := eq_false (by decide +kernel)
@[simp] theorem nb_31_28 : (PySem.Str.ofString "xx" == PySem.Str.ofString "place") = false := by decide +kernel
@[simp] theorem ne_31_29 : (PySem.Str.ofString "xx" = PySem.Str.ofString "design") = False := eq_false (by decide +kernel)
@[simp] theorem nb_31_29 : (PySem.Str.ofString "xx" == PySem.Str.ofString "design") = false := by decide +kernel
@[simp] theorem ne_31_30 : (PySem.Str.ofString "xx" = PySem.Str.ofString "") = False := eq_false (by decide +kernel)
@[simp] theorem nb_31_30 : (PySem.Str.ofString "xx" == PySem.Str.ofString "") = false := by decide +kernel
@[simp] theorem add_r_r : PySem.Str.ofString "r" ++ PySem.Str.ofString "r" = PySem.Str.ofString "rr" := by decide +kernel
@[simp] theorem add_r_w : PySem.Str.ofString "r" ++ PySem.Str.ofString "w" = PySem.Str.ofString "rw" := by decide +kernel
@[simp] theorem add_r_g : PySem.Str.ofString "r" ++ PySem.Str.ofString "g" = PySem.Str.ofString "rg" := by decide +kernel
@[simp] theorem add_r_f : PySem.Str.ofString "r" ++ PySem.Str.ofString "f" = PySem.Str.ofString "rf" := by decide +kernel
@[simp] theorem add_w_r : PySem.Str.ofString "w" ++ PySem.Str.ofString "r" = PySem.Str.ofString "wr" := by decide +kernel
@[simp] theorem add_w_w : PySem.Str.ofString "w" ++ PySem.Str.ofString "w" = PySem.Str.ofString "ww" := by decide +kernel
@[simp] theorem add_w_g : PySem.Str.ofString "w" ++ PySem.Str.ofString "g" = PySem.Str.ofString "wg" := by decide +kernel
@[simp] theorem add_w_f : PySem.Str.ofString "w" ++ PySem.Str.ofString "f" = PySem.Str.ofString "wf" := by decide +kernel
@[simp] theorem add_g_r : PySem.Str.ofString "g" ++ PySem.Str.ofString "r" = PySem.Str.ofString "gr" := by decide +kernel
@[simp] theorem add_g_w : PySem.Str.ofString "g" ++ PySem.Str.ofString "w" = PySem.Str.ofString "gw" := by decide +kernel
@[simp] theorem add_g_g : PySem.Str.ofString "g" ++ PySem.Str.ofString "g" = PySem.Str.ofString "gg" := by decide +kernel
@[simp] theorem add_g_f : PySem.Str.ofString "g" ++ PySem.Str.ofString "f" = PySem.Str.ofString "gf" := by decide +kernel
@[simp] theorem add_f_r : PySem.Str.ofString "f" ++ PySem.Str.ofString "r" = PySem.Str.ofString "fr" := by decide +kernel
@[simp] theorem add_f_w : PySem.Str.ofString "f" ++ PySem.Str.ofString "w" = PySem.Str.ofString "fw" := by decide +kernel
@[simp] theorem add_f_g : PySem.Str.ofString "f" ++ PySem.Str.ofString "g" = PySem.Str.ofString "fg" := by decide +kernel
@[simp] theorem add_f_f : PySem.Str.ofString "f" ++ PySem.Str.ofString "f" = PySem.Str.ofString "ff" := by decide +kernel
end G


set_option Elab.async false
set_option linter.all false
set_option maxRecDepth 100000
set_option maxHeartbeats 4000000
namespace G
open PySem PySem.Spec L2 J
/-! ### the row -/
def rowL (ns : List Int) (i : Nat) (a b : Int) : IO := .lst [.frz (ns.map D.int), .int i, .int a, .int b]
def RowS (ns : List Int) (t : S) (s : S) : Prop := ∃ (i : Nat) (a b : Int), 0 ≤ a ∧ a < 2147483647 ∧ s = rowL ns i a b :: t
theorem idx_row (ns : List Int) (i : Nat) (a b : Int) (t : S) : fIdx (rowL ns i a b :: t) (.obj 0) (.int 0) = some (.frz (ns.map D.int)) ∧ fIdx (rowL ns i a b :: t) (.obj 0) (.int 1) = some (.int i) ∧ fIdx (rowL ns i a b :: t) (.obj 0) (.int 2) = some (.int a) ∧ fIdx (rowL ns i a b :: t) (.obj 0) (.int 3) = some (.int b) := ⟨rfl, rfl, rfl, rfl⟩
theorem put_row (ns : List Int) (i : Nat) (a b x : Int) (t : S) : putL (rowL ns i a b :: t) (.obj 0) (.int 2) (.int x) = some (rowL ns i x b :: t) ∧ putL (rowL ns i a b :: t) (.obj 0) (.int 3) (.int x) = some (rowL ns i a x :: t) := ⟨rfl, rfl⟩
theorem put_row1 (ns : List Int) (i : Nat) (a b : Int) (t : S) : putL (rowL ns i a b :: t) (.obj 0) (.int 1) (.int ((i : Int) + 1)) = some (rowL ns (i + 1) a b :: t) := rfl
theorem mulc (s : S) (a : Int) : fMul s (.int a) (.int 48271) = some (.int (a * 48271)) := by
  have : small64 48271 = true := by decide
  simp [fMul, this]
theorem modI (s : S) (a m : Int) (h : 0 < m) : fMod s (.int a) (.int m) = some (.int (a % m)) := by simp [fMod, h]
theorem divI (s : S) (a m : Int) (h : 0 < m) (h2 : m < 1073741824) : fDiv s (.int a) (.int m) = some (.int (a / m)) := by simp [fDiv, h, h2]
theorem powC (s : S) : fPow s (.int 10) (.int 18) = some (.int 1000000000000000000) := rfl
theorem taken_ok {ns : List Int} {t s : S} (m : Int) (h0 : 0 < m) (h1 : m < 1073741824) (h : RowS ns t s) : ∃ (r : Int) (s' : S), F_law_taken [.obj 0, .int m] s = .ok (.int r) s' ∧ 0 ≤ r ∧ r < m ∧ RowS ns t s' := by
  obtain ⟨i, a, b, ha, ha2, rfl⟩ := h
  obtain ⟨r0, r1, r2, r3⟩ := idx_row ns i a b t
  by_cases hb : 0 < b
  · refine ⟨b % m, rowL ns i a (b / m) :: t, ?_, Int.emod_nonneg _ (by omega), Int.emod_lt_of_pos _ h0, i, a, b / m, ha, ha2, rfl⟩
    simp [F_law_taken, b_law_taken, r3, hb, modI _ b m h0, divI _ b m h0 h1, (put_row ns i a b (b / m) t).2]
  · obtain ⟨q0, q1, q2, q3⟩ := idx_row ns (i + 1) a b t
    by_cases hl : (ns.length : Int) < (i : Int) + 1
    · have e1 := (put_row ns (i + 1) a b ((a * 48271 + 11) % 2147483647) t).1
      obtain ⟨p0, p1, p2, p3⟩ := idx_row ns (i + 1) ((a * 48271 + 11) % 2147483647) b t
      refine ⟨_, _, ?_, Int.emod_nonneg ((a * 48271 + 11) % 2147483647 / 7) (b := m) (by omega), Int.emod_lt_of_pos _ h0, i + 1, (a * 48271 + 11) % 2147483647, b, Int.emod_nonneg _ (by decide), Int.emod_lt_of_pos _ (by decide), rfl⟩
      rw [show (((i + 1 : Nat)) : Int) = (i : Int) + 1 from rfl] at q1
      simp [F_law_taken, b_law_taken, r3, r1, hb, put_row1, q0, q1, q2, hl, mulc, modI _ _ _ (show (0 : Int) < 2147483647 by decide), e1, p2, divI _ _ 7 (by decide) (by decide), modI _ _ m h0]
    · have hi : i < ns.length := by omega
      have e2 : atI (ns.map D.int) ((i : Int)) = some (.int ns[i]) := by rw [atI_nat _ _ (by simpa using hi)]; simp
      have e1 := (put_row ns (i + 1) a b ((a * 48271 + ns[i] + 11) % 2147483647) t).1
      obtain ⟨p0, p1, p2, p3⟩ := idx_row ns (i + 1) ((a * 48271 + ns[i] + 11) % 2147483647) b t
      rw [show (((i + 1 : Nat)) : Int) = (i : Int) + 1 from rfl] at q1
      by_cases hz : 1000000000000000000 ≤ ns[i]
      · refine ⟨ns[i] % m, _, ?_, Int.emod_nonneg _ (by omega), Int.emod_lt_of_pos _ h0, i + 1, (a * 48271 + ns[i] + 11) % 2147483647, ns[i] / m, Int.emod_nonneg _ (by decide), Int.emod_lt_of_pos _ (by decide), rfl⟩
        simp [F_law_taken, b_law_taken, r3, r1, hb, put_row1, q0, q1, q2, hl, e2, mulc, modI _ _ _ (show (0 : Int) < 2147483647 by decide), e1, powC, hz, divI _ _ m h0 h1, (put_row ns (i + 1) _ b (ns[i] / m) t).2, modI _ _ m h0]
      · refine ⟨ns[i] % m, _, ?_, Int.emod_nonneg _ (by omega), Int.emod_lt_of_pos _ h0, i + 1, (a * 48271 + ns[i] + 11) % 2147483647, b, Int.emod_nonneg _ (by decide), Int.emod_lt_of_pos _ (by decide), rfl⟩
        simp [F_law_taken, b_law_taken, r3, r1, hb, put_row1, q0, q1, q2, hl, e2, mulc, modI _ _ _ (show (0 : Int) < 2147483647 by decide), e1, powC, hz, modI _ _ m h0]
theorem pick_ok {ns : List Int} {t s : S} (ds : List D) (h0 : 0 < ds.length) (h1 : ds.length < 1000) (h : RowS ns t s) : ∃ (k : Nat) (hk : k < ds.length) (s' : S), F_law_pick [.obj 0, .lst ds] s = .ok ds[k] s' ∧ RowS ns t s' := by
  obtain ⟨r, s', e, h2, h3, h4⟩ := taken_ok (ds.length : Int) (by omega) (by omega) h
  obtain ⟨k, rfl⟩ := Int.eq_ofNat_of_zero_le h2
  refine ⟨k, by omega, s', ?_, h4⟩
  simp [F_law_pick, b_law_pick, e, atI_nat _ _ (show k < ds.length by omega)]
end G


set_option Elab.async false
set_option linter.all false
set_option maxRecDepth 100000
set_option maxHeartbeats 4000000
namespace G
open PySem PySem.Spec L2 J
/-! ### loops of a comprehension that draws -/
theorem lcAll {t : TD} {gt : GT} {ge : GE} {ρ : J.Env} (P : S → Prop) (Q : D → Prop) : ∀ (xs : List D) (s : S), P s → (∀ x ∈ xs, ∀ s, P s → ∃ ρ1 y s2, t x ρ = some ρ1 ∧ gt ρ1 s = .ok true s ∧ ge ρ1 s = .ok y s2 ∧ Q y ∧ P s2) →
    ∃ ys s', lcLoop t gt ge ρ xs s = .ok ys s' ∧ P s' ∧ ys.length = xs.length ∧ ∀ y ∈ ys, Q y
  | [], s, hP, _ => ⟨[], s, rfl, hP, rfl, fun _ h => by cases h⟩
  | x :: xs, s, hP, h => by
    obtain ⟨ρ1, y, s2, h1, h2, h3, h4, h5⟩ := h x List.mem_cons_self s hP
    obtain ⟨ys, s', e, p, l, q⟩ := lcAll P Q xs s2 h5 fun z hz => h z (List.mem_cons_of_mem _ hz)
    refine ⟨y :: ys, s', ?_, p, by simp [l], fun z hz => ?_⟩
    · unfold lcLoop
      rw [h1]
      simp only [h2, noErr, R.bind_ok, if_true, h3, e]
    · rcases List.mem_cons.mp hz with rfl | hz
      · exact h4
      · exact q z hz
theorem lcSub {t : TD} {gt : GT} {ge : GE} {ρ : J.Env} (P : S → Prop) : ∀ (xs : List D) (s : S), P s → (∀ x ∈ xs, ∀ s, P s → ∃ ρ1 b s2, t x ρ = some ρ1 ∧ gt ρ1 s = .ok b s2 ∧ P s2 ∧ ge ρ1 s2 = .ok x s2) →
    ∃ ys s', lcLoop t gt ge ρ xs s = .ok ys s' ∧ P s' ∧ ys.Sublist xs
  | [], s, hP, _ => ⟨[], s, rfl, hP, List.Sublist.refl _⟩
  | x :: xs, s, hP, h => by
    obtain ⟨ρ1, b, s2, h1, h2, h5, h3⟩ := h x List.mem_cons_self s hP
    obtain ⟨ys, s', e, p, l⟩ := lcSub P xs s2 h5 fun z hz => h z (List.mem_cons_of_mem _ hz)
    cases b with
    | true =>
      refine ⟨x :: ys, s', ?_, p, l.cons_cons _⟩
      unfold lcLoop
      rw [h1]
      simp only [h2, noErr, R.bind_ok, if_true, h3, e]
    | false =>
      refine ⟨ys, s', ?_, p, l.cons _⟩
      unfold lcLoop
      rw [h1]
      simp only [h2, noErr, R.bind_ok, Bool.false_eq_true, if_false, e]
theorem allEx {α : Type} {f : α → D} {q : α → Prop} : ∀ ys : List D, (∀ y ∈ ys, ∃ c, y = f c ∧ q c) → ∃ cs : List α, ys = cs.map f ∧ ∀ c ∈ cs, q c
  | [], _ => ⟨[], rfl, fun _ h => by cases h⟩
  | y :: ys, h => by
    obtain ⟨c, rfl, hc⟩ := h y List.mem_cons_self
    obtain ⟨cs, rfl, hcs⟩ := allEx ys fun z hz => h z (List.mem_cons_of_mem _ hz)
    exact ⟨c :: cs, rfl, fun z hz => by rcases List.mem_cons.mp hz with rfl | hz; (· exact hc); exact hcs z hz⟩
theorem subMap {α : Type} {f : α → D} {xs : List α} {ys : List D} (h : ys.Sublist (xs.map f)) : ∃ zs : List α, ys = zs.map f ∧ zs.Sublist xs := by
  obtain ⟨zs, h1, h2⟩ := List.sublist_map_iff.mp h
  exact ⟨zs, h2, h1⟩
/-! ### the instructions drawn -/
def Ins.enc : Ins → D
  | .read r x => .tup [.str (PySem.Str.ofString "read"), .int r, .int x]
  | .write x n => .tup [.str (PySem.Str.ofString "write"), .int x, .int n]
  | .copy x r => .tup [.str (PySem.Str.ofString "copy"), .int x, .int r]
  | .fence => .tup [.str (PySem.Str.ofString "fence")]
  | .guard r n => .tup [.str (PySem.Str.ofString "guard"), .int r, .int n]
def Ins.ok : Ins → Prop
  | .read r x => 0 ≤ r ∧ r < 2 ∧ 0 ≤ x ∧ x < 2
  | .write x n => 0 ≤ x ∧ x < 2 ∧ 1 ≤ n ∧ n < 4
  | .copy x r => 0 ≤ x ∧ x < 2 ∧ 0 ≤ r ∧ r < 2
  | .fence => True
  | .guard r n => 0 ≤ r ∧ r < 2 ∧ 0 ≤ n ∧ n < 2
theorem instr_ok {ns : List Int} {t s : S} (h : RowS ns t s) : ∃ (c : Ins) (s' : S), F_law_instruction [.obj 0] s = .ok c.enc s' ∧ c.ok ∧ RowS ns t s' := by
  obtain ⟨k, hk, s1, e, h1⟩ := pick_ok [.str (PySem.Str.ofString "read"), .str (PySem.Str.ofString "read"), .str (PySem.Str.ofString "read"), .str (PySem.Str.ofString "write"), .str (PySem.Str.ofString "write"), .str (PySem.Str.ofString "write"), .str (PySem.Str.ofString "copy"), .str (PySem.Str.ofString "fence"), .str (PySem.Str.ofString "guard")] (by simp) (by simp) h
  obtain ⟨r, s2, e2, hr1, hr2, h2⟩ := taken_ok 2 (by decide) (by decide) h1
  obtain ⟨q, s3, e3, hq1, hq2, h3⟩ := taken_ok 2 (by decide) (by decide) h2
  obtain ⟨n, s4, e4, hn1, hn2, h4⟩ := taken_ok 3 (by decide) (by decide) h2
  match k, hk, e with
  | 0, _, e | 1, _, e | 2, _, e => exact ⟨.read r q, s3, by simp [F_law_instruction, b_law_instruction, fitL, e, e2, e3, eqD_str, Ins.enc], ⟨hr1, hr2, hq1, hq2⟩, h3⟩
  | 3, _, e | 4, _, e | 5, _, e => exact ⟨.write r (1 + n), s4, by simp [F_law_instruction, b_law_instruction, fitL, e, e2, e4, eqD_str, Ins.enc], ⟨hr1, hr2, by omega, by omega⟩, h4⟩
  | 6, _, e => exact ⟨.copy r q, s3, by simp [F_law_instruction, b_law_instruction, fitL, e, e2, e3, eqD_str, Ins.enc], ⟨hr1, hr2, hq1, hq2⟩, h3⟩
  | 7, _, e => exact ⟨.fence, s1, by simp [F_law_instruction, b_law_instruction, fitL, e, eqD_str, Ins.enc], trivial, h1⟩
  | 8, _, e => exact ⟨.guard r q, s3, by simp [F_law_instruction, b_law_instruction, fitL, e, e2, e3, eqD_str, Ins.enc], ⟨hr1, hr2, hq1, hq2⟩, h3⟩
/-! ### the design drawn -/
def names : List Str := [PySem.Str.ofString "gr", PySem.Str.ofString "gw", PySem.Str.ofString "own", PySem.Str.ofString "rr", PySem.Str.ofString "rw", PySem.Str.ofString "ss", PySem.Str.ofString "wr", PySem.Str.ofString "ww"]
theorem names_ok : ∀ x ∈ names, PyData.strOk x = true := by decide +kernel
theorem names_lt : names.Pairwise fun a b => a.cps.toList < b.cps.toList := by decide +kernel
theorem design_ok {ns : List Int} {t s : S} (h : RowS ns t s) : ∃ (ds : List Str) (s' : S), F_law_design [.obj 0] s = .ok (.tup (ds.map D.str)) s' ∧ ds.Sublist names ∧ RowS ns t s' := by
  have hl : ∀ (t' : TD) gt ge ρ, lcLoop t' gt ge ρ (names.map D.str) s = lcLoop t' gt ge ρ [.str (PySem.Str.ofString "gr"), .str (PySem.Str.ofString "gw"), .str (PySem.Str.ofString "own"), .str (PySem.Str.ofString "rr"), .str (PySem.Str.ofString "rw"), .str (PySem.Str.ofString "ss"), .str (PySem.Str.ofString "wr"), .str (PySem.Str.ofString "ww")] s := fun _ _ _ _ => rfl
  obtain ⟨ys, s', e, p, l⟩ := lcSub (t := dName 1) (gt := gB (gOp2 fEq (gCall 2 F_law_taken (gaCons (gVar 0) (gaCons (gC (.int 2)) gaNil))) (gC (.int 0)))) (ge := gVar 1) (ρ := ([some (D.obj 0), none] : J.Env)) (RowS ns t) (names.map D.str) s h fun x _ s hs => by
    obtain ⟨r, s2, e2, hr1, hr2, h2⟩ := taken_ok 2 (by decide) (by decide) hs
    exact ⟨[some (D.obj 0), some x], r == 0, s2, by simp, by simp [e2], h2, by simp⟩
  obtain ⟨zs, rfl, hz⟩ := subMap l
  refine ⟨zs, s', ?_, hz, p⟩
  rw [hl] at e
  simp [F_law_design, b_law_design, fitL, wipeD, e]
end G


set_option Elab.async false
set_option linter.all false
set_option maxRecDepth 100000
set_option maxHeartbeats 4000000
namespace G
open PySem PySem.Spec L2 J
theorem eqD_tup0 (s : S) : eqD s (.tup []) (.tup []) = some true := by simp [eqD, deref, D.toPy, D.toPys, SeqAt.shaped, PyData.canLay0, PyData.canLayAll0, PyData.depth, PyData.depthAll, PyData.eqv, PyData.eqvAll]
theorem isin_ok (s : S) (i a b : Int) : F_is_in [.int i, .int a, .int b] s = .ok (.bl (decide (a ≤ i) && decide (i ≤ b))) s := by
  have h1 : F_is_integer [.int i] s = .ok (.bl true) s := by
    simp [F_is_integer, b_is_integer]
  by_cases h : a ≤ i <;> simp [F_is_in, b_is_in, h1, h]
theorem is_instr {c : Ins} (hc : c.ok) (s : S) : F_is_instruction [c.enc] s = .ok (.bl true) s := by
  have hl : ∀ ds : List D, 1 ≤ ds.length → ds.length ≤ 3 → F_is_list [.tup ds, .int 1, .int 3] s = .ok (.bl true) s := fun ds h1 h3 => by
    have : (1 : Int) ≤ ds.length := by omega
    have : (ds.length : Int) ≤ 3 := by omega
    simp [F_is_list, b_is_list, *]
  have a1 : ∀ (x y z : D), atI [x, y, z] 0 = some x := fun _ _ _ => rfl
  have a2 : ∀ (x y : D), atI [x, y] 1 = some y := fun _ _ => rfl
  have k2 : ∀ (x y z : D), cutD [x, y, z] (some 1) none = [y, z] := fun _ _ _ => rfl
  have k0 : ∀ (x : D), cutD [x] (some 1) none = [] := fun _ => rfl
  cases c with
  | read r x =>
    obtain ⟨h1, h2, h3, h4⟩ := hc
    have : r ≤ 1 := by omega
    have : x ≤ 2 := by omega
    simp [F_is_instruction, b_is_instruction, Ins.enc, hl, fitL, eqD_str, isin_ok, c_REGISTERS, c_CELLS, c_WORDS, a2, k2, *]
  | write x n =>
    obtain ⟨h1, h2, h3, h4⟩ := hc
    have : x ≤ 2 := by omega
    have : n ≤ 9 := by omega
    have : 0 ≤ n := by omega
    simp [F_is_instruction, b_is_instruction, Ins.enc, hl, fitL, eqD_str, isin_ok, c_REGISTERS, c_CELLS, c_WORDS, a2, k2, *]
  | copy x r =>
    obtain ⟨h1, h2, h3, h4⟩ := hc
    have : r ≤ 1 := by omega
    have : x ≤ 2 := by omega
    simp [F_is_instruction, b_is_instruction, Ins.enc, hl, fitL, eqD_str, isin_ok, c_REGISTERS, c_CELLS, c_WORDS, a2, k2, *]
  | fence =>
    simp [F_is_instruction, b_is_instruction, Ins.enc, hl, fitL, eqD_str, isin_ok, k0, eqD_tup0]
  | guard r n =>
    obtain ⟨h1, h2, h3, h4⟩ := hc
    have : r ≤ 1 := by omega
    have : n ≤ 9 := by omega
    simp [F_is_instruction, b_is_instruction, Ins.enc, hl, fitL, eqD_str, isin_ok, c_REGISTERS, c_CELLS, c_WORDS, a2, k2, *]
theorem is_core_ok {cs : List Ins} (h : ∀ c ∈ cs, c.ok) (hl : cs.length ≤ 5) (s : S) : F_is_core [.tup (cs.map Ins.enc)] s = .ok (.bl true) s := by
  have h1 : F_is_list [.tup (cs.map Ins.enc), .int 0, .int 5] s = .ok (.bl true) s := by
    have : (cs.length : Int) ≤ 5 := by omega
    simp [F_is_list, b_is_list, this]
  have h2 : cs.length ≤ 16777216 := by omega
  simp [F_is_core, b_is_core, h1, c_MOST_CORE, fitL, h2, wipeD]
  rw [lcLoop_all _ fun x hx => by
    obtain ⟨c, hc, rfl⟩ := List.mem_map.mp hx
    exact ⟨[some (.tup (cs.map Ins.enc)), some c.enc], by simp, by simp [is_instr (h c hc)]⟩]
  simp [-List.map_map]
theorem is_design_ok {ds : List Str} (h : ds.Sublist names) (s : S) : F_is_design [.tup (ds.map D.str)] s = .ok (.bl true) s := by
  have hn : ds.length ≤ 8 := h.length_le
  have hm : ∀ x ∈ ds, x ∈ names := fun x hx => h.subset hx
  have hp := names_lt.sublist h
  have h2 : ds.length ≤ 16777216 := by omega
  have hc : c_NAMES = .tup (names.map D.str) := rfl
  simp [F_is_design, b_is_design, fitL, h2, wipeD]
  rw [lcLoop_all _ fun x hx => by
    obtain ⟨c, hc', rfl⟩ := List.mem_map.mp hx
    refine ⟨[some (.tup (ds.map D.str)), none, some (.str c)], by simp, ?_⟩
    have : names.any (· == c) = true := List.any_eq_true.mpr ⟨c, hm c hc', by simp⟩
    simp [fIsi, tyD, known, tyKnown, isT, hc, inD_tup s c names (names_ok c (hm c hc')) names_ok, this]]
  have hr : okR 1 = true := by decide
  have hr2 : okR (ds.length : Int) = true := by simp [okR]; omega
  have h4 : (rangeD 1 (ds.length : Int)).length ≤ 16777216 := by simp [rangeD]; omega
  simp [-List.map_map, hr, hr2, h4]
  rw [lcLoop_all _ fun x hx => by
    simp only [rangeD, List.mem_map, List.mem_range] at hx
    obtain ⟨k, hk, rfl⟩ := hx
    refine ⟨[some (.tup (ds.map D.str)), some (.int (1 + (k : Int))), none], by simp, ?_⟩
    have e1 : (1 + (k : Int)) - 1 = (k : Int) := by omega
    have e2 : (1 + (k : Int)) = ((k + 1 : Nat) : Int) := by omega
    have hk2 : k + 1 < ds.length := by omega
    have q1 : atI (ds.map D.str) (k : Int) = some (.str ds[k]) := by rw [atI_nat _ _ (by simp; omega)]; simp
    have q2 : atI (ds.map D.str) (1 + (k : Int)) = some (.str ds[k + 1]) := by rw [e2, atI_nat _ _ (by simp; omega)]; simp
    have lt := List.pairwise_iff_getElem.mp hp k (k + 1) (by omega) hk2 (by omega)
    simp [e1, q1, q2, fLt, lt]]
  simp [-List.map_map]
end G


set_option Elab.async false
set_option linter.all false
set_option maxRecDepth 100000
set_option maxHeartbeats 4000000
namespace G
open PySem PySem.Spec L2 J
def oD : Option Nat → D | none => .non | some k => .int k
def oL : Option Nat → List D | none => [] | some k => [.int k]
theorem core_ix {cs : List Ins} {k : Nat} (h : k < cs.length) : atI (cs.map Ins.enc) (k : Int) = some (cs[k].enc) := by
  rw [atI_nat _ _ (by simpa using h)]; simp
theorem range_filter (p : Nat → Bool) (f : D → Bool) (n : Nat) (h : ∀ k : Nat, k < n → f (.int k) = p k) : ((rangeD 0 (n : Int)).filter f) = ((List.range n).filter p).map fun (k : Nat) => D.int (k : Int) := by
  have e : rangeD 0 (n : Int) = (List.range n).map fun (k : Nat) => D.int (k : Int) := by simp [rangeD]
  rw [e, List.filter_map]
  congr 1
  exact List.filter_congr fun k hk => h k (by simpa using hk)
theorem some_last (s : S) (ks : List Nat) : ((eqD s (.lst (ks.map fun (k : Nat) => D.int (k : Int))) (.lst [])).map fun b => D.bl !b) = some (.bl !(ks.isEmpty)) := by
  have h := eqD_ints s (ks.map fun (k : Nat) => (k : Int)) []
  simp only [List.map_map, List.map_nil, Function.comp_def] at h
  rw [h]
  cases ks <;> rfl
theorem atI_last (ks : List Nat) (h : ks ≠ []) : atI (ks.map fun (k : Nat) => D.int (k : Int)) (-1) = some (oD ks.getLast?) := by
  have hl : 0 < ks.length := by cases ks with | nil => exact absurd rfl h | cons _ _ => simp
  have : ixN ks.length (-1) = some (ks.length - 1) := by
    simp only [ixN]
    rw [if_neg (by omega), if_pos (by omega)]
    congr 1; omega
  simp [atI, this, List.getLast?_eq_getElem?]
  rw [List.getElem?_eq_getElem (by omega)]
  simp [oD]
theorem cut_last (ks : List Nat) : cutD (ks.map fun (k : Nat) => D.int (k : Int)) (some (-1)) none = oL ks.getLast? := by
  rcases List.eq_nil_or_concat ks with rfl | ⟨l, a, rfl⟩
  · rfl
  · have : HT.sIx (l.length + 1) 0 (some (-1)) = l.length := by
      simp [HT.sIx]; omega
    have h2 : HT.sIx (l.length + 1) (l.length + 1) none = l.length + 1 := rfl
    simp only [cutD, List.concat_eq_append, List.map_append, List.length_append, List.length_map, List.map_cons, List.map_nil, List.length_cons, List.length_nil, Nat.zero_add, this, h2]
    rw [List.drop_left' (by simp)]
    simp [oL]
/-- the walk over a range: what is left of it -/
theorem last_fin {b : GS} (s : S) (ks : List Nat) : True := trivial
theorem last_read_ok (s : S) {cs : List Ins} {p : Nat} (hp : p ≤ cs.length) (hl : cs.length ≤ 1000) (reg : Int) : F_last_read [.tup (cs.map Ins.enc), .int p, .int reg] s = .ok (oD (lastP (rdP cs reg) p)) s := by
  have h1 : okR (p : Int) = true := by simp [okR]; omega
  have h2 : (rangeD 0 (p : Int)).length ≤ 16777216 := by simp [rangeD]; omega
  simp [F_last_read, b_last_read, h1, h2, fitL, wipeD]
  rw [lcLoop_pure (fun d => match d with | .int k => rdP cs reg k.toNat | _ => false) id _ fun x hx => by
    simp only [rangeD, List.mem_map, List.mem_range] at hx
    obtain ⟨k, hk, rfl⟩ := hx
    have hk2 : k < cs.length := by omega
    refine ⟨[some (.tup (cs.map Ins.enc)), some (.int p), some (.int reg), none, some (.int k)], by simp, ?_, fun _ => by simp⟩
    have e0 := core_ix hk2
    have e1 : cs[k]? = some cs[k] := List.getElem?_eq_getElem hk2
    have a1 : ∀ (x y z : D), atI [x, y, z] 1 = some y := fun _ _ _ => rfl
    cases e : cs[k] <;> rw [e] at e0 e1 <;> simp [e0, e1, Ins.enc, eqD_str, rdP, a1]]
  rw [range_filter (rdP cs reg) _ p fun k _ => by simp]
  by_cases hk : (List.range p).filter (rdP cs reg) = []
  · have := some_last s []
    simp at this
    simp [hk, this, lastP, oD]
  · have h3 := some_last s ((List.range p).filter (rdP cs reg))
    have h4 := atI_last _ hk
    have h5 : ((List.range p).filter (rdP cs reg)).isEmpty = false := by simpa using hk
    rw [h5] at h3
    simp [lastP, h3, h4, -List.filter_eq_nil_iff]
theorem last_writing_ok (s : S) {cs : List Ins} {p : Nat} (hp : p ≤ cs.length) (hl : cs.length ≤ 1000) (reg : Int) : F_last_writing [.tup (cs.map Ins.enc), .int p, .int reg] s = .ok (oD (lastP (wrP cs reg) p)) s := by
  have h1 : okR (p : Int) = true := by simp [okR]; omega
  have h2 : (rangeD 0 (p : Int)).length ≤ 16777216 := by simp [rangeD]; omega
  have hW : ∀ (s : S) (x : Str), PyData.strOk x = true → inD s (.str x) c_WRITING = some ([PySem.Str.ofString "write", PySem.Str.ofString "copy"].any (· == x)) := fun s x hx => inD_tup s x [PySem.Str.ofString "write", PySem.Str.ofString "copy"] hx (by decide +kernel)
  simp [F_last_writing, b_last_writing, h1, h2, fitL, wipeD]
  rw [lcLoop_pure (fun d => match d with | .int k => wrP cs reg k.toNat | _ => false) id _ fun x hx => by
    simp only [rangeD, List.mem_map, List.mem_range] at hx
    obtain ⟨k, hk, rfl⟩ := hx
    have hk2 : k < cs.length := by omega
    refine ⟨[some (.tup (cs.map Ins.enc)), some (.int p), some (.int reg), none, some (.int k)], by simp, ?_, fun _ => by simp⟩
    have e0 := core_ix hk2
    have e1 : cs[k]? = some cs[k] := List.getElem?_eq_getElem hk2
    have a1 : ∀ (x y z : D), atI [x, y, z] 1 = some y := fun _ _ _ => rfl
    cases e : cs[k] <;> rw [e] at e0 e1 <;> simp [e0, e1, Ins.enc, hW, wrP, a1]]
  rw [range_filter (wrP cs reg) _ p fun k _ => by simp]
  by_cases hk : (List.range p).filter (wrP cs reg) = []
  · have := some_last s []
    simp at this
    simp [hk, this, lastP, oD]
  · have h3 := some_last s ((List.range p).filter (wrP cs reg))
    have h4 := atI_last _ hk
    have h5 : ((List.range p).filter (wrP cs reg)).isEmpty = false := by simpa using hk
    rw [h5] at h3
    simp [lastP, h3, h4, -List.filter_eq_nil_iff]
theorem law_last_r (s : S) {cs : List Ins} {p : Nat} (hp : p ≤ cs.length) (hl : cs.length ≤ 1000) (reg : Int) : F_law_last [.tup (cs.map Ins.enc), .int p, .lst [.str (PySem.Str.ofString "read")], .int 1, .int reg] s = .ok (.lst (oL (lastP (rdP cs reg) p))) s := by
  have h1 : okR (p : Int) = true := by simp [okR]; omega
  have h2 : (rangeD 0 (p : Int)).length ≤ 16777216 := by simp [rangeD]; omega
  have hW : ∀ (s : S) (x : Str), PyData.strOk x = true → inD s (.str x) (.lst [.str (PySem.Str.ofString "read")]) = some ([PySem.Str.ofString "read"].any (· == x)) := fun s x hx => inD_lst s x [PySem.Str.ofString "read"] hx (by decide +kernel)
  simp [F_law_last, b_law_last, h1, h2, fitL, wipeD]
  rw [lcLoop_pure (fun d => match d with | .int k => rdP cs reg k.toNat | _ => false) id _ fun x hx => by
    simp only [rangeD, List.mem_map, List.mem_range] at hx
    obtain ⟨k, hk, rfl⟩ := hx
    have hk2 : k < cs.length := by omega
    refine ⟨[some (.tup (cs.map Ins.enc)), some (.int p), some (.lst [.str (PySem.Str.ofString "read")]), some (.int 1), some (.int reg), some (.int k)], by simp, ?_, fun _ => by simp⟩
    have e0 := core_ix hk2
    have e1 : cs[k]? = some cs[k] := List.getElem?_eq_getElem hk2
    have a1 : ∀ (x y z : D), atI [x, y, z] 1 = some y := fun _ _ _ => rfl
    cases e : cs[k] <;> rw [e] at e0 e1 <;> simp [e0, e1, Ins.enc, hW, rdP, a1]]
  rw [range_filter (rdP cs reg) _ p fun k _ => by simp]
  simp [cut_last, lastP]
theorem law_last_w (s : S) {cs : List Ins} {p : Nat} (hp : p ≤ cs.length) (hl : cs.length ≤ 1000) (reg : Int) : F_law_last [.tup (cs.map Ins.enc), .int p, .lst [.str (PySem.Str.ofString "write"), .str (PySem.Str.ofString "copy")], .int 1, .int reg] s = .ok (.lst (oL (lastP (wrP cs reg) p))) s := by
  have h1 : okR (p : Int) = true := by simp [okR]; omega
  have h2 : (rangeD 0 (p : Int)).length ≤ 16777216 := by simp [rangeD]; omega
  have hW : ∀ (s : S) (x : Str), PyData.strOk x = true → inD s (.str x) (.lst [.str (PySem.Str.ofString "write"), .str (PySem.Str.ofString "copy")]) = some ([PySem.Str.ofString "write", PySem.Str.ofString "copy"].any (· == x)) := fun s x hx => inD_lst s x [PySem.Str.ofString "write", PySem.Str.ofString "copy"] hx (by decide +kernel)
  simp [F_law_last, b_law_last, h1, h2, fitL, wipeD]
  rw [lcLoop_pure (fun d => match d with | .int k => wrP cs reg k.toNat | _ => false) id _ fun x hx => by
    simp only [rangeD, List.mem_map, List.mem_range] at hx
    obtain ⟨k, hk, rfl⟩ := hx
    have hk2 : k < cs.length := by omega
    refine ⟨[some (.tup (cs.map Ins.enc)), some (.int p), some (.lst [.str (PySem.Str.ofString "write"), .str (PySem.Str.ofString "copy")]), some (.int 1), some (.int reg), some (.int k)], by simp, ?_, fun _ => by simp⟩
    have e0 := core_ix hk2
    have e1 : cs[k]? = some cs[k] := List.getElem?_eq_getElem hk2
    have a1 : ∀ (x y z : D), atI [x, y, z] 1 = some y := fun _ _ _ => rfl
    cases e : cs[k] <;> rw [e] at e0 e1 <;> simp [e0, e1, Ins.enc, hW, wrP, a1]]
  rw [range_filter (wrP cs reg) _ p fun k _ => by simp]
  simp [cut_last, lastP]
end G


set_option Elab.async false
set_option linter.all false
set_option maxRecDepth 100000
set_option maxHeartbeats 4000000
namespace G
open PySem PySem.Spec L2 J
@[simp] theorem for_nil (t : TD) (b : GS) (ρ : J.Env) (s : S) : forLoop t b [] ρ s = .ok (.nx ρ) s := id rfl
@[simp] theorem for_cons (t : TD) (b : GS) (x : D) (xs : List D) (ρ : J.Env) (s : S) : forLoop t b (x :: xs) ρ s = match t x ρ with
    | none => .no
    | some ρ1 => (b ρ1 s).bd (fun f s1 => match f with
      | .nx ρ2 => forLoop t b xs ρ2 s1
      | .ct ρ2 => forLoop t b xs ρ2 s1
      | .bk ρ2 => .ok (.nx ρ2) s1
      | .rt d => .ok (.rt d) s1) .mk := id rfl
theorem eq_oD (s : S) (o : Option Nat) (i : Nat) : eqD s (oD o) (.int i) = some (o == some i) := by
  cases o with
  | none => simp [oD]
  | some k =>
    have : ((k : Int) == (i : Int)) = (k == i) := by rw [Bool.eq_iff_iff]; simp; omega
    simp [oD, this]
theorem eq_oL (s : S) (o : Option Nat) (i : Nat) : eqD s (.lst [.int i]) (.lst (oL o)) = some (o == some i) := by
  cases o with
  | none => have := eqD_ints s [(i : Int)] []; simpa [oL] using this
  | some k =>
    have := eqD_ints s [(i : Int)] [(k : Int)]
    simp only [List.map_cons, List.map_nil] at this
    simp only [oL, this]
    have : ((i : Int) == (k : Int)) = (k == i) := by rw [Bool.eq_iff_iff]; simp; omega
    simp [this]
@[simp] theorem oD_n : oD none = .non := id rfl
@[simp] theorem oD_s (k : Nat) : oD (some k) = .int k := id rfl
@[simp] theorem oL_n : oL none = [] := id rfl
@[simp] theorem oL_s (k : Nat) : oL (some k) = [.int k] := id rfl
theorem i1 (x y z : D) : atI [x, y, z] 1 = some y := id rfl
theorem i2 (x y z : D) : atI [x, y, z] 2 = some z := id rfl
theorem asked_ok (s : S) (c : Ins) : F_asked_of [c.enc] s = .ok (match c with | .copy _ r => .int r | .guard r _ => .int r | _ => .non) s := by
  cases c <;> simp [F_asked_of, b_asked_of, Ins.enc, eqD_str, i1, i2]
theorem asks_ok (s : S) {cs : List Ins} (hl : cs.length ≤ 1000) {i j : Nat} (hj : j < cs.length) : F_asks_read [.tup (cs.map Ins.enc), .int i, .int j] s = .ok (.bl (askB cs i j)) s := by
  have e0 := core_ix hj
  have e1 : cs[j]? = some cs[j] := List.getElem?_eq_getElem hj
  have h := asked_ok s cs[j]
  cases e : cs[j] <;> rw [e] at e0 e1 h <;> simp [F_asks_read, b_asks_read, e0, e1, h, askB, last_read_ok s (Nat.le_of_lt hj) hl, eq_oD]
theorem own_ok (s : S) {cs : List Ins} (hl : cs.length ≤ 1000) {i j : Nat} (hj : j < cs.length) : F_own_read [.tup (cs.map Ins.enc), .int i, .int j] s = .ok (.bl (ownB cs i j)) s := by
  have e0 := core_ix hj
  have e1 : cs[j]? = some cs[j] := List.getElem?_eq_getElem hj
  cases e : cs[j] with
  | read r x =>
    rw [e] at e0 e1
    cases eo : lastP (wrP cs x) j with
    | none => simp [F_own_read, b_own_read, e0, e1, Ins.enc, eqD_str, i1, i2, last_writing_ok s (Nat.le_of_lt hj) hl, eo, ownB]
    | some k =>
      have hk := (lastP_lt eo).1
      have hk2 : k < cs.length := by omega
      have e3 := core_ix hk2
      have e4 : cs[k]? = some cs[k] := List.getElem?_eq_getElem hk2
      cases e' : cs[k] <;> rw [e'] at e3 e4 <;> simp [F_own_read, b_own_read, e0, e1, Ins.enc, eqD_str, i1, i2, last_writing_ok s (Nat.le_of_lt hj) hl, last_read_ok s (Nat.le_of_lt hk2) hl, eo, ownB, e3, e4, eq_oD]
  | _ => rw [e] at e0 e1; simp [F_own_read, b_own_read, e0, e1, Ins.enc, eqD_str, ownB]
def lt (c : Ins) : Str := match c with | .read _ _ => PySem.Str.ofString "r" | .write _ _ => PySem.Str.ofString "w" | .copy _ _ => PySem.Str.ofString "w" | .guard _ _ => PySem.Str.ofString "g" | .fence => PySem.Str.ofString "f"
def cellD (c : Ins) : D := match c with | .read _ x => .int x | .write x _ => .int x | .copy x _ => .int x | _ => .non
theorem letter_ok (s : S) (c : Ins) : F_letter_of [c.enc] s = .ok (.str (lt c)) s := by cases c <;> rfl
theorem law_letter_ok (s : S) (c : Ins) : F_law_letter [c.enc] s = .ok (.str (lt c)) s := by cases c <;> rfl
theorem inW (s : S) (x : Str) (hx : PyData.strOk x = true) : inD s (.str x) c_WRITING = some ([PySem.Str.ofString "write", PySem.Str.ofString "copy"].any (· == x)) := inD_tup s x [PySem.Str.ofString "write", PySem.Str.ofString "copy"] hx (by decide +kernel)
theorem inL2 (s : S) (x a b : Str) (hx : PyData.strOk x = true) (ha : PyData.strOk a = true) (hb : PyData.strOk b = true) : inD s (.str x) (.lst [.str a, .str b]) = some ([a, b].any (· == x)) := inD_lst s x [a, b] hx (by simp [ha, hb])
theorem inT2 (s : S) (x a b : Str) (hx : PyData.strOk x = true) (ha : PyData.strOk a = true) (hb : PyData.strOk b = true) : inD s (.str x) (.tup [.str a, .str b]) = some ([a, b].any (· == x)) := inD_tup s x [a, b] hx (by simp [ha, hb])
theorem cell_ok (s : S) (c : Ins) : F_cell_of [c.enc] s = .ok (cellD c) s := by
  cases c <;> simp [F_cell_of, b_cell_of, Ins.enc, eqD_str, i1, i2, cellD, inW]
theorem law_cell_ok (s : S) (c : Ins) : F_law_cell [c.enc] s = .ok (cellD c) s := by
  cases c <;> simp [F_law_cell, b_law_cell, Ins.enc, eqD_str, i1, i2, cellD, inL2, fitL]
theorem f_in_rr (s : S) : inD s (.str (PySem.Str.ofString "f")) (.str (PySem.Str.ofString "rr")) = some false := (by decide +kernel : (some (!(Builtin.Str.occurrences (PySem.Str.ofString "rr") (PySem.Str.ofString "f") 0 (PySem.Str.ofString "rr").length 1).isEmpty) : Option Bool) = some false)
theorem f_in_rw (s : S) : inD s (.str (PySem.Str.ofString "f")) (.str (PySem.Str.ofString "rw")) = some false := (by decide +kernel : (some (!(Builtin.Str.occurrences (PySem.Str.ofString "rw") (PySem.Str.ofString "f") 0 (PySem.Str.ofString "rw").length 1).isEmpty) : Option Bool) = some false)
theorem f_in_rg (s : S) : inD s (.str (PySem.Str.ofString "f")) (.str (PySem.Str.ofString "rg")) = some false := (by decide +kernel : (some (!(Builtin.Str.occurrences (PySem.Str.ofString "rg") (PySem.Str.ofString "f") 0 (PySem.Str.ofString "rg").length 1).isEmpty) : Option Bool) = some false)
theorem f_in_rf (s : S) : inD s (.str (PySem.Str.ofString "f")) (.str (PySem.Str.ofString "rf")) = some true := (by decide +kernel : (some (!(Builtin.Str.occurrences (PySem.Str.ofString "rf") (PySem.Str.ofString "f") 0 (PySem.Str.ofString "rf").length 1).isEmpty) : Option Bool) = some true)
theorem f_in_wr (s : S) : inD s (.str (PySem.Str.ofString "f")) (.str (PySem.Str.ofString "wr")) = some false := (by decide +kernel : (some (!(Builtin.Str.occurrences (PySem.Str.ofString "wr") (PySem.Str.ofString "f") 0 (PySem.Str.ofString "wr").length 1).isEmpty) : Option Bool) = some false)
theorem f_in_ww (s : S) : inD s (.str (PySem.Str.ofString "f")) (.str (PySem.Str.ofString "ww")) = some false := (by decide +kernel : (some (!(Builtin.Str.occurrences (PySem.Str.ofString "ww") (PySem.Str.ofString "f") 0 (PySem.Str.ofString "ww").length 1).isEmpty) : Option Bool) = some false)
theorem f_in_wg (s : S) : inD s (.str (PySem.Str.ofString "f")) (.str (PySem.Str.ofString "wg")) = some false := (by decide +kernel : (some (!(Builtin.Str.occurrences (PySem.Str.ofString "wg") (PySem.Str.ofString "f") 0 (PySem.Str.ofString "wg").length 1).isEmpty) : Option Bool) = some false)
theorem f_in_wf (s : S) : inD s (.str (PySem.Str.ofString "f")) (.str (PySem.Str.ofString "wf")) = some true := (by decide +kernel : (some (!(Builtin.Str.occurrences (PySem.Str.ofString "wf") (PySem.Str.ofString "f") 0 (PySem.Str.ofString "wf").length 1).isEmpty) : Option Bool) = some true)
theorem f_in_gr (s : S) : inD s (.str (PySem.Str.ofString "f")) (.str (PySem.Str.ofString "gr")) = some false := (by decide +kernel : (some (!(Builtin.Str.occurrences (PySem.Str.ofString "gr") (PySem.Str.ofString "f") 0 (PySem.Str.ofString "gr").length 1).isEmpty) : Option Bool) = some false)
theorem f_in_gw (s : S) : inD s (.str (PySem.Str.ofString "f")) (.str (PySem.Str.ofString "gw")) = some false := (by decide +kernel : (some (!(Builtin.Str.occurrences (PySem.Str.ofString "gw") (PySem.Str.ofString "f") 0 (PySem.Str.ofString "gw").length 1).isEmpty) : Option Bool) = some false)
theorem f_in_gg (s : S) : inD s (.str (PySem.Str.ofString "f")) (.str (PySem.Str.ofString "gg")) = some false := (by decide +kernel : (some (!(Builtin.Str.occurrences (PySem.Str.ofString "gg") (PySem.Str.ofString "f") 0 (PySem.Str.ofString "gg").length 1).isEmpty) : Option Bool) = some false)
theorem f_in_gf (s : S) : inD s (.str (PySem.Str.ofString "f")) (.str (PySem.Str.ofString "gf")) = some true := (by decide +kernel : (some (!(Builtin.Str.occurrences (PySem.Str.ofString "gf") (PySem.Str.ofString "f") 0 (PySem.Str.ofString "gf").length 1).isEmpty) : Option Bool) = some true)
theorem f_in_fr (s : S) : inD s (.str (PySem.Str.ofString "f")) (.str (PySem.Str.ofString "fr")) = some true := (by decide +kernel : (some (!(Builtin.Str.occurrences (PySem.Str.ofString "fr") (PySem.Str.ofString "f") 0 (PySem.Str.ofString "fr").length 1).isEmpty) : Option Bool) = some true)
theorem f_in_fw (s : S) : inD s (.str (PySem.Str.ofString "f")) (.str (PySem.Str.ofString "fw")) = some true := (by decide +kernel : (some (!(Builtin.Str.occurrences (PySem.Str.ofString "fw") (PySem.Str.ofString "f") 0 (PySem.Str.ofString "fw").length 1).isEmpty) : Option Bool) = some true)
theorem f_in_fg (s : S) : inD s (.str (PySem.Str.ofString "f")) (.str (PySem.Str.ofString "fg")) = some true := (by decide +kernel : (some (!(Builtin.Str.occurrences (PySem.Str.ofString "fg") (PySem.Str.ofString "f") 0 (PySem.Str.ofString "fg").length 1).isEmpty) : Option Bool) = some true)
theorem f_in_ff (s : S) : inD s (.str (PySem.Str.ofString "f")) (.str (PySem.Str.ofString "ff")) = some true := (by decide +kernel : (some (!(Builtin.Str.occurrences (PySem.Str.ofString "ff") (PySem.Str.ofString "f") 0 (PySem.Str.ofString "ff").length 1).isEmpty) : Option Bool) = some true)
theorem ix_rr (s : S) : fIdx s (.str (PySem.Str.ofString "rr")) (.int 0) = some (.str (PySem.Str.ofString "r")) ∧ fIdx s (.str (PySem.Str.ofString "rr")) (.int 1) = some (.str (PySem.Str.ofString "r")) := ⟨rfl, rfl⟩
theorem ix_rw (s : S) : fIdx s (.str (PySem.Str.ofString "rw")) (.int 0) = some (.str (PySem.Str.ofString "r")) ∧ fIdx s (.str (PySem.Str.ofString "rw")) (.int 1) = some (.str (PySem.Str.ofString "w")) := ⟨rfl, rfl⟩
theorem ix_rg (s : S) : fIdx s (.str (PySem.Str.ofString "rg")) (.int 0) = some (.str (PySem.Str.ofString "r")) ∧ fIdx s (.str (PySem.Str.ofString "rg")) (.int 1) = some (.str (PySem.Str.ofString "g")) := ⟨rfl, rfl⟩
theorem ix_rf (s : S) : fIdx s (.str (PySem.Str.ofString "rf")) (.int 0) = some (.str (PySem.Str.ofString "r")) ∧ fIdx s (.str (PySem.Str.ofString "rf")) (.int 1) = some (.str (PySem.Str.ofString "f")) := ⟨rfl, rfl⟩
theorem ix_wr (s : S) : fIdx s (.str (PySem.Str.ofString "wr")) (.int 0) = some (.str (PySem.Str.ofString "w")) ∧ fIdx s (.str (PySem.Str.ofString "wr")) (.int 1) = some (.str (PySem.Str.ofString "r")) := ⟨rfl, rfl⟩
theorem ix_ww (s : S) : fIdx s (.str (PySem.Str.ofString "ww")) (.int 0) = some (.str (PySem.Str.ofString "w")) ∧ fIdx s (.str (PySem.Str.ofString "ww")) (.int 1) = some (.str (PySem.Str.ofString "w")) := ⟨rfl, rfl⟩
theorem ix_wg (s : S) : fIdx s (.str (PySem.Str.ofString "wg")) (.int 0) = some (.str (PySem.Str.ofString "w")) ∧ fIdx s (.str (PySem.Str.ofString "wg")) (.int 1) = some (.str (PySem.Str.ofString "g")) := ⟨rfl, rfl⟩
theorem ix_wf (s : S) : fIdx s (.str (PySem.Str.ofString "wf")) (.int 0) = some (.str (PySem.Str.ofString "w")) ∧ fIdx s (.str (PySem.Str.ofString "wf")) (.int 1) = some (.str (PySem.Str.ofString "f")) := ⟨rfl, rfl⟩
theorem ix_gr (s : S) : fIdx s (.str (PySem.Str.ofString "gr")) (.int 0) = some (.str (PySem.Str.ofString "g")) ∧ fIdx s (.str (PySem.Str.ofString "gr")) (.int 1) = some (.str (PySem.Str.ofString "r")) := ⟨rfl, rfl⟩
theorem ix_gw (s : S) : fIdx s (.str (PySem.Str.ofString "gw")) (.int 0) = some (.str (PySem.Str.ofString "g")) ∧ fIdx s (.str (PySem.Str.ofString "gw")) (.int 1) = some (.str (PySem.Str.ofString "w")) := ⟨rfl, rfl⟩
theorem ix_gg (s : S) : fIdx s (.str (PySem.Str.ofString "gg")) (.int 0) = some (.str (PySem.Str.ofString "g")) ∧ fIdx s (.str (PySem.Str.ofString "gg")) (.int 1) = some (.str (PySem.Str.ofString "g")) := ⟨rfl, rfl⟩
theorem ix_gf (s : S) : fIdx s (.str (PySem.Str.ofString "gf")) (.int 0) = some (.str (PySem.Str.ofString "g")) ∧ fIdx s (.str (PySem.Str.ofString "gf")) (.int 1) = some (.str (PySem.Str.ofString "f")) := ⟨rfl, rfl⟩
theorem ix_fr (s : S) : fIdx s (.str (PySem.Str.ofString "fr")) (.int 0) = some (.str (PySem.Str.ofString "f")) ∧ fIdx s (.str (PySem.Str.ofString "fr")) (.int 1) = some (.str (PySem.Str.ofString "r")) := ⟨rfl, rfl⟩
theorem ix_fw (s : S) : fIdx s (.str (PySem.Str.ofString "fw")) (.int 0) = some (.str (PySem.Str.ofString "f")) ∧ fIdx s (.str (PySem.Str.ofString "fw")) (.int 1) = some (.str (PySem.Str.ofString "w")) := ⟨rfl, rfl⟩
theorem ix_fg (s : S) : fIdx s (.str (PySem.Str.ofString "fg")) (.int 0) = some (.str (PySem.Str.ofString "f")) ∧ fIdx s (.str (PySem.Str.ofString "fg")) (.int 1) = some (.str (PySem.Str.ofString "g")) := ⟨rfl, rfl⟩
theorem ix_ff (s : S) : fIdx s (.str (PySem.Str.ofString "ff")) (.int 0) = some (.str (PySem.Str.ofString "f")) ∧ fIdx s (.str (PySem.Str.ofString "ff")) (.int 1) = some (.str (PySem.Str.ofString "f")) := ⟨rfl, rfl⟩

theorem inDs {ds : List Str} (h : ds.Sublist names) (s : S) (x : Str) (hx : PyData.strOk x = true) : inD s (.str x) (.tup (ds.map D.str)) = some (ds.any (· == x)) := inD_tup s x ds hx fun y hy => names_ok y (h.subset hy)
theorem cell_eq (s : S) (c d : Ins) : ∃ b : Bool, eqD s (cellD c) (cellD d) = some b := by cases c <;> cases d <;> simp [cellD]
theorem enc_ix0 (s : S) (c : Ins) : fIdx s c.enc (.int 0) = some (.str (match c with | .read _ _ => PySem.Str.ofString "read" | .write _ _ => PySem.Str.ofString "write" | .copy _ _ => PySem.Str.ofString "copy" | .guard _ _ => PySem.Str.ofString "guard" | .fence => PySem.Str.ofString "fence")) := by cases c <;> rfl
def b_own : GS := (sIf (gAnd (gB (gOp2 fEq (gOp2 fIdx (gOp2 fIdx (gVar 1) (gVar 7)) (gC (.int 0))) (gC (.str (PySem.Str.ofString "copy"))))) (gB (gOp2 fEq (gLst (gaCons (gVar 2) (gaNil))) (gCall 5 (F_law_last) (gaCons (gVar 1) (gaCons (gVar 7) (gaCons (gLst (gaCons (gC (.str (PySem.Str.ofString "read"))) (gaNil))) (gaCons (gC (.int 1)) (gaCons (gOp2 fIdx (gOp2 fIdx (gVar 1) (gVar 7)) (gC (.int 2))) (gaNil)))))))))) (sRet (gC (.bl true))) (sNext))
theorem loop_own (s : S) {cs : List Ins} (hl : cs.length ≤ 1000) {i j : Nat} (hj : j < cs.length) {r x : Int} (e1 : cs[j]? = some (.read r x)) (d p a b : D) :
    ∃ y, forLoop (dName 7) b_own (oL (lastP (wrP cs x) j)) [some d, some (.tup (cs.map Ins.enc)), some (.int i), some (.int j), some p, some a, some b, none] s = if ownB cs i j then .ok (.rt (.bl true)) s else .ok (.nx [some d, some (.tup (cs.map Ins.enc)), some (.int i), some (.int j), some p, some a, some b, y]) s := by
  cases eo : lastP (wrP cs x) j with
  | none => exact ⟨none, by simp [ownB, e1, eo]⟩
  | some k =>
    have hk := (lastP_lt eo).1
    have hk2 : k < cs.length := by omega
    have e3 := core_ix hk2
    have e4 : cs[k]? = some cs[k] := List.getElem?_eq_getElem hk2
    refine ⟨some (.int k), ?_⟩
    cases e' : cs[k] with
    | copy c q =>
      rw [e'] at e3 e4
      cases hq : (lastP (rdP cs q) k == some i) <;> simp [b_own, ownB, e1, eo, e3, e4, Ins.enc, eqD_str, i1, i2, law_last_r s (Nat.le_of_lt hk2) hl, eq_oL, hq]
    | _ => rw [e'] at e3 e4; simp [b_own, ownB, e1, eo, e3, e4, Ins.enc, eqD_str]
theorem keeps_must (s : S) {ds : List Str} (hd : ds.Sublist names) {cs : List Ins} (hl : cs.length ≤ 1000) {i j : Nat} (hi : i < j) (hj : j < cs.length) :
    ∃ k : Bool, F_keeps [.tup (ds.map D.str), .tup (cs.map Ins.enc), .int i, .int j] s = .ok (.bl k) s ∧ F_law_must [.tup (ds.map D.str), .tup (cs.map Ins.enc), .int i, .int j] s = .ok (.bl k) s := by
  have hi2 : i < cs.length := by omega
  have e0 := core_ix hj
  have e1 : cs[j]? = some cs[j] := List.getElem?_eq_getElem hj
  have d0 := core_ix hi2
  have e2 := asks_ok s hl (i := i) hj
  have e3 := own_ok s hl (i := i) hj
  obtain ⟨bc, ec⟩ := cell_eq s cs[i] cs[j]
  have k1 := fun r => law_last_r s (Nat.le_of_lt hj) hl r
  have k2 := fun r => law_last_w s (Nat.le_of_lt hj) hl r
  have q1 := letter_ok s cs[i]
  have q2 := letter_ok s cs[j]
  have q3 := law_letter_ok s cs[i]
  have q4 := law_letter_ok s cs[j]
  have q5 := cell_ok s cs[i]
  have q6 := cell_ok s cs[j]
  have q7 := law_cell_ok s cs[i]
  have q8 := law_cell_ok s cs[j]
  have ix0 := enc_ix0 s cs[j]
  have lo := fun r x e => loop_own s hl (i := i) (r := r) (x := x) hj e
  generalize hA : askB cs i j = A at e2
  generalize hO : ownB cs i j = O at e3 lo
  have own1 := inDs hd s (PySem.Str.ofString "own") (by simp)
  have ss1 := inDs hd s (PySem.Str.ofString "ss") (by simp)
  generalize ds.any (· == PySem.Str.ofString "own") = dOwn at own1
  generalize ds.any (· == PySem.Str.ofString "ss") = dSs at ss1
  cases e : cs[j] with
  | fence =>
    simp only [e] at e0 e1 q2 q4
    cases e' : cs[i] <;> simp only [e'] at d0 q1 q3 <;> exact ⟨true, by simp [F_keeps, b_keeps, e0, d0, q1, q2, lt, inT2], by simp [F_law_must, b_law_must, e0, d0, q3, q4, lt, fitL, f_in_rr, f_in_rw, f_in_rg, f_in_rf, f_in_wr, f_in_ww, f_in_wg, f_in_wf, f_in_gr, f_in_gw, f_in_gg, f_in_gf, f_in_fr, f_in_fw, f_in_fg, f_in_ff]⟩
  | read r x =>
    simp only [e] at e0 e1 q2 q4 ec q6 q8 ix0
    have x1 : fIdx s (Ins.enc (.read r x)) (.int 1) = some (.int r) := rfl
    have x2 : fIdx s (Ins.enc (.read r x)) (.int 2) = some (.int x) := rfl
    have hA2 : A = false := by rw [← hA]; simp [askB, e1]
    have lo := lo r x e1
    cases e' : cs[i] <;> simp only [e'] at d0 q1 q3 ec q5 q7 <;> simp only [lt] at q1 q2 q3 q4
    · rename_i u v
      obtain ⟨y, ylo⟩ := lo (.tup (ds.map D.str)) (.str (PySem.Str.ofString "rr")) (Ins.enc (Ins.read u v)) (Ins.enc (.read r x))
      unfold b_own at ylo
      have pr := inDs hd s (PySem.Str.ofString "rr") (by simp)
      cases O <;> cases bc <;> cases dOwn <;> refine ⟨_, by simp [F_keeps, b_keeps, e0, d0, q1, q2, e2, e3, hA2, own1, ss1, ec, q5, q6, inT2, eqD_str, pr]; rfl, ?_⟩ <;> simp [F_law_must, b_law_must, e0, d0, q3, q4, x1, x2, ix0, inL2, eqD_str, k1, k2, eq_oL, hA2, ylo, own1, ss1, q7, q8, ec, pr, f_in_rr, f_in_rw, f_in_rg, f_in_rf, f_in_wr, f_in_ww, f_in_wg, f_in_wf, f_in_gr, f_in_gw, f_in_gg, f_in_gf, f_in_fr, f_in_fw, f_in_fg, f_in_ff, ix_rr, ix_rw, ix_rg, ix_rf, ix_wr, ix_ww, ix_wg, ix_wf, ix_gr, ix_gw, ix_gg, ix_gf, ix_fr, ix_fw, ix_fg, ix_ff]
    · rename_i u v
      obtain ⟨y, ylo⟩ := lo (.tup (ds.map D.str)) (.str (PySem.Str.ofString "wr")) (Ins.enc (Ins.write u v)) (Ins.enc (.read r x))
      unfold b_own at ylo
      have pr := inDs hd s (PySem.Str.ofString "wr") (by simp)
      cases O <;> cases bc <;> cases dOwn <;> refine ⟨_, by simp [F_keeps, b_keeps, e0, d0, q1, q2, e2, e3, hA2, own1, ss1, ec, q5, q6, inT2, eqD_str, pr]; rfl, ?_⟩ <;> simp [F_law_must, b_law_must, e0, d0, q3, q4, x1, x2, ix0, inL2, eqD_str, k1, k2, eq_oL, hA2, ylo, own1, ss1, q7, q8, ec, pr, f_in_rr, f_in_rw, f_in_rg, f_in_rf, f_in_wr, f_in_ww, f_in_wg, f_in_wf, f_in_gr, f_in_gw, f_in_gg, f_in_gf, f_in_fr, f_in_fw, f_in_fg, f_in_ff, ix_rr, ix_rw, ix_rg, ix_rf, ix_wr, ix_ww, ix_wg, ix_wf, ix_gr, ix_gw, ix_gg, ix_gf, ix_fr, ix_fw, ix_fg, ix_ff]
    · rename_i u v
      obtain ⟨y, ylo⟩ := lo (.tup (ds.map D.str)) (.str (PySem.Str.ofString "wr")) (Ins.enc (Ins.copy u v)) (Ins.enc (.read r x))
      unfold b_own at ylo
      have pr := inDs hd s (PySem.Str.ofString "wr") (by simp)
      cases O <;> cases bc <;> cases dOwn <;> refine ⟨_, by simp [F_keeps, b_keeps, e0, d0, q1, q2, e2, e3, hA2, own1, ss1, ec, q5, q6, inT2, eqD_str, pr]; rfl, ?_⟩ <;> simp [F_law_must, b_law_must, e0, d0, q3, q4, x1, x2, ix0, inL2, eqD_str, k1, k2, eq_oL, hA2, ylo, own1, ss1, q7, q8, ec, pr, f_in_rr, f_in_rw, f_in_rg, f_in_rf, f_in_wr, f_in_ww, f_in_wg, f_in_wf, f_in_gr, f_in_gw, f_in_gg, f_in_gf, f_in_fr, f_in_fw, f_in_fg, f_in_ff, ix_rr, ix_rw, ix_rg, ix_rf, ix_wr, ix_ww, ix_wg, ix_wf, ix_gr, ix_gw, ix_gg, ix_gf, ix_fr, ix_fw, ix_fg, ix_ff]
    · skip
      obtain ⟨y, ylo⟩ := lo (.tup (ds.map D.str)) (.str (PySem.Str.ofString "fr")) (Ins.enc (Ins.fence)) (Ins.enc (.read r x))
      unfold b_own at ylo
      exact ⟨true, by simp [F_keeps, b_keeps, e0, d0, q1, q2, inT2], by simp [F_law_must, b_law_must, e0, d0, q3, q4, f_in_rr, f_in_rw, f_in_rg, f_in_rf, f_in_wr, f_in_ww, f_in_wg, f_in_wf, f_in_gr, f_in_gw, f_in_gg, f_in_gf, f_in_fr, f_in_fw, f_in_fg, f_in_ff]⟩
    · rename_i u v
      obtain ⟨y, ylo⟩ := lo (.tup (ds.map D.str)) (.str (PySem.Str.ofString "gr")) (Ins.enc (Ins.guard u v)) (Ins.enc (.read r x))
      unfold b_own at ylo
      have pr := inDs hd s (PySem.Str.ofString "gr") (by simp)
      cases O <;> cases bc <;> cases dOwn <;> refine ⟨_, by simp [F_keeps, b_keeps, e0, d0, q1, q2, e2, e3, hA2, own1, ss1, ec, q5, q6, inT2, eqD_str, pr]; rfl, ?_⟩ <;> simp [F_law_must, b_law_must, e0, d0, q3, q4, x1, x2, ix0, inL2, eqD_str, k1, k2, eq_oL, hA2, ylo, own1, ss1, q7, q8, ec, pr, f_in_rr, f_in_rw, f_in_rg, f_in_rf, f_in_wr, f_in_ww, f_in_wg, f_in_wf, f_in_gr, f_in_gw, f_in_gg, f_in_gf, f_in_fr, f_in_fw, f_in_fg, f_in_ff, ix_rr, ix_rw, ix_rg, ix_rf, ix_wr, ix_ww, ix_wg, ix_wf, ix_gr, ix_gw, ix_gg, ix_gf, ix_fr, ix_fw, ix_fg, ix_ff]
  | write x n =>
    simp only [e] at e0 e1 q2 q4 ec q6 q8 ix0
    have x1 : fIdx s (Ins.enc (.write x n)) (.int 1) = some (.int x) := rfl
    have x2 : fIdx s (Ins.enc (.write x n)) (.int 2) = some (.int n) := rfl
    have hA2 : A = false := by rw [← hA]; simp [askB, e1]
    have hO2 : O = false := by rw [← hO]; simp [ownB, e1]
    cases e' : cs[i] <;> simp only [e'] at d0 q1 q3 ec q5 q7 <;> simp only [lt] at q1 q2 q3 q4
    · skip
      have pr := inDs hd s (PySem.Str.ofString "rw") (by simp)
      cases bc <;> cases dOwn <;> refine ⟨_, by simp [F_keeps, b_keeps, e0, d0, q1, q2, e2, e3, hA2, hO2, own1, ss1, ec, q5, q6, inT2, eqD_str, pr]; rfl, ?_⟩ <;> simp [F_law_must, b_law_must, e0, d0, q3, q4, x1, x2, ix0, inL2, eqD_str, k1, k2, eq_oL, hA2, hO2, own1, ss1, q7, q8, ec, pr, f_in_rr, f_in_rw, f_in_rg, f_in_rf, f_in_wr, f_in_ww, f_in_wg, f_in_wf, f_in_gr, f_in_gw, f_in_gg, f_in_gf, f_in_fr, f_in_fw, f_in_fg, f_in_ff, ix_rr, ix_rw, ix_rg, ix_rf, ix_wr, ix_ww, ix_wg, ix_wf, ix_gr, ix_gw, ix_gg, ix_gf, ix_fr, ix_fw, ix_fg, ix_ff]
    · skip
      have pr := inDs hd s (PySem.Str.ofString "ww") (by simp)
      cases bc <;> cases dOwn <;> refine ⟨_, by simp [F_keeps, b_keeps, e0, d0, q1, q2, e2, e3, hA2, hO2, own1, ss1, ec, q5, q6, inT2, eqD_str, pr]; rfl, ?_⟩ <;> simp [F_law_must, b_law_must, e0, d0, q3, q4, x1, x2, ix0, inL2, eqD_str, k1, k2, eq_oL, hA2, hO2, own1, ss1, q7, q8, ec, pr, f_in_rr, f_in_rw, f_in_rg, f_in_rf, f_in_wr, f_in_ww, f_in_wg, f_in_wf, f_in_gr, f_in_gw, f_in_gg, f_in_gf, f_in_fr, f_in_fw, f_in_fg, f_in_ff, ix_rr, ix_rw, ix_rg, ix_rf, ix_wr, ix_ww, ix_wg, ix_wf, ix_gr, ix_gw, ix_gg, ix_gf, ix_fr, ix_fw, ix_fg, ix_ff]
    · skip
      have pr := inDs hd s (PySem.Str.ofString "ww") (by simp)
      cases bc <;> cases dOwn <;> refine ⟨_, by simp [F_keeps, b_keeps, e0, d0, q1, q2, e2, e3, hA2, hO2, own1, ss1, ec, q5, q6, inT2, eqD_str, pr]; rfl, ?_⟩ <;> simp [F_law_must, b_law_must, e0, d0, q3, q4, x1, x2, ix0, inL2, eqD_str, k1, k2, eq_oL, hA2, hO2, own1, ss1, q7, q8, ec, pr, f_in_rr, f_in_rw, f_in_rg, f_in_rf, f_in_wr, f_in_ww, f_in_wg, f_in_wf, f_in_gr, f_in_gw, f_in_gg, f_in_gf, f_in_fr, f_in_fw, f_in_fg, f_in_ff, ix_rr, ix_rw, ix_rg, ix_rf, ix_wr, ix_ww, ix_wg, ix_wf, ix_gr, ix_gw, ix_gg, ix_gf, ix_fr, ix_fw, ix_fg, ix_ff]
    · skip
      exact ⟨true, by simp [F_keeps, b_keeps, e0, d0, q1, q2, inT2], by simp [F_law_must, b_law_must, e0, d0, q3, q4, f_in_rr, f_in_rw, f_in_rg, f_in_rf, f_in_wr, f_in_ww, f_in_wg, f_in_wf, f_in_gr, f_in_gw, f_in_gg, f_in_gf, f_in_fr, f_in_fw, f_in_fg, f_in_ff]⟩
    · skip
      have pr := inDs hd s (PySem.Str.ofString "gw") (by simp)
      cases bc <;> cases dOwn <;> refine ⟨_, by simp [F_keeps, b_keeps, e0, d0, q1, q2, e2, e3, hA2, hO2, own1, ss1, ec, q5, q6, inT2, eqD_str, pr]; rfl, ?_⟩ <;> simp [F_law_must, b_law_must, e0, d0, q3, q4, x1, x2, ix0, inL2, eqD_str, k1, k2, eq_oL, hA2, hO2, own1, ss1, q7, q8, ec, pr, f_in_rr, f_in_rw, f_in_rg, f_in_rf, f_in_wr, f_in_ww, f_in_wg, f_in_wf, f_in_gr, f_in_gw, f_in_gg, f_in_gf, f_in_fr, f_in_fw, f_in_fg, f_in_ff, ix_rr, ix_rw, ix_rg, ix_rf, ix_wr, ix_ww, ix_wg, ix_wf, ix_gr, ix_gw, ix_gg, ix_gf, ix_fr, ix_fw, ix_fg, ix_ff]
  | copy x r =>
    simp only [e] at e0 e1 q2 q4 ec q6 q8 ix0
    have x1 : fIdx s (Ins.enc (.copy x r)) (.int 1) = some (.int x) := rfl
    have x2 : fIdx s (Ins.enc (.copy x r)) (.int 2) = some (.int r) := rfl
    have hA2 : (lastP (rdP cs r) j == some i) = A := by rw [← hA]; simp [askB, e1]
    have hO2 : O = false := by rw [← hO]; simp [ownB, e1]
    cases e' : cs[i] <;> simp only [e'] at d0 q1 q3 ec q5 q7 <;> simp only [lt] at q1 q2 q3 q4
    · skip
      have pr := inDs hd s (PySem.Str.ofString "rw") (by simp)
      cases A <;> cases bc <;> cases dOwn <;> refine ⟨_, by simp [F_keeps, b_keeps, e0, d0, q1, q2, e2, e3, hA2, hO2, own1, ss1, ec, q5, q6, inT2, eqD_str, pr]; rfl, ?_⟩ <;> simp [F_law_must, b_law_must, e0, d0, q3, q4, x1, x2, ix0, inL2, eqD_str, k1, k2, eq_oL, hA2, hO2, own1, ss1, q7, q8, ec, pr, f_in_rr, f_in_rw, f_in_rg, f_in_rf, f_in_wr, f_in_ww, f_in_wg, f_in_wf, f_in_gr, f_in_gw, f_in_gg, f_in_gf, f_in_fr, f_in_fw, f_in_fg, f_in_ff, ix_rr, ix_rw, ix_rg, ix_rf, ix_wr, ix_ww, ix_wg, ix_wf, ix_gr, ix_gw, ix_gg, ix_gf, ix_fr, ix_fw, ix_fg, ix_ff]
    · skip
      have pr := inDs hd s (PySem.Str.ofString "ww") (by simp)
      cases A <;> cases bc <;> cases dOwn <;> refine ⟨_, by simp [F_keeps, b_keeps, e0, d0, q1, q2, e2, e3, hA2, hO2, own1, ss1, ec, q5, q6, inT2, eqD_str, pr]; rfl, ?_⟩ <;> simp [F_law_must, b_law_must, e0, d0, q3, q4, x1, x2, ix0, inL2, eqD_str, k1, k2, eq_oL, hA2, hO2, own1, ss1, q7, q8, ec, pr, f_in_rr, f_in_rw, f_in_rg, f_in_rf, f_in_wr, f_in_ww, f_in_wg, f_in_wf, f_in_gr, f_in_gw, f_in_gg, f_in_gf, f_in_fr, f_in_fw, f_in_fg, f_in_ff, ix_rr, ix_rw, ix_rg, ix_rf, ix_wr, ix_ww, ix_wg, ix_wf, ix_gr, ix_gw, ix_gg, ix_gf, ix_fr, ix_fw, ix_fg, ix_ff]
    · skip
      have pr := inDs hd s (PySem.Str.ofString "ww") (by simp)
      cases A <;> cases bc <;> cases dOwn <;> refine ⟨_, by simp [F_keeps, b_keeps, e0, d0, q1, q2, e2, e3, hA2, hO2, own1, ss1, ec, q5, q6, inT2, eqD_str, pr]; rfl, ?_⟩ <;> simp [F_law_must, b_law_must, e0, d0, q3, q4, x1, x2, ix0, inL2, eqD_str, k1, k2, eq_oL, hA2, hO2, own1, ss1, q7, q8, ec, pr, f_in_rr, f_in_rw, f_in_rg, f_in_rf, f_in_wr, f_in_ww, f_in_wg, f_in_wf, f_in_gr, f_in_gw, f_in_gg, f_in_gf, f_in_fr, f_in_fw, f_in_fg, f_in_ff, ix_rr, ix_rw, ix_rg, ix_rf, ix_wr, ix_ww, ix_wg, ix_wf, ix_gr, ix_gw, ix_gg, ix_gf, ix_fr, ix_fw, ix_fg, ix_ff]
    · skip
      exact ⟨true, by simp [F_keeps, b_keeps, e0, d0, q1, q2, inT2], by simp [F_law_must, b_law_must, e0, d0, q3, q4, f_in_rr, f_in_rw, f_in_rg, f_in_rf, f_in_wr, f_in_ww, f_in_wg, f_in_wf, f_in_gr, f_in_gw, f_in_gg, f_in_gf, f_in_fr, f_in_fw, f_in_fg, f_in_ff]⟩
    · skip
      have pr := inDs hd s (PySem.Str.ofString "gw") (by simp)
      cases A <;> cases bc <;> cases dOwn <;> refine ⟨_, by simp [F_keeps, b_keeps, e0, d0, q1, q2, e2, e3, hA2, hO2, own1, ss1, ec, q5, q6, inT2, eqD_str, pr]; rfl, ?_⟩ <;> simp [F_law_must, b_law_must, e0, d0, q3, q4, x1, x2, ix0, inL2, eqD_str, k1, k2, eq_oL, hA2, hO2, own1, ss1, q7, q8, ec, pr, f_in_rr, f_in_rw, f_in_rg, f_in_rf, f_in_wr, f_in_ww, f_in_wg, f_in_wf, f_in_gr, f_in_gw, f_in_gg, f_in_gf, f_in_fr, f_in_fw, f_in_fg, f_in_ff, ix_rr, ix_rw, ix_rg, ix_rf, ix_wr, ix_ww, ix_wg, ix_wf, ix_gr, ix_gw, ix_gg, ix_gf, ix_fr, ix_fw, ix_fg, ix_ff]
  | guard r n =>
    simp only [e] at e0 e1 q2 q4 ec q6 q8 ix0
    have x1 : fIdx s (Ins.enc (.guard r n)) (.int 1) = some (.int r) := rfl
    have x2 : fIdx s (Ins.enc (.guard r n)) (.int 2) = some (.int n) := rfl
    have hA2 : (lastP (rdP cs r) j == some i) = A := by rw [← hA]; simp [askB, e1]
    have hO2 : O = false := by rw [← hO]; simp [ownB, e1]
    cases e' : cs[i] <;> simp only [e'] at d0 q1 q3 ec q5 q7 <;> simp only [lt] at q1 q2 q3 q4
    · skip
      have pr := inDs hd s (PySem.Str.ofString "rg") (by simp)
      cases A <;> cases bc <;> cases dOwn <;> refine ⟨_, by simp [F_keeps, b_keeps, e0, d0, q1, q2, e2, e3, hA2, hO2, own1, ss1, ec, q5, q6, inT2, eqD_str, pr]; rfl, ?_⟩ <;> simp [F_law_must, b_law_must, e0, d0, q3, q4, x1, x2, ix0, inL2, eqD_str, k1, k2, eq_oL, hA2, hO2, own1, ss1, q7, q8, ec, pr, f_in_rr, f_in_rw, f_in_rg, f_in_rf, f_in_wr, f_in_ww, f_in_wg, f_in_wf, f_in_gr, f_in_gw, f_in_gg, f_in_gf, f_in_fr, f_in_fw, f_in_fg, f_in_ff, ix_rr, ix_rw, ix_rg, ix_rf, ix_wr, ix_ww, ix_wg, ix_wf, ix_gr, ix_gw, ix_gg, ix_gf, ix_fr, ix_fw, ix_fg, ix_ff]
    · skip
      have pr := inDs hd s (PySem.Str.ofString "wg") (by simp)
      cases A <;> cases bc <;> cases dOwn <;> refine ⟨_, by simp [F_keeps, b_keeps, e0, d0, q1, q2, e2, e3, hA2, hO2, own1, ss1, ec, q5, q6, inT2, eqD_str, pr]; rfl, ?_⟩ <;> simp [F_law_must, b_law_must, e0, d0, q3, q4, x1, x2, ix0, inL2, eqD_str, k1, k2, eq_oL, hA2, hO2, own1, ss1, q7, q8, ec, pr, f_in_rr, f_in_rw, f_in_rg, f_in_rf, f_in_wr, f_in_ww, f_in_wg, f_in_wf, f_in_gr, f_in_gw, f_in_gg, f_in_gf, f_in_fr, f_in_fw, f_in_fg, f_in_ff, ix_rr, ix_rw, ix_rg, ix_rf, ix_wr, ix_ww, ix_wg, ix_wf, ix_gr, ix_gw, ix_gg, ix_gf, ix_fr, ix_fw, ix_fg, ix_ff]
    · skip
      have pr := inDs hd s (PySem.Str.ofString "wg") (by simp)
      cases A <;> cases bc <;> cases dOwn <;> refine ⟨_, by simp [F_keeps, b_keeps, e0, d0, q1, q2, e2, e3, hA2, hO2, own1, ss1, ec, q5, q6, inT2, eqD_str, pr]; rfl, ?_⟩ <;> simp [F_law_must, b_law_must, e0, d0, q3, q4, x1, x2, ix0, inL2, eqD_str, k1, k2, eq_oL, hA2, hO2, own1, ss1, q7, q8, ec, pr, f_in_rr, f_in_rw, f_in_rg, f_in_rf, f_in_wr, f_in_ww, f_in_wg, f_in_wf, f_in_gr, f_in_gw, f_in_gg, f_in_gf, f_in_fr, f_in_fw, f_in_fg, f_in_ff, ix_rr, ix_rw, ix_rg, ix_rf, ix_wr, ix_ww, ix_wg, ix_wf, ix_gr, ix_gw, ix_gg, ix_gf, ix_fr, ix_fw, ix_fg, ix_ff]
    · skip
      exact ⟨true, by simp [F_keeps, b_keeps, e0, d0, q1, q2, inT2], by simp [F_law_must, b_law_must, e0, d0, q3, q4, f_in_rr, f_in_rw, f_in_rg, f_in_rf, f_in_wr, f_in_ww, f_in_wg, f_in_wf, f_in_gr, f_in_gw, f_in_gg, f_in_gf, f_in_fr, f_in_fw, f_in_fg, f_in_ff]⟩
    · skip
      have pr := inDs hd s (PySem.Str.ofString "gg") (by simp)
      cases A <;> cases bc <;> cases dOwn <;> refine ⟨_, by simp [F_keeps, b_keeps, e0, d0, q1, q2, e2, e3, hA2, hO2, own1, ss1, ec, q5, q6, inT2, eqD_str, pr]; rfl, ?_⟩ <;> simp [F_law_must, b_law_must, e0, d0, q3, q4, x1, x2, ix0, inL2, eqD_str, k1, k2, eq_oL, hA2, hO2, own1, ss1, q7, q8, ec, pr, f_in_rr, f_in_rw, f_in_rg, f_in_rf, f_in_wr, f_in_ww, f_in_wg, f_in_wf, f_in_gr, f_in_gw, f_in_gg, f_in_gf, f_in_fr, f_in_fw, f_in_fg, f_in_ff, ix_rr, ix_rw, ix_rg, ix_rf, ix_wr, ix_ww, ix_wg, ix_wf, ix_gr, ix_gw, ix_gg, ix_gf, ix_fr, ix_fw, ix_fg, ix_ff]
end G


set_option Elab.async false
set_option linter.all false
set_option maxRecDepth 100000
set_option maxHeartbeats 4000000
namespace G
open PySem PySem.Spec L2 J
def has (ds : List Str) (x : Str) : Bool := ds.any (· == x)
def desOf (ds : List Str) : Des := ⟨has ds (PySem.Str.ofString "gr"), has ds (PySem.Str.ofString "gw"), has ds (PySem.Str.ofString "own"), has ds (PySem.Str.ofString "rr"), has ds (PySem.Str.ofString "rw"), has ds (PySem.Str.ofString "ss"), has ds (PySem.Str.ofString "wr"), has ds (PySem.Str.ofString "ww")⟩
theorem cell_eq2 (s : S) (c d : Ins) : eqD s (cellD c) (cellD d) = some (c.cellO == d.cellO) := by cases c <;> cases d <;> simp [cellD, Ins.cellO]
theorem keeps_ok (s : S) {ds : List Str} (hd : ds.Sublist names) {cs : List Ins} (hl : cs.length ≤ 1000) {i j : Nat} (hi : i < j) (hj : j < cs.length) :
    F_keeps [.tup (ds.map D.str), .tup (cs.map Ins.enc), .int i, .int j] s = .ok (.bl (keepB (desOf ds) cs i j)) s := by
  have hi2 : i < cs.length := by omega
  have e0 := core_ix hj
  have e1 : cs[j]? = some cs[j] := List.getElem?_eq_getElem hj
  have d0 := core_ix hi2
  have d1 : cs[i]? = some cs[i] := List.getElem?_eq_getElem hi2
  have e2 := asks_ok s hl (i := i) hj
  have e3 := own_ok s hl (i := i) hj
  have ec := cell_eq2 s cs[i] cs[j]
  have q1 := letter_ok s cs[i]
  have q2 := letter_ok s cs[j]
  have q5 := cell_ok s cs[i]
  have q6 := cell_ok s cs[j]
  have hk : keepB (desOf ds) cs i j = ((cs[i].isF || cs[j].isF || (cs[i].isG && cs[j].isG)) || askB cs i j || ((desOf ds).own && ownB cs i j) || kindB (desOf ds) cs[i] cs[j]) := by simp [keepB, e1, d1]
  rw [hk]
  have own1 : inD s (.str (PySem.Str.ofString "own")) (.tup (ds.map D.str)) = some (desOf ds).own := inDs hd s (PySem.Str.ofString "own") (by simp)
  have ss1 : inD s (.str (PySem.Str.ofString "ss")) (.tup (ds.map D.str)) = some (desOf ds).ss := inDs hd s (PySem.Str.ofString "ss") (by simp)
  have p1 : inD s (.str (PySem.Str.ofString "rr")) (.tup (ds.map D.str)) = some (desOf ds).rr := inDs hd s _ (by simp)
  have p2 : inD s (.str (PySem.Str.ofString "rw")) (.tup (ds.map D.str)) = some (desOf ds).rw := inDs hd s _ (by simp)
  have p3 : inD s (.str (PySem.Str.ofString "wr")) (.tup (ds.map D.str)) = some (desOf ds).wr := inDs hd s _ (by simp)
  have p4 : inD s (.str (PySem.Str.ofString "ww")) (.tup (ds.map D.str)) = some (desOf ds).ww := inDs hd s _ (by simp)
  have p5 : inD s (.str (PySem.Str.ofString "gr")) (.tup (ds.map D.str)) = some (desOf ds).gr := inDs hd s _ (by simp)
  have p6 : inD s (.str (PySem.Str.ofString "gw")) (.tup (ds.map D.str)) = some (desOf ds).gw := inDs hd s _ (by simp)
  generalize desOf ds = dd at *
  obtain ⟨gr, gw, own, rr, rw', ss, wr, ww⟩ := dd
  simp only at own1 ss1 p1 p2 p3 p4 p5 p6
  generalize hA : askB cs i j = A at *
  generalize hO : ownB cs i j = O at *
  unfold kindB
  generalize hbc : (cs[i].cellO == cs[j].cellO) = bc at *
  cases e : cs[j] <;> cases e' : cs[i] <;> simp only [e, e'] at e0 d0 q1 q2 q5 q6 ec <;> simp only [lt] at q1 q2 <;> simp only [Ins.isF, Ins.isG, Ins.isW, pairB] <;>
    cases A <;> cases O <;> cases own <;> cases bc <;> simp [F_keeps, b_keeps, e0, d0, q1, q2, e2, e3, own1, ss1, ec, q5, q6, inT2, eqD_str, p1, p2, p3, p4, p5, p6]
end G


set_option Elab.async false
set_option linter.all false
set_option maxRecDepth 100000
set_option maxHeartbeats 4000000
namespace G
open PySem PySem.Spec L2 J
/-! ### a run of the program in the store -/
def encP (P : Prog) : D := .tup (P.map fun cs => .tup (cs.map Ins.enc))
def natL (ks : List Nat) : D := .lst (ks.map fun (k : Nat) => D.int (k : Int))
def elders (d : Des) (cs : List Ins) (p : Nat) : List Nat := (List.range p).filter fun i => keepB d cs i p
def aheadD (d : Des) (P : Prog) : D := .lst (P.map fun cs => .lst ((List.range cs.length).map fun p => natL (elders d cs p)))
def runFs (b m : Nat) (ds : List Str) (P : Prog) : List (Str × D) :=
  [(PySem.Str.ofString "design", .tup (ds.map .str)), (PySem.Str.ofString "program", encP P), (PySem.Str.ofString "done", .lst ((List.range m).map fun i => .obj (b + 1 + i))),
    (PySem.Str.ofString "taken", .lst ((List.range m).map fun i => .obj (b + 1 + m + i))), (PySem.Str.ofString "ends", .obj (b + 1 + 2 * m)), (PySem.Str.ofString "cells", .obj (b + 2 + 2 * m)), (PySem.Str.ofString "ahead", aheadD (desOf ds) P)]
structure ProgOk (P : Prog) : Prop where
  m : P.length ≤ 3
  l : ∀ cs ∈ P, cs.length ≤ 1000
  r : ∀ cs ∈ P, ∀ c ∈ cs, match c with | .read r x => 0 ≤ r ∧ r < 2 ∧ 0 ≤ x ∧ x < 3 | .write x _ => 0 ≤ x ∧ x < 3 | .copy x _ => 0 ≤ x ∧ x < 3 | _ => True
structure RunAt (s : S) (b : Nat) (ds : List Str) (P : Prog) (t : St) : Prop where
  hd : ds.Sublist names
  po : ProgOk P
  ok : StOk P t
  ins : s[b]? = some (.ins 50 (runFs b P.length ds P))
  dn : ∀ i, i < P.length → s[b + 1 + i]? = some (.lst ((coAt t i).done.map D.bl))
  tk : ∀ i, i < P.length → s[b + 1 + P.length + i]? = some (.lst ((coAt t i).taken.map D.int))
  en : s[b + 1 + 2 * P.length]? = some (.lst (t.cos.map fun c => .int (c.ends : Int)))
  ce : s[b + 2 + 2 * P.length]? = some (.lst (t.cells.map D.int))
@[simp] theorem lk_design (b m : Nat) (ds : List Str) (P : Prog) : (runFs b m ds P).lookup (PySem.Str.ofString "design") = some (.tup (ds.map .str)) := id rfl
@[simp] theorem lk_program (b m : Nat) (ds : List Str) (P : Prog) : (runFs b m ds P).lookup (PySem.Str.ofString "program") = some (encP P) := id rfl
@[simp] theorem lk_done (b m : Nat) (ds : List Str) (P : Prog) : (runFs b m ds P).lookup (PySem.Str.ofString "done") = some (.lst ((List.range m).map fun i => .obj (b + 1 + i))) := id rfl
@[simp] theorem lk_taken (b m : Nat) (ds : List Str) (P : Prog) : (runFs b m ds P).lookup (PySem.Str.ofString "taken") = some (.lst ((List.range m).map fun i => .obj (b + 1 + m + i))) := id rfl
@[simp] theorem lk_ends (b m : Nat) (ds : List Str) (P : Prog) : (runFs b m ds P).lookup (PySem.Str.ofString "ends") = some (.obj (b + 1 + 2 * m)) := id rfl
@[simp] theorem lk_cells (b m : Nat) (ds : List Str) (P : Prog) : (runFs b m ds P).lookup (PySem.Str.ofString "cells") = some (.obj (b + 2 + 2 * m)) := id rfl
@[simp] theorem lk_ahead (b m : Nat) (ds : List Str) (P : Prog) : (runFs b m ds P).lookup (PySem.Str.ofString "ahead") = some (aheadD (desOf ds) P) := id rfl
@[simp] theorem lk_word (b m : Nat) (ds : List Str) (P : Prog) : (runFs b m ds P).lookup (PySem.Str.ofString "word") = none := id rfl
@[simp] theorem lk_can (b m : Nat) (ds : List Str) (P : Prog) : (runFs b m ds P).lookup (PySem.Str.ofString "can") = none := id rfl
@[simp] theorem lk_do (b m : Nat) (ds : List Str) (P : Prog) : (runFs b m ds P).lookup (PySem.Str.ofString "do") = none := id rfl
@[simp] theorem lk_seen (b m : Nat) (ds : List Str) (P : Prog) : (runFs b m ds P).lookup (PySem.Str.ofString "seen") = none := id rfl
@[simp] theorem lk_written (b m : Nat) (ds : List Str) (P : Prog) : (runFs b m ds P).lookup (PySem.Str.ofString "written") = none := id rfl
@[simp] theorem lk_events (b m : Nat) (ds : List Str) (P : Prog) : (runFs b m ds P).lookup (PySem.Str.ofString "events") = none := id rfl
@[simp] theorem lk_has_ended (b m : Nat) (ds : List Str) (P : Prog) : (runFs b m ds P).lookup (PySem.Str.ofString "has_ended") = none := id rfl
@[simp] theorem lk_outcome (b m : Nat) (ds : List Str) (P : Prog) : (runFs b m ds P).lookup (PySem.Str.ofString "outcome") = none := id rfl
@[simp] theorem lk_undo (b m : Nat) (ds : List Str) (P : Prog) : (runFs b m ds P).lookup (PySem.Str.ofString "undo") = none := id rfl
@[simp] theorem lk_stand (b m : Nat) (ds : List Str) (P : Prog) : (runFs b m ds P).lookup (PySem.Str.ofString "stand") = none := id rfl
theorem csAt_get {P : Prog} {c : Nat} (h : c < P.length) : csAt P c = P[c] := by simp [csAt, h]
theorem csAt_mem {P : Prog} {c : Nat} (h : c < P.length) : csAt P c ∈ P := by rw [csAt_get h]; exact List.getElem_mem h
theorem prog_ix (s : S) {P : Prog} {c : Nat} (h : c < P.length) : fIdx s (encP P) (.int c) = some (.tup ((csAt P c).map Ins.enc)) := by
  rw [csAt_get h]
  simp only [encP, ap_idxT]
  rw [atI_map _ _ _ h]
section
variable {s : S} {b : Nat} {ds : List Str} {P : Prog} {t : St} {c p : Nat}
theorem RunAt.i (h : RunAt s b ds P t) : insOf 50 s (.obj b) = some (runFs b P.length ds P) := insO h.ins
theorem objs_ix (s : S) (f : Nat → Nat) {m c : Nat} (h : c < m) : fIdx s (.lst ((List.range m).map fun i => .obj (f i))) (.int c) = some (.obj (f c)) := by
  simp only [ap_idxL]
  rw [atI_range _ _ _ h]
theorem core_ix' (s : S) {cs : List Ins} {p : Nat} (h : p < cs.length) : fIdx s (.tup (cs.map Ins.enc)) (.int p) = some (cs[p].enc) := by
  simp only [ap_idxT]; exact core_ix h
theorem RunAt.done_ix (h : RunAt s b ds P t) (hc : c < P.length) (hp : p < (csAt P c).length) : fIdx s (.obj (b + 1 + c)) (.int p) = some (.bl ((coAt t c).dn p)) := by
  have hl : p < (coAt t c).done.length := by rw [(h.ok.co c hc).ld]; exact hp
  simp only [ap_idxO, itemsO (h.dn c hc), Option.bind_some]
  rw [atI_map _ _ _ hl]
  simp [Co.dn, hl]
theorem RunAt.taken_ix (h : RunAt s b ds P t) (hc : c < P.length) (hp : p < (csAt P c).length) : fIdx s (.obj (b + 1 + P.length + c)) (.int p) = some (.int ((coAt t c).tk p)) := by
  have hl : p < (coAt t c).taken.length := by rw [(h.ok.co c hc).lt]; exact hp
  simp only [ap_idxO, itemsO (h.tk c hc), Option.bind_some]
  rw [atI_map _ _ _ hl]
  simp [Co.tk, hl]
theorem RunAt.ends_ix (h : RunAt s b ds P t) (hc : c < P.length) : fIdx s (.obj (b + 1 + 2 * P.length)) (.int c) = some (.int ((coAt t c).ends : Int)) := by
  have hl : c < t.cos.length := by rw [h.ok.lc]; exact hc
  simp only [ap_idxO, itemsO h.en, Option.bind_some]
  rw [atI_map _ _ _ hl]
  simp [coAt, hl]
theorem RunAt.cells_ix (h : RunAt s b ds P t) {x : Int} (h0 : 0 ≤ x) (h3 : x < 3) : fIdx s (.obj (b + 2 + 2 * P.length)) (.int x) = some (.int (cellAt t.cells x)) := by
  obtain ⟨k, rfl⟩ := Int.eq_ofNat_of_zero_le h0
  have hl : k < t.cells.length := by rw [h.ok.l3]; omega
  simp only [ap_idxO, itemsO h.ce, Option.bind_some]
  rw [atI_map _ _ _ hl]
  simp [cellAt, hl]
theorem RunAt.ahead_ix (s1 : S) (h : RunAt s b ds P t) (hc : c < P.length) : fIdx s1 (aheadD (desOf ds) P) (.int c) = some (.lst ((List.range (csAt P c).length).map fun p => natL (elders (desOf ds) (csAt P c) p))) := by
  simp only [aheadD, ap_idxL]
  rw [atI_map _ _ _ hc, csAt_get hc]
theorem nats_ix (s : S) (f : Nat → D) {m c : Nat} (h : c < m) : fIdx s (.lst ((List.range m).map f)) (.int c) = some (f c) := by
  simp only [ap_idxL]
  rw [atI_range _ _ _ h]
theorem RunAt.len (h : RunAt s b ds P t) (hc : c < P.length) : (csAt P c).length ≤ 1000 := h.po.l _ (csAt_mem hc)
theorem RunAt.insOk (h : RunAt s b ds P t) (hc : c < P.length) (hp : p < (csAt P c).length) : match (csAt P c)[p] with | .read r x => 0 ≤ r ∧ r < 2 ∧ 0 ≤ x ∧ x < 3 | .write x _ => 0 ≤ x ∧ x < 3 | .copy x _ => 0 ≤ x ∧ x < 3 | _ => True := h.po.r _ (csAt_mem hc) _ (List.getElem_mem hp)
theorem word_ok (h : RunAt s b ds P t) (hc : c < P.length) (hp : p ≤ (csAt P c).length) (r : Int) : F_Run_word [.obj b, .int c, .int p, .int r] s = .ok (.int (wordC (csAt P c) (coAt t c) p r)) s := by
  have e1 := last_read_ok s hp (h.len hc) r
  cases eo : lastP (rdP (csAt P c) r) p with
  | none => rw [eo] at e1; simp [F_Run_word, b_Run_word, h.i, prog_ix s hc, e1, wordC, eo]
  | some k =>
    rw [eo] at e1
    have hk := (lastP_lt eo).1
    have e2 := h.taken_ix hc (show k < (csAt P c).length by omega)
    have e3 := objs_ix s (fun i => b + 1 + P.length + i) hc
    simp [F_Run_word, b_Run_word, h.i, prog_ix s hc, e1, wordC, eo, e3, e2, -ap_idxL, -ap_idxO]
theorem written_ok (h : RunAt s b ds P t) (hc : c < P.length) (hp : p < (csAt P c).length) (hw : (csAt P c)[p].isW = true) : F_Run_written [.obj b, .int c, .int p] s = .ok (.int (writtenC (csAt P c) (coAt t c) p)) s := by
  have e0 := core_ix' s hp
  have e1 : (csAt P c)[p]? = some (csAt P c)[p] := List.getElem?_eq_getElem hp
  cases e : (csAt P c)[p] with
  | write x n =>
    rw [e] at e0 e1
    simp [F_Run_written, b_Run_written, h.i, prog_ix s hc, e0, writtenC, e1, Ins.enc, eqD_str, i1, i2, -ap_idxT, ap_idxT (s := s) (ds := [_, _, _])]
  | copy x r =>
    rw [e] at e0 e1
    have e2 := word_ok h hc (Nat.le_of_lt hp) r
    simp [F_Run_written, b_Run_written, h.i, prog_ix s hc, e0, writtenC, e1, Ins.enc, eqD_str, i1, i2, e2, -ap_idxT, ap_idxT (s := s) (ds := [_, _, _])]
  | _ => rw [e] at hw; cases hw

theorem map_set_same {α β : Type} {f : α → β} (xs : List α) (c : Nat) (x : α) (h : ∀ y, xs[c]? = some y → f x = f y) : (xs.set c x).map f = xs.map f := by
  refine List.ext_getElem? fun i => ?_
  rw [List.getElem?_map, List.getElem?_map, List.getElem?_set]
  by_cases e : c = i
  · subst e
    rw [if_pos rfl]
    cases e2 : xs[c]? with
    | none => simp [List.getElem?_eq_none_iff.mp e2]
    | some y =>
      rw [if_pos (List.getElem?_eq_some_iff.mp e2).1]
      simp [h y e2]
  · rw [if_neg e]
theorem cos_get (h : StOk P t) (hc : c < P.length) : t.cos[c]? = some (coAt t c) := by
  have hl : c < t.cos.length := by rw [h.lc]; exact hc
  simp [coAt, hl]
theorem RunAt.setDn (h : RunAt s b ds P t) (hc : c < P.length) (x : List Bool) (hx : x.length = (csAt P c).length) : RunAt (s.set (b + 1 + c) (.lst (x.map D.bl))) b ds P ⟨t.cos.set c ⟨x, (coAt t c).taken, (coAt t c).ends⟩, t.cells⟩ := by
  have hl : c < t.cos.length := by rw [h.ok.lc]; exact hc
  refine ⟨h.hd, h.po, ⟨by simp [h.ok.lc], h.ok.l3, fun i hi => ?_⟩, ?_, fun i hi => ?_, fun i hi => ?_, ?_, ?_⟩
  · rw [coAt_set hl]; split
    · rename_i e; subst e; exact ⟨hx, (h.ok.co i hc).lt, (h.ok.co i hc).le⟩
    · exact h.ok.co i hi
  · rw [List.getElem?_set_ne (by omega)]; exact h.ins
  · rw [coAt_set hl]
    by_cases e : i = c
    · subst e
      rw [if_pos rfl, List.getElem?_set_self (by have := (List.getElem?_eq_some_iff.mp (h.dn i hi)).1; exact this)]
    · rw [if_neg e, List.getElem?_set_ne (by omega)]; exact h.dn i hi
  · rw [coAt_set hl, List.getElem?_set_ne (by omega), h.tk i hi]
    split
    · rename_i e; subst e; rfl
    · rfl
  · rw [List.getElem?_set_ne (by omega), h.en]
    rw [map_set_same _ _ _ fun y hy => by rw [cos_get h.ok hc] at hy; cases hy; rfl]
  · rw [List.getElem?_set_ne (by omega)]; exact h.ce
theorem RunAt.setTk (h : RunAt s b ds P t) (hc : c < P.length) (x : List Int) (hx : x.length = (csAt P c).length) : RunAt (s.set (b + 1 + P.length + c) (.lst (x.map D.int))) b ds P ⟨t.cos.set c ⟨(coAt t c).done, x, (coAt t c).ends⟩, t.cells⟩ := by
  have hl : c < t.cos.length := by rw [h.ok.lc]; exact hc
  refine ⟨h.hd, h.po, ⟨by simp [h.ok.lc], h.ok.l3, fun i hi => ?_⟩, ?_, fun i hi => ?_, fun i hi => ?_, ?_, ?_⟩
  · rw [coAt_set hl]; split
    · rename_i e; subst e; exact ⟨(h.ok.co i hc).ld, hx, (h.ok.co i hc).le⟩
    · exact h.ok.co i hi
  · rw [List.getElem?_set_ne (by omega)]; exact h.ins
  · rw [coAt_set hl, List.getElem?_set_ne (by omega), h.dn i hi]
    split
    · rename_i e; subst e; rfl
    · rfl
  · rw [coAt_set hl]
    by_cases e : i = c
    · subst e
      rw [if_pos rfl, List.getElem?_set_self (by have := (List.getElem?_eq_some_iff.mp (h.tk i hi)).1; exact this)]
    · rw [if_neg e, List.getElem?_set_ne (by omega)]; exact h.tk i hi
  · rw [List.getElem?_set_ne (by omega), h.en]
    rw [map_set_same _ _ _ fun y hy => by rw [cos_get h.ok hc] at hy; cases hy; rfl]
  · rw [List.getElem?_set_ne (by omega)]; exact h.ce
theorem RunAt.setEn (h : RunAt s b ds P t) (hc : c < P.length) (x : Nat) (hx : x ≤ (csAt P c).length) : RunAt (s.set (b + 1 + 2 * P.length) (.lst ((t.cos.map fun c => D.int (c.ends : Int)).set c (.int (x : Int))))) b ds P ⟨t.cos.set c ⟨(coAt t c).done, (coAt t c).taken, x⟩, t.cells⟩ := by
  have hl : c < t.cos.length := by rw [h.ok.lc]; exact hc
  refine ⟨h.hd, h.po, ⟨by simp [h.ok.lc], h.ok.l3, fun i hi => ?_⟩, ?_, fun i hi => ?_, fun i hi => ?_, ?_, ?_⟩
  · rw [coAt_set hl]; split
    · rename_i e; subst e; exact ⟨(h.ok.co i hc).ld, (h.ok.co i hc).lt, hx⟩
    · exact h.ok.co i hi
  · rw [List.getElem?_set_ne (by omega)]; exact h.ins
  · rw [coAt_set hl, List.getElem?_set_ne (by omega), h.dn i hi]
    split
    · rename_i e; subst e; rfl
    · rfl
  · rw [coAt_set hl, List.getElem?_set_ne (by omega), h.tk i hi]
    split
    · rename_i e; subst e; rfl
    · rfl
  · rw [List.getElem?_set_self (by have := (List.getElem?_eq_some_iff.mp h.en).1; exact this)]
    simp [List.map_set]
  · rw [List.getElem?_set_ne (by omega)]; exact h.ce
theorem RunAt.setCe (h : RunAt s b ds P t) (x : List Int) (hx : x.length = 3) : RunAt (s.set (b + 2 + 2 * P.length) (.lst (x.map D.int))) b ds P ⟨t.cos, x⟩ := by
  refine ⟨h.hd, h.po, ⟨h.ok.lc, hx, h.ok.co⟩, ?_, fun i hi => ?_, fun i hi => ?_, ?_, ?_⟩
  · rw [List.getElem?_set_ne (by omega)]; exact h.ins
  · rw [List.getElem?_set_ne (by omega)]; exact h.dn i hi
  · rw [List.getElem?_set_ne (by omega)]; exact h.tk i hi
  · rw [List.getElem?_set_ne (by omega)]; exact h.en
  · rw [List.getElem?_set_self (by have := (List.getElem?_eq_some_iff.mp h.ce).1; exact this)]
/-- what the run does not hold is as it was -/
def Fr (b m : Nat) (s s' : S) : Prop := s'.length = s.length ∧ ∀ k, (k < b ∨ b + 3 + 2 * m ≤ k) → s'[k]? = s[k]?
theorem Fr.refl (b m : Nat) (s : S) : Fr b m s s := ⟨rfl, fun _ _ => rfl⟩
theorem Fr.trans {b m : Nat} {s s' s'' : S} (h : Fr b m s s') (h' : Fr b m s' s'') : Fr b m s s'' := ⟨h'.1.trans h.1, fun k hk => (h'.2 k hk).trans (h.2 k hk)⟩
theorem Fr.set {b m n : Nat} {s : S} {u : IO} (h : b ≤ n ∧ n < b + 3 + 2 * m) : Fr b m s (s.set n u) := ⟨by simp, fun k hk => by rw [List.getElem?_set_ne (by omega)]⟩
/-- the run stands as well where nothing of it was changed -/
theorem RunAt.ext {s' : S} (h : RunAt s b ds P t) (e : ∀ k, b ≤ k → k < b + 3 + 2 * P.length → s'[k]? = s[k]?) : RunAt s' b ds P t := by
  have := h.po.m
  exact ⟨h.hd, h.po, h.ok, (e _ (by omega) (by omega)).trans h.ins, fun i hi => (e _ (by omega) (by omega)).trans (h.dn i hi), fun i hi => (e _ (by omega) (by omega)).trans (h.tk i hi), (e _ (by omega) (by omega)).trans h.en, (e _ (by omega) (by omega)).trans h.ce⟩
end
end G


set_option Elab.async false
set_option linter.all false
set_option maxRecDepth 100000
set_option maxHeartbeats 4000000
namespace G
open PySem PySem.Spec L2 J
theorem lcNat {t : TD} {gt : GT} {ge : GE} {ρ : J.Env} {s : S} (p : Nat → Bool) (f : Nat → D) : ∀ ks : List Nat, (∀ k ∈ ks, ∃ ρ1, t (.int k) ρ = some ρ1 ∧ gt ρ1 s = .ok (p k) s ∧ (p k = true → ge ρ1 s = .ok (f k) s)) → lcLoop t gt ge ρ (ks.map fun (k : Nat) => D.int (k : Int)) s = .ok ((ks.filter p).map f) s
  | [], _ => rfl
  | k :: ks, h => by
    obtain ⟨ρ1, h1, h2, h3⟩ := h k List.mem_cons_self
    have ih := lcNat p f ks fun y hy => h y (List.mem_cons_of_mem _ hy)
    rw [List.map_cons]
    unfold lcLoop
    rw [h1]
    simp only [h2, noErr, R.bind_ok]
    cases e : p k with
    | true => simp only [if_true, h3 e, ih, R.bind_ok]; rw [List.filter_cons_of_pos e]; rfl
    | false => simp only [Bool.false_eq_true, if_false, ih]; rw [List.filter_cons_of_neg (by rw [e]; exact Bool.false_ne_true)]
theorem lcNat1 {t : TD} {ge : GE} {ρ : J.Env} {s : S} (f : Nat → D) (ks : List Nat) (h : ∀ k ∈ ks, ∃ ρ1, t (.int k) ρ = some ρ1 ∧ ge ρ1 s = .ok (f k) s) : lcLoop t gYes ge ρ (ks.map fun (k : Nat) => D.int (k : Int)) s = .ok (ks.map f) s := by
  rw [lcNat (fun _ => true) f ks fun k hk => by
    obtain ⟨ρ1, h1, h2⟩ := h k hk
    exact ⟨ρ1, h1, rfl, fun _ => h2⟩]
  rw [List.filter_eq_self.mpr fun _ _ => rfl]
theorem lcMap {α : Type} {t : TD} {ge : GE} {ρ : J.Env} {s : S} (e : α → D) (f : α → D) (ks : List α) (h : ∀ k ∈ ks, ∃ ρ1, t (e k) ρ = some ρ1 ∧ ge ρ1 s = .ok (f k) s) : lcLoop t gYes ge ρ (ks.map e) s = .ok (ks.map f) s := by
  induction ks with
  | nil => rfl
  | cons k ks ih =>
    obtain ⟨ρ1, h1, h2⟩ := h k List.mem_cons_self
    rw [List.map_cons]
    unfold lcLoop
    rw [h1]
    simp only [gYes, noErr, R.bind_ok, if_true, h2, ih fun y hy => h y (List.mem_cons_of_mem _ hy)]
    rfl
theorem rangeD_nat (n : Nat) : rangeD 0 (n : Int) = (List.range n).map fun (k : Nat) => D.int (k : Int) := by simp [rangeD]
theorem blsD_mapB {α : Type} (g : α → Bool) : ∀ xs : List α, blsD (xs.map fun x => D.bl (g x)) = some (xs.map g)
  | [] => rfl
  | x :: xs => by simp [blsD, blsD_mapB g xs]
theorem blsD_id (xs : List Bool) : blsD (xs.map D.bl) = some xs := by have := blsD_mapB id xs; simpa using this
theorem fAny_map {α : Type} (s : S) (g : α → Bool) (xs : List α) : fAny s (.lst (xs.map fun x => D.bl (g x))) = some (.bl (xs.any g)) := by
  simp [fAny, itemsL, blsD_mapB, List.any_map, Function.comp_def]
theorem fAll_mapB {α : Type} (s : S) (g : α → Bool) (xs : List α) : fAll s (.lst (xs.map fun x => D.bl (g x))) = some (.bl (xs.all g)) := by
  simp [fAll, itemsL, blsD_mapB, List.all_map, Function.comp_def]
theorem fAny_bls (s : S) (xs : List Bool) : fAny s (.lst (xs.map D.bl)) = some (.bl (xs.any id)) := by simp [fAny, itemsL, blsD_id]
theorem fAll_bls (s : S) (xs : List Bool) : fAll s (.lst (xs.map D.bl)) = some (.bl (xs.all id)) := by simp [fAll, itemsL, blsD_id]
theorem cut_from {α : Type} (f : α → D) (xs : List α) (k : Nat) : cutD (xs.map f) (some (k : Int)) none = (xs.drop k).map f := by
  have h2 : HT.sIx xs.length xs.length none = xs.length := rfl
  have h1 : HT.sIx xs.length 0 (some (k : Int)) = min k xs.length := by simp [HT.sIx]; try omega
  simp only [cutD, List.length_map, h1, h2]
  rw [← List.map_drop, ← List.map_take]
  congr 1
  by_cases h : k ≤ xs.length
  · rw [Nat.min_eq_left h]; exact List.take_of_length_le (by simp)
  · rw [Nat.min_eq_right (by omega), List.drop_eq_nil_of_le (Nat.le_refl _), List.drop_eq_nil_of_le (by omega)]; simp
theorem cut_to {α : Type} (f : α → D) (xs : List α) (k : Nat) : cutD (xs.map f) none (some (k : Int)) = (xs.take k).map f := by
  have h2 : HT.sIx xs.length 0 none = 0 := rfl
  have h1 : HT.sIx xs.length xs.length (some (k : Int)) = min k xs.length := by simp [HT.sIx]; try omega
  simp only [cutD, List.length_map, h1, h2, List.drop_zero, Nat.sub_zero]
  rw [← List.map_take]
  congr 1
  by_cases h : k ≤ xs.length
  · rw [Nat.min_eq_left h]
  · rw [Nat.min_eq_right (by omega), List.take_of_length_le (Nat.le_refl _), List.take_of_length_le (by omega)]
section
variable {s : S} {b : Nat} {ds : List Str} {P : Prog} {t : St} {c p : Nat}
theorem items_natL (ks : List Nat) : itemsF (natL ks) = some (ks.map fun (k : Nat) => D.int (k : Int)) := rfl
theorem isNR (i : Int) : isD (.int i) .non = some false := rfl
theorem seen_ok (h : RunAt s b ds P t) (hc : c < P.length) (hp : p ≤ (csAt P c).length) {x : Int} (h0 : 0 ≤ x) (h3 : x < 3) : F_Run_seen [.obj b, .int c, .int p, .int x] s = .ok (.int (seenC (csAt P c) (coAt t c) t.cells p x)) s := by
  have e1 := last_writing_ok s hp (h.len hc) x
  have ec := h.cells_ix h0 h3
  cases eo : lastP (wrP (csAt P c) x) p with
  | none => rw [eo] at e1; simp [F_Run_seen, b_Run_seen, h.i, prog_ix s hc, e1, seenC, eo, ec, -ap_idxL, -ap_idxO]
  | some k =>
    rw [eo] at e1
    obtain ⟨hk, hw⟩ := lastP_lt eo
    have hk2 : k < (csAt P c).length := by omega
    have e2 := h.done_ix hc hk2
    have e3 := objs_ix s (fun i => b + 1 + i) hc
    have e4 := written_ok h hc hk2 (by
      unfold wrP at hw
      rw [List.getElem?_eq_getElem hk2] at hw
      cases e : (csAt P c)[k] <;> rw [e] at hw <;> first | rfl | cases hw)
    cases hd : (coAt t c).dn k with
    | true => rw [hd] at e2; simp [F_Run_seen, b_Run_seen, h.i, prog_ix s hc, e1, seenC, eo, ec, e3, e2, hd, -ap_idxL, -ap_idxO]
    | false => rw [hd] at e2; simp [F_Run_seen, b_Run_seen, h.i, prog_ix s hc, e1, seenC, eo, e3, e2, e4, hd, -ap_idxL, -ap_idxO]
theorem gt_nat (s : S) (a b : Nat) : fGt s (.int a) (.int b) = some (.bl (decide (b < a))) := by
  have : decide ((b : Int) < (a : Int)) = decide (b < a) := by simp
  simp [this]
theorem can_ok (h : RunAt s b ds P t) (hc : c < P.length) (hp : p < (csAt P c).length) : F_Run_can [.obj b, .int c, .int p] s = .ok (.bl (canC (desOf ds) (csAt P c) (coAt t c) p)) s := by
  have hl := h.len hc
  have e0 := core_ix' s hp
  have e1 : (csAt P c)[p]? = some (csAt P c)[p] := List.getElem?_eq_getElem hp
  have e2 := h.done_ix hc hp
  have e3 := objs_ix s (fun i => b + 1 + i) hc
  have e4 := h.ends_ix hc
  have e5 := h.ahead_ix s hc
  have e6 := nats_ix s (fun p => natL (elders (desOf ds) (csAt P c) p)) hp
  have ef : lcLoop (dName 4) gYes (gNotV (gOp2 fIdx (gOp2 fIdx (gFld 50 (PySem.Str.ofString "done") (gVar 0)) (gVar 1)) (gVar 4))) [some (.obj b), some (.int c), some (.int p), none, none] ((elders (desOf ds) (csAt P c) p).map fun (k : Nat) => D.int (k : Int)) s = .ok ((elders (desOf ds) (csAt P c) p).map fun k => D.bl (!(coAt t c).dn k)) s :=
    lcNat1 (fun k => D.bl (!(coAt t c).dn k)) _ fun k hk => by
      have hk2 : k < (csAt P c).length := by
        have : k < p := by simp only [elders, List.mem_filter, List.mem_range] at hk; exact hk.1
        omega
      have e7 := h.done_ix hc hk2
      exact ⟨_, rfl, by simp [h.i, e3, e7, -ap_idxL, -ap_idxO]⟩
  have ea := fAny_map s (fun k => !(coAt t c).dn k) (elders (desOf ds) (csAt P c) p)
  have hel : (elders (desOf ds) (csAt P c) p).length ≤ 16777216 := by
    have : (elders (desOf ds) (csAt P c) p).length ≤ p := by
      have := List.length_filter_le (fun i => keepB (desOf ds) (csAt P c) i p) (List.range p)
      simpa [elders] using this
    omega
  have hall : ((List.range p).all fun i => !keepB (desOf ds) (csAt P c) i p || (coAt t c).dn i) = !((elders (desOf ds) (csAt P c) p).any fun k => !(coAt t c).dn k) := by
    rw [Bool.eq_iff_iff]
    simp only [elders, List.all_eq_true, List.mem_range, Bool.or_eq_true, Bool.not_eq_true', List.any_eq_false, List.mem_filter, and_imp, Bool.not_eq_false]
    constructor
    · intro q x hx hk
      rcases q x hx with z | z
      · rw [hk] at z; cases z
      · simp [z]
    · intro q x hx
      cases hk : keepB (desOf ds) (csAt P c) x p with
      | false => exact .inl rfl
      | true => right; have := q x hx hk; simpa using this
  have ed : itemsL s (.obj (b + 1 + c)) = some ((coAt t c).done.map D.bl) := itemsO (h.dn c hc)
  have es : fSl s (.obj (b + 1 + c)) (some ((p : Int) + 1)) none = some (.lst (((coAt t c).done.drop (p + 1)).map D.bl)) := by
    have := cut_from D.bl (coAt t c).done (p + 1)
    rw [show ((p : Int) + 1) = ((p + 1 : Nat) : Int) by omega]
    simp only [ap_slO, ed, Option.map_some, this]
  have eb := fAny_bls s ((coAt t c).done.drop (p + 1))
  unfold canC
  rw [hall]
  generalize (elders (desOf ds) (csAt P c) p).any (fun k => !(coAt t c).dn k) = A at *
  cases hd : (coAt t c).dn p with
  | true => rw [hd] at e2; simp [F_Run_can, b_Run_can, h.i, e3, e2, -ap_idxL, -ap_idxO]
  | false =>
    rw [hd] at e2
    by_cases he : (coAt t c).ends < p
    · simp [F_Run_can, b_Run_can, h.i, e3, e2, e4, gt_nat, he, -ap_gtI, -ap_idxL, -ap_idxO]
      omega
    · have he2 : p ≤ (coAt t c).ends := by omega
      cases A with
      | true => simp [F_Run_can, b_Run_can, h.i, e3, e2, e4, gt_nat, he, e5, e6, items_natL, ef, ea, hel, -ap_gtI, -ap_idxL, -ap_idxO]
      | false =>
        cases e : (csAt P c)[p] with
        | guard r n =>
          rw [e] at e0 e1
          have e8 := word_ok h hc (Nat.le_of_lt hp) r
          cases hw : (wordC (csAt P c) (coAt t c) p r == n) with
          | true => simp [F_Run_can, b_Run_can, h.i, e3, e2, e4, gt_nat, he, he2, e5, e6, items_natL, ef, ea, hel, prog_ix s hc, e0, Ins.enc, ap_idxT (s := s) (ds := [_, _, _]), i1, i2, eqD_str, e8, hw, stopsC, e1, bne, -ap_gtI, -ap_idxL, -ap_idxO, -ap_idxT]
          | false => simp [F_Run_can, b_Run_can, h.i, e3, e2, e4, gt_nat, he, he2, e5, e6, items_natL, ef, ea, hel, prog_ix s hc, e0, Ins.enc, ap_idxT (s := s) (ds := [_, _, _]), i1, i2, eqD_str, e8, hw, stopsC, e1, bne, es, eb, -List.map_drop, -ap_slO, -ap_gtI, -ap_idxL, -ap_idxO, -ap_idxT]
        | _ => rw [e] at e0 e1; simp [F_Run_can, b_Run_can, h.i, e3, e2, e4, gt_nat, he, he2, e5, e6, items_natL, ef, ea, hel, prog_ix s hc, e0, Ins.enc, ap_idxT (s := s) (ds := [_, _, _]), ap_idxT (s := s) (ds := [_]), eqD_str, stopsC, e1, -ap_gtI, -ap_idxL, -ap_idxO, -ap_idxT]
end
end G


set_option Elab.async false
set_option linter.all false
set_option maxRecDepth 100000
set_option maxHeartbeats 4000000
namespace G
open PySem PySem.Spec L2 J
def evD (e : Nat × Nat) : D := .tup [.int (e.1 : Int), .int (e.2 : Int)]
def cellWD (t : St) (c : Ins) : D := match c.cellO with | some x => .int (cellAt t.cells x) | none => .non
def backD (P : Prog) (t : St) (e : Nat × Nat) : D := match (csAt P e.1)[e.2]? with
  | some c => .tup [.int (e.1 : Int), .int (e.2 : Int), .int ((coAt t e.1).ends : Int), cellD c, cellWD t c]
  | none => .non
section
variable {s : S} {b : Nat} {ds : List Str} {P : Prog} {t : St} {c p : Nat}
theorem seenC_done {cs : List Ins} {co : Co} {cells : List Int} {p : Nat} {x : Int} (hp : p < co.done.length) : seenC cs ⟨co.done.set p true, co.taken, co.ends⟩ cells p x = seenC cs co cells p x := by
  unfold seenC
  cases eo : lastP (wrP cs x) p with
  | none => rfl
  | some k =>
    have hk := (lastP_lt eo).1
    have hne : k ≠ p := by omega
    simp only [dn_set hp, if_neg hne]
    rfl
theorem wordC_done {cs : List Ins} {co : Co} {d : List Bool} {e p : Nat} {r : Int} : wordC cs ⟨d, co.taken, e⟩ p r = wordC cs co p r := rfl
theorem writtenC_done {cs : List Ins} {co : Co} {d : List Bool} {e p : Nat} : writtenC cs ⟨d, co.taken, e⟩ p = writtenC cs co p := rfl
theorem do_ok (h : RunAt s b ds P t) (hc : c < P.length) (hp : p < (csAt P c).length) : ∃ s', F_Run_do [.obj b, evD (c, p)] s = .ok (backD P t (c, p)) s' ∧ RunAt s' b ds P (doP P t (c, p)) ∧ Fr b P.length s s' := by
  have m3 := h.po.m
  have hdl : p < (coAt t c).done.length := by rw [(h.ok.co c hc).ld]; exact hp
  have htl : p < (coAt t c).taken.length := by rw [(h.ok.co c hc).lt]; exact hp
  have hcl : c < t.cos.length := by rw [h.ok.lc]; exact hc
  have e0 := core_ix' s hp
  have e1 : (csAt P c)[p]? = some (csAt P c)[p] := List.getElem?_eq_getElem hp
  have e3 := fun s => objs_ix s (fun i => b + 1 + i) hc
  have e4 := h.ends_ix hc
  have eT := fun s => objs_ix s (fun i => b + 1 + P.length + i) hc
  have k1 := h.setDn hc ((coAt t c).done.set p true) (by simp [(h.ok.co c hc).ld])
  have pd : putL s (.obj (b + 1 + c)) (.int p) (.bl true) = some (s.set (b + 1 + c) (.lst (((coAt t c).done.set p true).map D.bl))) := by
    rw [putO (h.dn c hc) (by simpa using hdl), List.map_set]
  generalize hs1 : s.set (b + 1 + c) (.lst (((coAt t c).done.set p true).map D.bl)) = s1 at k1 pd
  generalize ht1 : (⟨t.cos.set c ⟨(coAt t c).done.set p true, (coAt t c).taken, (coAt t c).ends⟩, t.cells⟩ : St) = t1 at k1
  have fr1 : Fr b P.length s s1 := by rw [← hs1]; exact Fr.set (by omega)
  have c1 : coAt t1 c = ⟨(coAt t c).done.set p true, (coAt t c).taken, (coAt t c).ends⟩ := by rw [← ht1, coAt_set hcl, if_pos rfl]
  have ce1 : t1.cells = t.cells := by rw [← ht1]
  have set2 : ∀ x, t1.cos.set c x = t.cos.set c x := fun x => by rw [← ht1]; simp
  have e9 := cell_ok s (csAt P c)[p]
  have hr := h.insOk hc hp
  have a0 : fIdx s (.tup ((csAt P c).map Ins.enc)) (.int p) = some (csAt P c)[p].enc := e0
  cases e : (csAt P c)[p] with
  | read r x =>
    rw [e] at e0 e1 e9 hr; simp only [Ins.enc] at e0 e9
    obtain ⟨_, _, x0, x3⟩ := hr
    have ec := h.cells_ix x0 x3
    have es := seen_ok k1 hc (Nat.le_of_lt hp) x0 x3
    rw [c1, ce1, seenC_done hdl] at es
    have pt : ∀ v : Int, putL s1 (.obj (b + 1 + P.length + c)) (.int p) (.int v) = some (s1.set (b + 1 + P.length + c) (.lst (((coAt t c).taken.set p v).map D.int))) := fun v => by
      rw [putO (k1.tk c hc) (by rw [c1]; simpa using htl), c1, List.map_set]
    have k2 := k1.setTk hc ((coAt t c).taken.set p (seenC (csAt P c) (coAt t c) t.cells p x)) (by simp [(h.ok.co c hc).lt])
    have hdo : doP P t (c, p) = ⟨t1.cos.set c ⟨(coAt t1 c).done, (coAt t c).taken.set p (seenC (csAt P c) (coAt t c) t.cells p x), (coAt t1 c).ends⟩, t1.cells⟩ := by
      simp [doP, doC, e1, c1, ce1, set2]
    rw [hdo]
    refine ⟨_, ?_, k2, fr1.trans (Fr.set ⟨by omega, by omega⟩)⟩
    simp [F_Run_do, b_Run_do, evD, h.i, k1.i, prog_ix s hc, prog_ix s1 hc, e0, e9, cellD, e4, e3, eT, pd, Ins.enc, eqD_str, backD, e1, cellWD, Ins.cellO, ap_idxT (s := s1) (ds := [_, _, _]), ap_idxT (s := s1) (ds := [_]), i1, i2, ec, es, pt, -ap_idxL, -ap_idxO, -ap_idxT]
  | write x n =>
    rw [e] at e0 e1 e9 hr; simp only [Ins.enc] at e0 e9
    obtain ⟨x0, x3⟩ := hr
    have ec := h.cells_ix x0 x3
    have es := written_ok k1 hc hp (by rw [e]; rfl)
    rw [c1, writtenC_done] at es
    have pt : ∀ v : Int, putL s1 (.obj (b + 2 + 2 * P.length)) (.int x) (.int v) = some (s1.set (b + 2 + 2 * P.length) (.lst ((t.cells.set x.toNat v).map D.int))) := fun v => by
      obtain ⟨k, rfl⟩ := Int.eq_ofNat_of_zero_le x0
      rw [putO k1.ce (by rw [ce1, List.length_map, h.ok.l3]; omega), ce1, List.map_set]; rfl
    have k2 := k1.setCe (t.cells.set x.toNat (writtenC (csAt P c) (coAt t c) p)) (by simp [h.ok.l3])
    have hdo : doP P t (c, p) = ⟨t1.cos, t.cells.set x.toNat (writtenC (csAt P c) (coAt t c) p)⟩ := by
      rw [← ht1]
      simp [doP, doC, e1, writtenC]
    rw [hdo]
    refine ⟨_, ?_, k2, fr1.trans (Fr.set ⟨by omega, by omega⟩)⟩
    simp [F_Run_do, b_Run_do, evD, h.i, k1.i, prog_ix s hc, prog_ix s1 hc, e0, e9, cellD, e4, e3, eT, pd, Ins.enc, eqD_str, backD, e1, cellWD, Ins.cellO, ap_idxT (s := s1) (ds := [_, _, _]), ap_idxT (s := s1) (ds := [_]), i1, i2, ec, es, pt, -ap_idxL, -ap_idxO, -ap_idxT]
  | copy x r =>
    rw [e] at e0 e1 e9 hr; simp only [Ins.enc] at e0 e9
    obtain ⟨x0, x3⟩ := hr
    have ec := h.cells_ix x0 x3
    have es := written_ok k1 hc hp (by rw [e]; rfl)
    rw [c1, writtenC_done] at es
    have pt : ∀ v : Int, putL s1 (.obj (b + 2 + 2 * P.length)) (.int x) (.int v) = some (s1.set (b + 2 + 2 * P.length) (.lst ((t.cells.set x.toNat v).map D.int))) := fun v => by
      obtain ⟨k, rfl⟩ := Int.eq_ofNat_of_zero_le x0
      rw [putO k1.ce (by rw [ce1, List.length_map, h.ok.l3]; omega), ce1, List.map_set]; rfl
    have k2 := k1.setCe (t.cells.set x.toNat (writtenC (csAt P c) (coAt t c) p)) (by simp [h.ok.l3])
    have hdo : doP P t (c, p) = ⟨t1.cos, t.cells.set x.toNat (writtenC (csAt P c) (coAt t c) p)⟩ := by
      rw [← ht1]
      simp [doP, doC, e1, writtenC]
    rw [hdo]
    refine ⟨_, ?_, k2, fr1.trans (Fr.set ⟨by omega, by omega⟩)⟩
    simp [F_Run_do, b_Run_do, evD, h.i, k1.i, prog_ix s hc, prog_ix s1 hc, e0, e9, cellD, e4, e3, eT, pd, Ins.enc, eqD_str, backD, e1, cellWD, Ins.cellO, ap_idxT (s := s1) (ds := [_, _, _]), ap_idxT (s := s1) (ds := [_]), i1, i2, ec, es, pt, -ap_idxL, -ap_idxO, -ap_idxT]
  | guard r n =>
    rw [e] at e0 e1 e9; simp only [Ins.enc] at e0 e9
    have es := word_ok k1 hc (Nat.le_of_lt hp) r
    rw [c1, wordC_done] at es
    cases hw : (wordC (csAt P c) (coAt t c) p r == n) with
    | true =>
      have hw2 : wordC (csAt P c) (coAt t c) p r = n := by simpa using hw
      have hdo : doP P t (c, p) = t1 := by
        rw [← ht1]
        simp [doP, doC, e1, hw2]
      rw [hdo]
      refine ⟨s1, ?_, k1, fr1⟩
      simp [F_Run_do, b_Run_do, evD, h.i, k1.i, prog_ix s hc, prog_ix s1 hc, e0, e9, cellD, e4, e3, eT, pd, Ins.enc, eqD_str, backD, e1, cellWD, Ins.cellO, ap_idxT (s := s1) (ds := [_, _, _]), ap_idxT (s := s1) (ds := [_]), i1, i2, es, hw, -ap_idxL, -ap_idxO, -ap_idxT]
    | false =>
      have hw2 : ¬ wordC (csAt P c) (coAt t c) p r = n := by simpa using hw
      have pt : putL s1 (.obj (b + 1 + 2 * P.length)) (.int c) (.int p) = some (s1.set (b + 1 + 2 * P.length) (.lst ((t1.cos.map fun c => D.int (c.ends : Int)).set c (.int (p : Int))))) := by
        rw [putO k1.en (by rw [List.length_map, k1.ok.lc]; exact hc)]
      have k2 := k1.setEn hc p (Nat.le_of_lt hp)
      have hdo : doP P t (c, p) = ⟨t1.cos.set c ⟨(coAt t1 c).done, (coAt t1 c).taken, p⟩, t1.cells⟩ := by
        simp [doP, doC, e1, c1, ce1, set2, hw2]
      rw [hdo]
      refine ⟨_, ?_, k2, fr1.trans (Fr.set ⟨by omega, by omega⟩)⟩
      simp [F_Run_do, b_Run_do, evD, h.i, k1.i, prog_ix s hc, prog_ix s1 hc, e0, e9, cellD, e4, e3, eT, pd, Ins.enc, eqD_str, backD, e1, cellWD, Ins.cellO, ap_idxT (s := s1) (ds := [_, _, _]), ap_idxT (s := s1) (ds := [_]), i1, i2, es, hw, pt, -ap_idxL, -ap_idxO, -ap_idxT]
  | fence =>
    rw [e] at e0 e1 e9; simp only [Ins.enc] at e0 e9
    have hdo : doP P t (c, p) = t1 := by
      rw [← ht1]
      simp [doP, doC, e1]
    rw [hdo]
    refine ⟨s1, ?_, k1, fr1⟩
    simp [F_Run_do, b_Run_do, evD, h.i, k1.i, prog_ix s hc, prog_ix s1 hc, e0, e9, cellD, e4, e3, eT, pd, Ins.enc, eqD_str, backD, e1, cellWD, Ins.cellO, ap_idxT (s := s1) (ds := [_, _, _]), ap_idxT (s := s1) (ds := [_]), i1, i2,  -ap_idxL, -ap_idxO, -ap_idxT]
end
end G


set_option Elab.async false
set_option linter.all false
set_option maxRecDepth 100000
set_option maxHeartbeats 4000000
namespace G
open PySem PySem.Spec L2 J
theorem forIdx {t : TD} {b : GS} (xs : List D) (I : Nat → J.Env → S → Prop) (ρ : J.Env) (s : S) (h0 : I 0 ρ s) (step : ∀ k (hk : k < xs.length) ρ s, I k ρ s → ∃ ρ1 ρ2 s2, t xs[k] ρ = some ρ1 ∧ b ρ1 s = .ok (.nx ρ2) s2 ∧ I (k + 1) ρ2 s2) :
    ∃ ρ' s', forLoop t b xs ρ s = .ok (.nx ρ') s' ∧ I xs.length ρ' s' := by
  have key : ∀ (n k : Nat) (ρ : J.Env) (s : S), n = xs.length - k → k ≤ xs.length → I k ρ s → ∃ ρ' s', forLoop t b (xs.drop k) ρ s = .ok (.nx ρ') s' ∧ I xs.length ρ' s' := by
    intro n
    induction n with
    | zero =>
      intro k ρ s hn hk hi
      have : k = xs.length := by omega
      subst this
      exact ⟨ρ, s, by rw [List.drop_length]; rfl, hi⟩
    | succ n ih =>
      intro k ρ s hn hk hi
      have hlt : k < xs.length := by omega
      obtain ⟨ρ1, ρ2, s2, h1, h2, h3⟩ := step k hlt ρ s hi
      obtain ⟨ρ', s', h4, h5⟩ := ih (k + 1) ρ2 s2 (by omega) hlt h3
      refine ⟨ρ', s', ?_, h5⟩
      rw [List.drop_eq_getElem_cons hlt]
      unfold forLoop
      simp only [h1, h2, R.bind_ok, h4]
  have := key xs.length 0 ρ s (by omega) (by omega) h0
  rwa [List.drop_zero] at this
theorem forNat {t : TD} {b : GS} (n : Nat) (I : Nat → J.Env → S → Prop) (ρ : J.Env) (s : S) (h0 : I 0 ρ s) (step : ∀ k, k < n → ∀ ρ s, I k ρ s → ∃ ρ1 ρ2 s2, t (.int (k : Int)) ρ = some ρ1 ∧ b ρ1 s = .ok (.nx ρ2) s2 ∧ I (k + 1) ρ2 s2) :
    ∃ ρ' s', forLoop t b (rangeD 0 (n : Int)) ρ s = .ok (.nx ρ') s' ∧ I n ρ' s' := by
  rw [rangeD_nat]
  obtain ⟨ρ', s', h1, h2⟩ := forIdx (t := t) (b := b) ((List.range n).map fun (k : Nat) => D.int (k : Int)) I ρ s h0 fun k hk ρ s hi => by
    have hk2 : k < n := by simpa using hk
    obtain ⟨ρ1, ρ2, s2, a, c, d⟩ := step k hk2 ρ s hi
    exact ⟨ρ1, ρ2, s2, by simpa using a, c, d⟩
  exact ⟨ρ', s', h1, by simpa using h2⟩
theorem okR_nat {n : Nat} (h : n ≤ 1000000) : okR (n : Int) = true := by simp [okR]; omega
theorem lastP_succ (p : Nat → Bool) (k : Nat) : lastP p (k + 1) = if p k then some k else lastP p k := by
  unfold lastP
  rw [List.range_succ, List.filter_append]
  cases h : p k with
  | true => simp [h]
  | false => simp [h]
section
variable {s : S} {b : Nat} {ds : List Str} {P : Prog} {t : St} {c p : Nat}
theorem RunAt.app (h : RunAt s b ds P t) (tl : S) : RunAt (s ++ tl) b ds P t := h.ext fun k h1 h2 => by
  have : k < s.length := by
    have m := h.po.m
    have := (List.getElem?_eq_some_iff.mp h.ce).1
    omega
  rw [List.getElem?_append_left this]
theorem eventsC_le (d : Des) (cs : List Ins) (co : Co) : (eventsC d cs co).length ≤ cs.length := by
  have := List.length_filter_le (canC d cs co) (List.range cs.length)
  simpa [eventsC] using this
/-- the events of the first cores -/
def eventsK (d : Des) (P : Prog) (t : St) (k : Nat) : List (Nat × Nat) := (List.range k).flatMap fun i => (eventsC d (csAt P i) (coAt t i)).map fun p => (i, p)
theorem eventsK_succ (d : Des) (P : Prog) (t : St) (k : Nat) : eventsK d P t (k + 1) = eventsK d P t k ++ (eventsC d (csAt P k) (coAt t k)).map fun p => (k, p) := by
  simp [eventsK, List.range_succ]
theorem eventsK_len (po : ProgOk P) (d : Des) (t : St) : ∀ k, k ≤ P.length → (eventsK d P t k).length ≤ k * 1000
  | 0, _ => by simp [eventsK]
  | k + 1, hk => by
    have ih := eventsK_len po d t k (by omega)
    have h1 := eventsC_le d (csAt P k) (coAt t k)
    have h2 := po.l _ (csAt_mem (show k < P.length by omega))
    rw [eventsK_succ, List.length_append, List.length_map]
    omega
theorem prog_len (s : S) (P : Prog) : fLen s (encP P) = some (.int P.length) := by simp [encP]
def b_ev : GS := sExpr (gExt (gVar 1) (gLc [3] (gRange1 (gaCons (gF (f1 fLen) (gaCons (gOp2 fIdx (gFld 50 (PySem.Str.ofString "program") (gVar 0)) (gVar 2)) (gaNil))) (gaNil))) (dName 3) (gB (gMeth 50 2 (PySem.Str.ofString "can") (F_Run_can) (gVar 0) (gaCons (gVar 2) (gaCons (gVar 3) (gaNil))))) (gTup (gaCons (gVar 2) (gaCons (gVar 3) (gaNil))))))
theorem ev_loop (h : RunAt s b ds P t) (x : Option D) : ∃ ρ', forLoop (dName 2) b_ev (rangeD 0 (P.length : Int)) [some (.obj b), some (.obj s.length), x, none] (s ++ [.lst []]) = .ok (.nx [some (.obj b), some (.obj s.length), ρ', none]) (s ++ [.lst ((eventsP (desOf ds) P t).map evD)]) := by
  obtain ⟨ρ', s', h1, ⟨y, rfl⟩, rfl⟩ := forNat (t := dName 2) (b := b_ev) P.length (fun k ρ s1 => (∃ y, ρ = [some (.obj b), some (.obj s.length), y, none]) ∧ s1 = s ++ [.lst ((eventsK (desOf ds) P t k).map evD)]) [some (.obj b), some (.obj s.length), x, none] (s ++ [.lst []]) ⟨⟨x, rfl⟩, rfl⟩ fun k hk ρ s1 ⟨⟨y, e1⟩, e2⟩ => by
    subst e1 e2
    have po := h.po
    have hl := eventsK_len po (desOf ds) t k (Nat.le_of_lt hk)
    have m3 := po.m
    have h' := h.app [.lst ((eventsK (desOf ds) P t k).map evD)]
    have cl := h.len hk
    have cl2 : (eventsC (desOf ds) (csAt P k) (coAt t k)).length ≤ 1000 := Nat.le_trans (eventsC_le _ _ _) cl
    have ef : lcLoop (dName 3) (gB (gMeth 50 2 (PySem.Str.ofString "can") (F_Run_can) (gVar 0) (gaCons (gVar 2) (gaCons (gVar 3) (gaNil))))) (gTup (gaCons (gVar 2) (gaCons (gVar 3) (gaNil)))) [some (.obj b), some (.obj s.length), some (.int (k : Int)), none] (rangeD 0 ((csAt P k).length : Int)) (s ++ [.lst ((eventsK (desOf ds) P t k).map evD)]) = .ok ((eventsC (desOf ds) (csAt P k) (coAt t k)).map fun p => evD (k, p)) (s ++ [.lst ((eventsK (desOf ds) P t k).map evD)]) := by
      rw [rangeD_nat]
      refine lcNat (canC (desOf ds) (csAt P k) (coAt t k)) (fun p => evD (k, p)) _ fun p hp => ?_
      have hp2 : p < (csAt P k).length := by simpa using hp
      have e7 := can_ok h' hk hp2
      exact ⟨_, rfl, by simp [h'.i, e7], fun _ => by simp [evD]⟩
    have hr := okR_nat (show (csAt P k).length ≤ 1000000 by omega)
    have hrl : (rangeD 0 ((csAt P k).length : Int)).length ≤ 16777216 := by rw [rangeD_nat]; simp; omega
    refine ⟨_, [some (.obj b), some (.obj s.length), some (.int (k : Int)), none], _, rfl, ?_, ⟨_, rfl⟩, rfl⟩
    have hf : (eventsK (desOf ds) P t k).length + (eventsC (desOf ds) (csAt P k) (coAt t k)).length ≤ 16777216 := by omega
    simp [b_ev, h'.i, prog_ix _ hk, hr, hrl, ef, hf, eventsK_succ, Function.comp_def]
  exact ⟨y, h1⟩
theorem events_ok (h : RunAt s b ds P t) : F_Run_events [.obj b] s = .ok (.obj s.length) (s ++ [.lst ((eventsP (desOf ds) P t).map evD)]) := by
  obtain ⟨y, e⟩ := ev_loop h none
  have h' := h.app [.lst []]
  have hr := okR_nat (show P.length ≤ 1000000 by have := h.po.m; omega)
  unfold b_ev at e
  simp [F_Run_events, b_Run_events, h'.i, prog_len, hr, e]
theorem overP_eq (h : StOk P t) : overP t = (List.range P.length).all fun c => overC (coAt t c) := by
  unfold overP
  rw [Bool.eq_iff_iff, List.all_eq_true, List.all_eq_true]
  constructor
  · intro q c hc
    have hc2 : c < t.cos.length := by rw [h.lc]; simpa using hc
    have : coAt t c = t.cos[c] := by simp [coAt, hc2]
    rw [this]; exact q _ (List.getElem_mem hc2)
  · intro q x hx
    obtain ⟨i, hi, rfl⟩ := List.getElem_of_mem hx
    have := q i (by rw [← h.lc]; simpa using hi)
    simpa [coAt, hi] using this
theorem ended_ok (h : RunAt s b ds P t) : F_Run_has_ended [.obj b] s = .ok (.bl (overP t)) s := by
  have hr := okR_nat (show P.length ≤ 1000000 by have := h.po.m; omega)
  have hrl : (rangeD 0 (P.length : Int)).length ≤ 16777216 := by have := h.po.m; rw [rangeD_nat]; simp; omega
  have ef : lcLoop (dName 1) gYes (gF (f1 fAll) (gaCons (gSl (gOp2 fIdx (gFld 50 (PySem.Str.ofString "done") (gVar 0)) (gVar 1)) (goNone) (goSome (gOp2 fAdd (gOp2 fIdx (gFld 50 (PySem.Str.ofString "ends") (gVar 0)) (gVar 1)) (gC (.int 1))))) (gaNil))) [some (.obj b), none] (rangeD 0 (P.length : Int)) s = .ok ((List.range P.length).map fun c => D.bl (overC (coAt t c))) s := by
    rw [rangeD_nat]
    refine lcNat1 (fun c => D.bl (overC (coAt t c))) _ fun c hc => ?_
    have hc2 : c < P.length := by simpa using hc
    have e3 := objs_ix s (fun i => b + 1 + i) hc2
    have e4 := h.ends_ix hc2
    have ed : itemsL s (.obj (b + 1 + c)) = some ((coAt t c).done.map D.bl) := itemsO (h.dn c hc2)
    have es : fSl s (.obj (b + 1 + c)) none (some (((coAt t c).ends : Int) + 1)) = some (.lst (((coAt t c).done.take ((coAt t c).ends + 1)).map D.bl)) := by
      have := cut_to D.bl (coAt t c).done ((coAt t c).ends + 1)
      rw [show (((coAt t c).ends : Int) + 1) = (((coAt t c).ends + 1 : Nat) : Int) by omega]
      simp only [ap_slO, ed, Option.map_some, this]
    have eb := fAll_bls s ((coAt t c).done.take ((coAt t c).ends + 1))
    exact ⟨_, rfl, by simp [h.i, e3, e4, es, eb, overC, -List.map_take, -ap_slO, -ap_idxL, -ap_idxO]⟩
  have ea := fAll_mapB s (fun c => overC (coAt t c)) (List.range P.length)
  rw [overP_eq h.ok]
  simp [F_Run_has_ended, b_Run_has_ended, h.i, prog_len, hr, hrl, ef, ea]
end
end G


set_option Elab.async false
set_option linter.all false
set_option maxRecDepth 100000
set_option maxHeartbeats 4000000
namespace G
open PySem PySem.Spec L2 J
def regK (cs : List Ins) (c : Co) (r : Int) (n : Nat) : Int := match lastP (fun k => rdP cs r k && c.dn k) n with | some k => c.tk k | none => 0
theorem regK_succ (cs : List Ins) (c : Co) (r : Int) (n : Nat) : regK cs c r (n + 1) = if rdP cs r n && c.dn n then c.tk n else regK cs c r n := by
  unfold regK
  rw [lastP_succ]
  cases rdP cs r n && c.dn n <;> simp
def outD (P : Prog) (t : St) : D := .tup [.tup ((outP P t).1.map fun q => .tup [.int q.1, .int q.2]), .tup ((outP P t).2.map .int)]
section
variable {s : S} {b : Nat} {ds : List Str} {P : Prog} {t : St} {c p : Nat}
def b_out1 : GS := (sIf (gAnd (gB (gOp2 fEq (gOp2 fIdx (gOp2 fIdx (gVar 4) (gVar 3)) (gC (.int 0))) (gC (.str (PySem.Str.ofString "read"))))) (gB (gOp2 fIdx (gOp2 fIdx (gFld 50 (PySem.Str.ofString "done") (gVar 0)) (gVar 2)) (gVar 3)))) (sSetIx (gOp2 fIdx (gOp2 fIdx (gFld 50 (PySem.Str.ofString "taken") (gVar 0)) (gVar 2)) (gVar 3)) (gVar 5) (gOp2 fIdx (gOp2 fIdx (gVar 4) (gVar 3)) (gC (.int 1)))) (sNext))
theorem set2_0 (a b x : Int) : [D.int a, D.int b].set 0 (D.int x) = [D.int x, D.int b] := rfl
theorem set2_1 (a b x : Int) : [D.int a, D.int b].set 1 (D.int x) = [D.int a, D.int x] := rfl
theorem out_loop1 (h : RunAt s b ds P t) (hc : c < P.length) (f : D) (x : Option D) (hw : b + 3 + 2 * P.length ≤ s.length) : ∃ y, forLoop (dName 3) b_out1 (rangeD 0 ((csAt P c).length : Int)) [some (.obj b), some f, some (.int (c : Int)), x, some (.tup ((csAt P c).map Ins.enc)), some (.obj s.length)] (s ++ [.lst [.int 0, .int 0]]) =
    .ok (.nx [some (.obj b), some f, some (.int (c : Int)), y, some (.tup ((csAt P c).map Ins.enc)), some (.obj s.length)]) (s ++ [.lst [.int (regC (csAt P c) (coAt t c) 0), .int (regC (csAt P c) (coAt t c) 1)]]) := by
  obtain ⟨ρ', s', h1, ⟨y, rfl⟩, rfl⟩ := forNat (t := dName 3) (b := b_out1) (csAt P c).length (fun k ρ s1 => (∃ y, ρ = [some (.obj b), some f, some (.int (c : Int)), y, some (.tup ((csAt P c).map Ins.enc)), some (.obj s.length)]) ∧ s1 = s ++ [.lst [.int (regK (csAt P c) (coAt t c) 0 k), .int (regK (csAt P c) (coAt t c) 1 k)]])
    [some (.obj b), some f, some (.int (c : Int)), x, some (.tup ((csAt P c).map Ins.enc)), some (.obj s.length)] (s ++ [.lst [.int 0, .int 0]]) ⟨⟨x, rfl⟩, rfl⟩ fun k hk ρ s1 ⟨⟨y, e1⟩, e2⟩ => by
    subst e1 e2
    generalize hs1 : s ++ [IO.lst [.int (regK (csAt P c) (coAt t c) 0 k), .int (regK (csAt P c) (coAt t c) 1 k)]] = s1
    have h' : RunAt s1 b ds P t := by rw [← hs1]; exact h.app _
    have e0 := core_ix' s1 hk
    have d1 : (csAt P c)[k]? = some (csAt P c)[k] := List.getElem?_eq_getElem hk
    have e2 := h'.done_ix hc hk
    have e3 := fun s => objs_ix s (fun i => b + 1 + i) hc
    have eT := fun s => objs_ix s (fun i => b + 1 + P.length + i) hc
    have e4 := h'.taken_ix hc hk
    have lw : s1[s.length]? = some (.lst [.int (regK (csAt P c) (coAt t c) 0 k), .int (regK (csAt P c) (coAt t c) 1 k)]) := by rw [← hs1]; simp
    have st : ∀ u, s1.set s.length u = s ++ [u] := fun u => by rw [← hs1]; simp
    have hr := h.insOk hc hk
    refine ⟨_, [some (.obj b), some f, some (.int (c : Int)), some (.int (k : Int)), some (.tup ((csAt P c).map Ins.enc)), some (.obj s.length)], _, rfl, ?_, ⟨_, rfl⟩, rfl⟩
    rw [regK_succ, regK_succ]
    cases e : (csAt P c)[k] with
    | read r x =>
      rw [e] at e0 d1 hr; simp only [Ins.enc] at e0
      obtain ⟨r0, r2, _, _⟩ := hr
      have rd : ∀ q : Int, rdP (csAt P c) q k = (r == q) := fun q => by simp [rdP, d1]
      cases hd : (coAt t c).dn k with
      | false =>
        rw [hd] at e2
        simp [b_out1, h'.i, e0, e2, e3, i1, i2, eqD_str, rd, ap_idxT (s := s1) (ds := [_, _, _]), -ap_idxT, -ap_idxO, -ap_idxL]
        exact hs1.symm
      | true =>
        rw [hd] at e2
        have hr2 : r = 0 ∨ r = 1 := by omega
        have putw : putL s1 (.obj s.length) (.int r) (.int ((coAt t c).tk k)) = some (s ++ [.lst ([.int (regK (csAt P c) (coAt t c) 0 k), .int (regK (csAt P c) (coAt t c) 1 k)].set r.toNat (.int ((coAt t c).tk k)))]) := by
          obtain ⟨q, rfl⟩ := Int.eq_ofNat_of_zero_le r0
          rw [putO lw (by simp; omega), st]; rfl
        rcases hr2 with rfl | rfl
        · simp [b_out1, h'.i, e0, e2, e3, eT, e4, i1, i2, eqD_str, rd, putw, ap_idxT (s := s1) (ds := [_, _, _]), -ap_idxT, -ap_idxO, -ap_idxL]
        · simp [b_out1, h'.i, e0, e2, e3, eT, e4, i1, i2, eqD_str, rd, putw, ap_idxT (s := s1) (ds := [_, _, _]), -ap_idxT, -ap_idxO, -ap_idxL]
    | _ =>
      rw [e] at e0 d1; simp only [Ins.enc] at e0
      have rd : ∀ q : Int, rdP (csAt P c) q k = false := fun q => by simp [rdP, d1]
      simp [b_out1, e0, eqD_str, rd, ap_idxT (s := s1) (ds := [_, _, _]), ap_idxT (s := s1) (ds := [_]), -ap_idxT, -ap_idxO, -ap_idxL]
      exact hs1.symm
  exact ⟨y, h1⟩
def b_out2 : GS := (sSeq (sPar 4 5 (gaCons (gOp2 fIdx (gFld 50 (PySem.Str.ofString "program") (gVar 0)) (gVar 2)) (gaCons (gLstM (gaCons (gC (.int 0)) (gaCons (gC (.int 0)) (gaNil)))) (gaNil)))) (sSeq (sFor (dName 3) (gRange1 (gaCons (gF (f1 fLen) (gaCons (gVar 4) (gaNil))) (gaNil))) (sIf (gAnd (gB (gOp2 fEq (gOp2 fIdx (gOp2 fIdx (gVar 4) (gVar 3)) (gC (.int 0))) (gC (.str (PySem.Str.ofString "read"))))) (gB (gOp2 fIdx (gOp2 fIdx (gFld 50 (PySem.Str.ofString "done") (gVar 0)) (gVar 2)) (gVar 3)))) (sSetIx (gOp2 fIdx (gOp2 fIdx (gFld 50 (PySem.Str.ofString "taken") (gVar 0)) (gVar 2)) (gVar 3)) (gVar 5) (gOp2 fIdx (gOp2 fIdx (gVar 4) (gVar 3)) (gC (.int 1)))) (sNext))) (sExpr (gApp (gVar 1) (gF (f1 fTuple) (gaCons (gVar 5) (gaNil)))))))
def regD (P : Prog) (t : St) (i : Nat) : D := .tup [.int (regC (csAt P i) (coAt t i) 0), .int (regC (csAt P i) (coAt t i) 1)]
theorem out_loop2 (h : RunAt s b ds P t) (hw : b + 3 + 2 * P.length ≤ s.length) (x2 x3 x4 x5 : Option D) : ∃ y2 y3 y4 y5 W, forLoop (dName 2) b_out2 (rangeD 0 (P.length : Int)) [some (.obj b), some (.obj s.length), x2, x3, x4, x5] (s ++ [.lst []]) =
    .ok (.nx [some (.obj b), some (.obj s.length), y2, y3, y4, y5]) (s ++ (.lst ((List.range P.length).map (regD P t)) :: W)) := by
  obtain ⟨ρ', s', h1, ⟨y2, y3, y4, y5, rfl⟩, ⟨W, rfl⟩⟩ := forNat (t := dName 2) (b := b_out2) P.length (fun k ρ s1 => (∃ y2 y3 y4 y5, ρ = [some (.obj b), some (.obj s.length), y2, y3, y4, y5]) ∧ ∃ W, s1 = s ++ (.lst ((List.range k).map (regD P t)) :: W))
    [some (.obj b), some (.obj s.length), x2, x3, x4, x5] (s ++ [.lst []]) ⟨⟨x2, x3, x4, x5, rfl⟩, [], rfl⟩ fun k hk ρ s1 ⟨⟨y2, y3, y4, y5, e1⟩, W, e2⟩ => by
    subst e1 e2
    generalize hs1 : s ++ (IO.lst ((List.range k).map (regD P t)) :: W) = s1
    have h' : RunAt s1 b ds P t := by rw [← hs1]; exact h.app _
    have hw1 : b + 3 + 2 * P.length ≤ s1.length := by rw [← hs1]; simp; omega
    obtain ⟨y, e3⟩ := out_loop1 h' hk (.obj s.length) y3 hw1
    unfold b_out1 at e3
    have m3 := h.po.m
    have hr := okR_nat (show (csAt P k).length ≤ 1000000 by have := h.len hk; omega)
    generalize hs2 : s1 ++ [IO.lst [.int (regC (csAt P k) (coAt t k) 0), .int (regC (csAt P k) (coAt t k) 1)]] = s2 at e3
    have g1 : s2[s.length]? = some (.lst ((List.range k).map (regD P t))) := by rw [← hs2, ← hs1]; simp
    have g2 : s2[s1.length]? = some (.lst [.int (regC (csAt P k) (coAt t k) 0), .int (regC (csAt P k) (coAt t k) 1)]) := by rw [← hs2]; simp
    have g3 := itemsO g2
    refine ⟨_, [some (.obj b), some (.obj s.length), some (.int (k : Int)), y, some (.tup ((csAt P k).map Ins.enc)), some (.obj s1.length)], _, rfl, ?_, ⟨_, _, _, _, rfl⟩, W ++ [.lst [.int (regC (csAt P k) (coAt t k) 0), .int (regC (csAt P k) (coAt t k) 1)]], rfl⟩
    have hf : k + 1 ≤ 16777216 := by omega
    have ef : s2.set s.length (.lst ((List.range (k + 1)).map (regD P t))) = s ++ (IO.lst ((List.range (k + 1)).map (regD P t)) :: (W ++ [.lst [.int (regC (csAt P k) (coAt t k) 0), .int (regC (csAt P k) (coAt t k) 1)]])) := by
      rw [← hs2, ← hs1]; simp
    rw [← ef, List.range_succ, List.map_append]
    simp [b_out2, h'.i, prog_ix _ hk, hr, e3, g1, g2, g3, hf, regD, -ap_idxO]
  exact ⟨y2, y3, y4, y5, W, h1⟩
theorem outcome_ok (h : RunAt s b ds P t) (hw : b + 3 + 2 * P.length ≤ s.length) : ∃ W, F_Run_outcome [.obj b] s = .ok (outD P t) (s ++ W) := by
  obtain ⟨y2, y3, y4, y5, W, e⟩ := out_loop2 h hw none none none none
  have h' := h.app [.lst []]
  have h2 := h.app (.lst ((List.range P.length).map (regD P t)) :: W)
  have hr := okR_nat (show P.length ≤ 1000000 by have := h.po.m; omega)
  refine ⟨IO.lst ((List.range P.length).map (regD P t)) :: W, ?_⟩
  unfold b_out2 at e
  generalize hs2 : s ++ (IO.lst ((List.range P.length).map (regD P t)) :: W) = s2 at e h2 ⊢
  have g1 : s2[s.length]? = some (.lst ((List.range P.length).map (regD P t))) := by rw [← hs2]; simp
  have g2 := itemsO g1
  have g3 := itemsO h2.ce
  simp [F_Run_outcome, b_Run_outcome, h'.i, prog_len, hr, e, h2.i, g2, g3, outD, outP, regD, Function.comp_def]
theorem bind_app {α : Type} (s : S) (a b : S) (x : IO) : (s ++ a) ++ (x :: b) = s ++ (a ++ x :: b) := by simp
/-- a comprehension each of whose values is a new object -/
theorem lcAlloc {α : Type} {t : TD} {ge : GE} {ρ : J.Env} (e : α → D) (u : α → IO) : ∀ (xs : List α) (s : S), (∀ x ∈ xs, ∀ s', ∃ ρ1, t (e x) ρ = some ρ1 ∧ ge ρ1 (s ++ s') = .ok (.obj (s ++ s').length) ((s ++ s') ++ [u x])) → lcLoop t gYes ge ρ (xs.map e) s = .ok ((List.range xs.length).map fun i => .obj (s.length + i)) (s ++ xs.map u) := by
  have key : ∀ (xs : List α) (s s0 : S), (∀ x ∈ xs, ∀ s', ∃ ρ1, t (e x) ρ = some ρ1 ∧ ge ρ1 (s ++ s') = .ok (.obj (s ++ s').length) ((s ++ s') ++ [u x])) → lcLoop t gYes ge ρ (xs.map e) (s ++ s0) = .ok ((List.range xs.length).map fun i => .obj ((s ++ s0).length + i)) ((s ++ s0) ++ xs.map u) := by
    intro xs
    induction xs with
    | nil => intro s s0 _; simp [lcLoop]
    | cons x xs ih =>
      intro s s0 h
      obtain ⟨ρ1, h1, h2⟩ := h x List.mem_cons_self s0
      have := ih s (s0 ++ [u x]) fun y hy => h y (List.mem_cons_of_mem _ hy)
      rw [List.map_cons]
      unfold lcLoop
      rw [h1]
      simp only [gYes, noErr, R.bind_ok, if_true, h2]
      rw [List.append_assoc, this]
      simp only [R.bind_ok, List.length_cons]
      rw [List.range_succ_eq_map]
      simp [Function.comp_def, Nat.add_assoc, Nat.add_comm 1]
  intro xs s h
  have := key xs s [] (by simpa using h)
  simpa using this
theorem get_mid (s r : S) (u : IO) : (s ++ u :: r)[s.length]? = some u := by simp
theorem set_mid (s r : S) (u v : IO) : (s ++ u :: r).set s.length v = s ++ v :: r := by simp
theorem elders_ok {fs : List (Str × D)} (hd : ds.Sublist names) (hi : insOf 50 s (.obj b) = some fs) (hf : fs.lookup (PySem.Str.ofString "design") = some (.tup (ds.map .str))) {cs : List Ins} (hl : cs.length ≤ 1000) (hp : p < cs.length) : F_Run_elders [.obj b, .tup (cs.map Ins.enc), .int p] s = .ok (natL (elders (desOf ds) cs p)) s := by
  have hr := okR_nat (show p ≤ 1000000 by omega)
  have hrl : (rangeD 0 (p : Int)).length ≤ 16777216 := by rw [rangeD_nat]; simp; omega
  have ef : lcLoop (dName 3) (gB (gCall 4 (F_keeps) (gaCons (gFld 50 (PySem.Str.ofString "design") (gVar 0)) (gaCons (gVar 1) (gaCons (gVar 3) (gaCons (gVar 2) (gaNil))))))) (gVar 3) [some (.obj b), some (.tup (cs.map Ins.enc)), some (.int (p : Int)), none] (rangeD 0 (p : Int)) s = .ok ((elders (desOf ds) cs p).map fun (k : Nat) => D.int (k : Int)) s := by
    rw [rangeD_nat]
    refine lcNat (fun i => keepB (desOf ds) cs i p) _ _ fun k hk => ?_
    have hk2 : k < p := by simpa using hk
    have e := keeps_ok s hd hl hk2 hp
    exact ⟨_, rfl, by simp [hi, hf, e], fun _ => by simp⟩
  simp [F_Run_elders, b_Run_elders, hr, hrl, ef, natL]
end
end G


set_option Elab.async false
set_option linter.all false
set_option maxRecDepth 100000
set_option maxHeartbeats 4000000
namespace G
open PySem PySem.Spec L2 J
section
variable {s : S} {b : Nat} {ds : List Str} {P : Prog} {t : St} {c p : Nat}
def coreD (cs : List Ins) : D := .tup (cs.map Ins.enc)
def doneO (cs : List Ins) : IO := .lst (List.replicate cs.length (.bl false))
def takenO (cs : List Ins) : IO := .lst (List.replicate cs.length (.int 0))
def restS (P : Prog) : S := P.map doneO ++ P.map takenO ++ [.lst (P.map fun cs => .int (cs.length : Int)), .lst [.int 0, .int 0, .int 0]]
def initS (s : S) (ds : List Str) (P : Prog) : S := s ++ (.ins 50 (runFs s.length P.length ds P) :: restS P)
theorem coAt_st0 {i : Nat} (h : i < P.length) : coAt (st0 P) i = co0 (csAt P i) := by simp [coAt, csAt, st0, h]
theorem initS_at (hd : ds.Sublist names) (po : ProgOk P) : RunAt (initS s ds P) s.length ds P (st0 P) := by
  refine ⟨hd, po, st0_ok P, by simp [initS], fun i hi => ?_, fun i hi => ?_, ?_, ?_⟩
  · rw [coAt_st0 hi, csAt_get hi]
    rw [initS, List.getElem?_append_right (by omega), show s.length + 1 + i - s.length = i + 1 by omega, List.getElem?_cons_succ, restS, List.append_assoc, List.getElem?_append_left (by simpa using hi), List.getElem?_map, List.getElem?_eq_getElem hi]
    simp [doneO, co0]
  · rw [coAt_st0 hi, csAt_get hi]
    rw [initS, List.getElem?_append_right (by omega), show s.length + 1 + P.length + i - s.length = P.length + i + 1 by omega, List.getElem?_cons_succ, restS, List.append_assoc, List.getElem?_append_right (by simp), List.getElem?_append_left (by simp; omega), List.length_map, show P.length + i - P.length = i by omega, List.getElem?_map, List.getElem?_eq_getElem hi]
    simp [takenO, co0]
  · rw [initS, List.getElem?_append_right (by omega), show s.length + 1 + 2 * P.length - s.length = 2 * P.length + 1 by omega, List.getElem?_cons_succ, restS, List.getElem?_append_right (by simp; omega)]
    simp [st0, co0, show 2 * P.length - (P.length + P.length) = 0 by omega, Function.comp_def]
  · rw [initS, List.getElem?_append_right (by omega), show s.length + 2 + 2 * P.length - s.length = 2 * P.length + 1 + 1 by omega, List.getElem?_cons_succ, restS, List.getElem?_append_right (by simp; omega)]
    simp [st0, show 2 * P.length + 1 - (P.length + P.length) = 1 by omega]
theorem initS_len (s : S) (ds : List Str) (P : Prog) : (initS s ds P).length = s.length + 3 + 2 * P.length := by simp [initS, restS]; omega
abbrev envI (b : Nat) (ds : List Str) (P : Prog) : J.Env := [some (.obj b), some (.tup (ds.map .str)), some (encP P), none, none]
theorem repM_ok (x : D) (n : Nat) (hn : n ≤ 1000) (g : GE) (ρ : J.Env) (s : S) (hg : g ρ s = .ok (.int (n : Int)) s) : gRepM (gLst (gaCons (gC x) gaNil)) g ρ s = .ok (.obj s.length) (s ++ [.lst (List.replicate n x)]) := by
  have h0 : gLst (gaCons (gC x) gaNil) ρ s = .ok (.lst [x]) s := by simp
  have := repM_at h0 hg (by omega) (by omega) (by simp; omega)
  rwa [Int.toNat_natCast, List.flatten_replicate_singleton] at this
theorem seq_ok {a b : GS} {ρ ρ1 : J.Env} {s s1 : S} (h : a ρ s = .ok (.nx ρ1) s1) : sSeq a b ρ s = b ρ1 s1 := by simp [h]
theorem init_ok (hd : ds.Sublist names) (po : ProgOk P) : F_Run___init__ [.obj s.length, .tup (ds.map .str), encP P] (s ++ [.ins 50 []]) = .ok .non (initS s ds P) := by
  have hm := po.m
  have hP : P.length ≤ 16777216 := by omega
  have fa : ∀ (r : S) (fs : List (Str × D)), insOf 50 (s ++ IO.ins 50 fs :: r) (.obj s.length) = some fs := fun r fs => insO (by simp)
  have fb : ∀ (r : S) (u v : IO), (s ++ u :: r).set s.length v = s ++ v :: r := fun r u v => by simp
  have it : itemsF (encP P) = some (P.map coreD) := rfl
  -- design, program
  have E1 : sAsg2 (gTup (gaCons (gVar 1) (gaCons (gVar 2) (gaNil)))) (d2Tup 2 (ds2Cons (d2Fld 50 (PySem.Str.ofString "design") (gVar 0)) (ds2Cons (d2Fld 50 (PySem.Str.ofString "program") (gVar 0)) (ds2Nil)))) (envI s.length ds P) (s ++ [.ins 50 []]) =
      .ok (.nx (envI s.length ds P)) (s ++ [.ins 50 [(PySem.Str.ofString "design", .tup (ds.map .str)), (PySem.Str.ofString "program", encP P)]]) := by
    have p1 : ∀ x : D, putD (PySem.Str.ofString "design") x [] = [(PySem.Str.ofString "design", x)] := fun _ => rfl
    have p2 : ∀ x y : D, putD (PySem.Str.ofString "program") y [(PySem.Str.ofString "design", x)] = [(PySem.Str.ofString "design", x), (PySem.Str.ofString "program", y)] := fun _ _ => rfl
    simp [fa [], fb, p1, p2]
  have fld : ∀ (f : Str) (fs fs' : List (Str × D)) (r r' : S) (g : GE) (x : D), putD f x fs = fs' → fs.length < 1000 → g (envI s.length ds P) (s ++ .ins 50 fs :: r) = .ok x (s ++ .ins 50 fs :: r') → sFldJ 50 f (gVar 0) g (envI s.length ds P) (s ++ .ins 50 fs :: r) = .ok (.nx (envI s.length ds P)) (s ++ .ins 50 fs' :: r') := fun f fs fs' r r' g x hp hl hg => by
    simp only [ap_sfld, hg, R.bd_ok, ap_var, envI, List.getElem?_cons_zero, fa, if_pos hl, fb, hp]
  have it : ∀ s', gItems (gVar 2) (envI s.length ds P) s' = .ok (P.map coreD) s' := fun s' => rfl
  have len3 : ∀ (cs : List Ins) (s' : S), gF (f1 fLen) (gaCons (gVar 3) gaNil) [some (.obj s.length), some (.tup (ds.map .str)), some (encP P), some (coreD cs), none] s' = .ok (.int (cs.length : Int)) s' := fun cs s' => by simp [coreD]
  have al : ∀ (x : D) (u : List Ins → IO) (s' : S), (∀ cs, u cs = .lst (List.replicate cs.length x)) → gLc [3] (gItems (gVar 2)) (dName 3) (gYes) (gRepM (gLst (gaCons (gC x) (gaNil))) (gF (f1 fLen) (gaCons (gVar 3) (gaNil)))) (envI s.length ds P) s' = .ok (.lst ((List.range P.length).map fun i => .obj (s'.length + i))) (s' ++ P.map u) := fun x u s' hu => by
    have := lcAlloc (t := dName 3) (ge := gRepM (gLst (gaCons (gC x) (gaNil))) (gF (f1 fLen) (gaCons (gVar 3) (gaNil)))) (ρ := envI s.length ds P) coreD u P s' fun cs hcs s'' => ⟨[some (.obj s.length), some (.tup (ds.map .str)), some (encP P), some (coreD cs), none], rfl, by
      rw [repM_ok x cs.length (po.l cs hcs) _ _ _ (len3 cs _), hu]⟩
    simp only [ap_lc, it, R.bd_ok, ap_fitL, List.length_map, decide_eq_true hP, if_true, ap_wipe1, ap_wipe0]
    rw [show (envI s.length ds P).set 3 none = envI s.length ds P from rfl, this]
    rfl
  have nd : ∀ f x y, ([(PySem.Str.ofString "design", x), (PySem.Str.ofString "program", y)] : List (Str × D)).length < 1000 := fun _ _ _ => by show 2 < 1000; omega
  have E2 := fld (PySem.Str.ofString "done") [(PySem.Str.ofString "design", .tup (ds.map .str)), (PySem.Str.ofString "program", encP P)] [(PySem.Str.ofString "design", .tup (ds.map .str)), (PySem.Str.ofString "program", encP P), (PySem.Str.ofString "done", .lst ((List.range P.length).map fun i => .obj (s.length + 1 + i)))] [] (P.map doneO) _ _ rfl (by simp) (by
    have := al (.bl false) doneO (s ++ [.ins 50 [(PySem.Str.ofString "design", .tup (ds.map .str)), (PySem.Str.ofString "program", encP P)]]) fun _ => rfl
    rw [List.length_append, List.length_singleton, List.append_assoc, List.singleton_append] at this
    exact this)
  generalize hA : ([(PySem.Str.ofString "design", .tup (ds.map .str)), (PySem.Str.ofString "program", encP P), (PySem.Str.ofString "done", .lst ((List.range P.length).map fun i => .obj (s.length + 1 + i)))] : List (Str × D)) = fs2 at E2
  have hA3 : putD (PySem.Str.ofString "taken") (.lst ((List.range P.length).map fun i => .obj (s.length + 1 + P.length + i))) fs2 = fs2 ++ [(PySem.Str.ofString "taken", .lst ((List.range P.length).map fun i => .obj (s.length + 1 + P.length + i)))] := by rw [← hA]; rfl
  have E3 := fld (PySem.Str.ofString "taken") fs2 _ (P.map doneO) (P.map doneO ++ P.map takenO) _ _ hA3 (by rw [← hA]; simp) (by
    have := al (.int 0) takenO (s ++ IO.ins 50 fs2 :: P.map doneO) fun _ => rfl
    have e : (s ++ IO.ins 50 fs2 :: P.map doneO).length = s.length + 1 + P.length := by simp; omega
    rw [e, List.append_assoc, List.cons_append] at this
    exact this)
  generalize hB : fs2 ++ [(PySem.Str.ofString "taken", D.lst ((List.range P.length).map fun i => .obj (s.length + 1 + P.length + i)))] = fs3 at E3
  have hA4 : putD (PySem.Str.ofString "ends") (.obj (s.length + 1 + 2 * P.length)) fs3 = fs3 ++ [(PySem.Str.ofString "ends", .obj (s.length + 1 + 2 * P.length))] := by rw [← hB, ← hA]; rfl
  have E4 := fld (PySem.Str.ofString "ends") fs3 _ (P.map doneO ++ P.map takenO) (P.map doneO ++ P.map takenO ++ [.lst (P.map fun cs => .int (cs.length : Int))]) (gLcO [3] (gItems (gVar 2)) (dName 3) (gYes) (gF (f1 fLen) (gaCons (gVar 3) (gaNil)))) _ hA4 (by rw [← hB, ← hA]; simp) (by
    have h1 := lcMap (t := dName 3) (ge := gF (f1 fLen) (gaCons (gVar 3) gaNil)) (ρ := envI s.length ds P) (s := s ++ IO.ins 50 fs3 :: (P.map doneO ++ P.map takenO)) coreD (fun cs => .int (cs.length : Int)) P fun cs _ => ⟨[some (.obj s.length), some (.tup (ds.map .str)), some (encP P), some (coreD cs), none], rfl, len3 cs _⟩
    simp only [ap_lcO, it, R.bd_ok, ap_fitL, List.length_map, decide_eq_true hP, if_true, ap_wipe1, ap_wipe0]
    rw [show (envI s.length ds P).set 3 none = envI s.length ds P from rfl, h1]
    simp only [R.bd_ok]
    have e : (s ++ IO.ins 50 fs3 :: (P.map doneO ++ P.map takenO)).length = s.length + 1 + 2 * P.length := by simp; omega
    rw [e, List.append_assoc, List.cons_append])
  generalize hC : fs3 ++ [(PySem.Str.ofString "ends", D.obj (s.length + 1 + 2 * P.length))] = fs4 at E4
  have hA5 : putD (PySem.Str.ofString "cells") (.obj (s.length + 2 + 2 * P.length)) fs4 = fs4 ++ [(PySem.Str.ofString "cells", .obj (s.length + 2 + 2 * P.length))] := by rw [← hC, ← hB, ← hA]; rfl
  have E5 := fld (PySem.Str.ofString "cells") fs4 _ (P.map doneO ++ P.map takenO ++ [.lst (P.map fun cs => .int (cs.length : Int))]) (restS P) (gRepM (gLst (gaCons (gC (.int 0)) (gaNil))) (gC c_CELLS)) _ hA5 (by rw [← hC, ← hB, ← hA]; simp) (by
    have := repM_ok (.int 0) 3 (by omega) (gC c_CELLS) (envI s.length ds P) (s ++ IO.ins 50 fs4 :: (P.map doneO ++ P.map takenO ++ [.lst (P.map fun cs => .int (cs.length : Int))])) rfl
    rw [this]
    have e : (s ++ IO.ins 50 fs4 :: (P.map doneO ++ P.map takenO ++ [.lst (P.map fun cs => .int (cs.length : Int))])).length = s.length + 2 + 2 * P.length := by simp; omega
    rw [e, List.append_assoc, List.cons_append, restS]
    simp [List.replicate])
  generalize hD : fs4 ++ [(PySem.Str.ofString "cells", D.obj (s.length + 2 + 2 * P.length))] = fs5 at E5
  have hA6 : putD (PySem.Str.ofString "ahead") (aheadD (desOf ds) P) fs5 = runFs s.length P.length ds P := by rw [← hD, ← hC, ← hB, ← hA]; rfl
  have ld : fs5.lookup (PySem.Str.ofString "design") = some (.tup (ds.map .str)) := by rw [← hD, ← hC, ← hB, ← hA]; rfl
  have le : fs5.lookup (PySem.Str.ofString "elders") = none := by rw [← hD, ← hC, ← hB, ← hA]; rfl
  have E6 := fld (PySem.Str.ofString "ahead") fs5 _ (restS P) (restS P) (gLc [3] (gItems (gVar 2)) (dName 3) (gYes) (gLc [4] (gRange1 (gaCons (gF (f1 fLen) (gaCons (gVar 3) (gaNil))) (gaNil))) (dName 4) (gYes) (gMeth 50 2 (PySem.Str.ofString "elders") (F_Run_elders) (gVar 0) (gaCons (gVar 3) (gaCons (gVar 4) (gaNil)))))) _ hA6 (by rw [← hD, ← hC, ← hB, ← hA]; simp) (by
    have h1 := lcMap (t := dName 3) (ge := gLc [4] (gRange1 (gaCons (gF (f1 fLen) (gaCons (gVar 3) (gaNil))) (gaNil))) (dName 4) (gYes) (gMeth 50 2 (PySem.Str.ofString "elders") (F_Run_elders) (gVar 0) (gaCons (gVar 3) (gaCons (gVar 4) (gaNil))))) (ρ := envI s.length ds P) (s := s ++ IO.ins 50 fs5 :: restS P) coreD (fun cs => .lst ((List.range cs.length).map fun p => natL (elders (desOf ds) cs p))) P fun cs hcs => by
      refine ⟨[some (.obj s.length), some (.tup (ds.map .str)), some (encP P), some (coreD cs), none], rfl, ?_⟩
      have hcl := po.l cs hcs
      have hr := okR_nat (show cs.length ≤ 1000000 by omega)
      have hrl : (rangeD 0 (cs.length : Int)).length ≤ 16777216 := by rw [rangeD_nat]; simp; omega
      have h2 : lcLoop (dName 4) gYes (gMeth 50 2 (PySem.Str.ofString "elders") (F_Run_elders) (gVar 0) (gaCons (gVar 3) (gaCons (gVar 4) (gaNil)))) [some (.obj s.length), some (.tup (ds.map .str)), some (encP P), some (coreD cs), none] (rangeD 0 (cs.length : Int)) (s ++ IO.ins 50 fs5 :: restS P) = .ok ((List.range cs.length).map fun p => natL (elders (desOf ds) cs p)) (s ++ IO.ins 50 fs5 :: restS P) := by
        rw [rangeD_nat]
        refine lcNat1 _ _ fun p hp => ?_
        have e := elders_ok hd (fa (restS P) fs5) ld hcl (show p < cs.length by simpa using hp)
        exact ⟨[some (.obj s.length), some (.tup (ds.map .str)), some (encP P), some (coreD cs), some (.int (p : Int))], rfl, by simp [fa, le, coreD, e]⟩
      have hrg : gRange1 (gaCons (gF (f1 fLen) (gaCons (gVar 3) (gaNil))) (gaNil)) [some (.obj s.length), some (.tup (ds.map .str)), some (encP P), some (coreD cs), none] (s ++ IO.ins 50 fs5 :: restS P) = .ok (rangeD 0 (cs.length : Int)) (s ++ IO.ins 50 fs5 :: restS P) := by simp [coreD, hr]
      simp only [ap_lc, hrg, R.bd_ok, ap_fitL, decide_eq_true hrl, if_true, ap_wipe1, ap_wipe0]
      rw [show ([some (D.obj s.length), some (D.tup (ds.map .str)), some (encP P), some (coreD cs), none] : J.Env).set 4 none = [some (.obj s.length), some (.tup (ds.map .str)), some (encP P), some (coreD cs), none] from rfl, h2]
      rfl
    simp only [ap_lc, it, R.bd_ok, ap_fitL, List.length_map, decide_eq_true hP, if_true, ap_wipe1, ap_wipe0]
    rw [show (envI s.length ds P).set 3 none = envI s.length ds P from rfl]
    rw [h1]
    rfl)
  have hrest : initS s ds P = s ++ IO.ins 50 (runFs s.length P.length ds P) :: restS P := rfl
  rw [hrest]
  rw [← hA] at E2
  have hrun : b_Run___init__ (envI s.length ds P) (s ++ [.ins 50 []]) = .ok (.nx (envI s.length ds P)) (s ++ IO.ins 50 (runFs s.length P.length ds P) :: restS P) := by
    unfold b_Run___init__
    rw [seq_ok E1, seq_ok E2, hA, seq_ok E3, seq_ok E4, seq_ok E5, E6]
  show (b_Run___init__ (envI s.length ds P) (s ++ [.ins 50 []])).bind _ = _
  rw [hrun]
  rfl
theorem make_ok (hd : ds.Sublist names) (po : ProgOk P) {gr : GA} {ρ : J.Env} {s0 : S} (h : gr ρ s0 = .ok [.tup (ds.map .str), encP P] s) : gMake 50 2 (F_Run___init__) gr ρ s0 = .ok (.obj s.length) (initS s ds P) := by
  simp [h, init_ok hd po]
end
end G


set_option Elab.async false
set_option linter.all false
set_option maxRecDepth 100000
set_option maxHeartbeats 4000000
namespace G
open PySem PySem.Spec L2 J
structure Core (cs : List Ins) : Prop where
  ok : ∀ c ∈ cs, c.ok
  len : cs.length ≤ 5
theorem lc_cons (t : TD) (gt : GT) (ge : GE) (ρ : J.Env) (x : D) (xs : List D) (s : S) : lcLoop t gt ge ρ (x :: xs) s = match t x ρ with
    | none => .no
    | some ρ1 => (noErr (gt ρ1 s)).bd (fun b s1 => if b then (noErr (ge ρ1 s1)).bd (fun y s2 => (lcLoop t gt ge ρ xs s2).bd (fun ys s3 => .ok (y :: ys) s3) .mk) .mk else lcLoop t gt ge ρ xs s1) .mk := id rfl
structure PrOk (p : List (List Ins)) : Prop where
  c : ∀ cs ∈ p, Core cs
  l : 1 ≤ p.length
  u : p.length ≤ 3
  s : (p.map List.length).sum ≤ 10
def encC (cs : List Ins) : D := .tup (cs.map Ins.enc)
/-- a loop over what is listed, by what was done -/
theorem forAcc {α : Type} {t : TD} {b : GS} (f : α → D) (xs0 : List α) (I : List α → J.Env → S → Prop) (st : ∀ dn x rest ρ s, xs0 = dn ++ x :: rest → I dn ρ s → ∃ ρ1 ρ2 s2, t (f x) ρ = some ρ1 ∧ b ρ1 s = .ok (.nx ρ2) s2 ∧ I (dn ++ [x]) ρ2 s2) :
    ∀ (xs dn : List α) (ρ : J.Env) (s : S), xs0 = dn ++ xs → I dn ρ s → ∃ ρ' s', forLoop t b (xs.map f) ρ s = .ok (.nx ρ') s' ∧ I xs0 ρ' s'
  | [], dn, ρ, s, e, h => ⟨ρ, s, rfl, by rw [e, List.append_nil]; exact h⟩
  | x :: xs, dn, ρ, s, e, h => by
    obtain ⟨ρ1, ρ2, s2, h1, h2, h3⟩ := st dn x xs ρ s e h
    obtain ⟨ρ', s', e4, p⟩ := forAcc f xs0 I st xs (dn ++ [x]) ρ2 s2 (by rw [e]; simp) h3
    refine ⟨ρ', s', ?_, p⟩
    show (match t (f x) ρ with | none => R.no | some ρ1 => (b ρ1 s).bind _) = _
    rw [h1]
    simp only [h2, R.bind_ok, e4]
theorem lens_ok (s : S) {i : Nat} : ∀ (p : List (List Ins)) (ρ : J.Env), i < ρ.length → lcLoop (dName i) gYes (gF (f1 fLen) (gaCons (gVar i) gaNil)) ρ (p.map encC) s = .ok ((p.map fun cs => ((cs.length : Nat) : Int)).map D.int) s
  | [], _, _ => rfl
  | cs :: p, ρ, hi => by
    have e2 := lens_ok s p ρ hi
    rw [List.map_cons, lc_cons]
    simp [hi, encC, -List.map_map, e2] at e2 ⊢
theorem intsD_map : ∀ ns : List Int, intsD (ns.map D.int) = some ns
  | [] => rfl
  | n :: ns => by simp [intsD, intsD_map ns]
theorem fSum_ints (s : S) (ns : List Int) : fSum s (.lst (ns.map D.int)) = some (.int ns.sum) := by simp [fSum, itemsL, intsD_map]
theorem sum_cast : ∀ p : List (List Ins), (p.map fun cs => ((cs.length : Nat) : Int)).sum = (((p.map List.length).sum : Nat) : Int)
  | [] => rfl
  | cs :: p => by simp [sum_cast p]
theorem sum_take : ∀ (l : List Nat) (k : Nat), (l.take k).sum ≤ l.sum
  | [], k => by simp
  | x :: l, 0 => by simp
  | x :: l, k + 1 => by have := sum_take l k; simp; omega
theorem cut_toD (xs : List D) (k : Nat) (h : k + 1 ≤ xs.length) : cutD xs none (some ((k : Int) + 1)) = xs.take (k + 1) := by
  have e1 : HT.sIx xs.length 0 none = 0 := rfl
  have e2 : HT.sIx xs.length xs.length (some ((k : Int) + 1)) = k + 1 := by
    unfold HT.sIx
    simp only
    rw [if_neg (by omega)]
    omega
  simp [cutD, e1, e2]
theorem forInv {t : TD} {b : GS} (P : J.Env → S → Prop) : ∀ (xs : List D) (ρ : J.Env) (s : S), P ρ s → (∀ x ∈ xs, ∀ ρ s, P ρ s → ∃ ρ1 ρ2 s2, t x ρ = some ρ1 ∧ b ρ1 s = .ok (.nx ρ2) s2 ∧ P ρ2 s2) → ∃ ρ' s', forLoop t b xs ρ s = .ok (.nx ρ') s' ∧ P ρ' s'
  | [], ρ, s, hP, _ => ⟨ρ, s, rfl, hP⟩
  | x :: xs, ρ, s, hP, h => by
    obtain ⟨ρ1, ρ2, s2, h1, h2, h3⟩ := h x List.mem_cons_self ρ s hP
    obtain ⟨ρ', s', e, p⟩ := forInv P xs ρ2 s2 h3 fun y hy => h y (List.mem_cons_of_mem _ hy)
    refine ⟨ρ', s', ?_, p⟩
    show (match t x ρ with | none => R.no | some ρ1 => (b ρ1 s).bind _) = _
    rw [h1]
    simp only [h2, R.bind_ok, e]
theorem at_end (s0 : S) (o : IO) : (s0 ++ [o])[s0.length]? = some o := by simp
theorem set_end (s0 : S) (o o' : IO) : (s0 ++ [o]).set s0.length o' = s0 ++ [o'] := by simp
theorem is_listP (s : S) {p : List (List Ins)} (P : PrOk p) : F_is_list [.tup (p.map encC), .int 1, .int 3] s = .ok (.bl true) s := by
  have h1 : (1 : Int) ≤ p.length := by have := P.l; omega
  have h2 : (p.length : Int) ≤ 3 := by have := P.u; omega
  simp [F_is_list, b_is_list, h1, h2]
theorem encC_core (s : S) {cs : List Ins} (C : Core cs) : F_is_core [encC cs] s = .ok (.bl true) s := is_core_ok C.ok C.len s
theorem need_prog_ok (s : S) {p : List (List Ins)} (P : PrOk p) : F_need_program [.tup (p.map encC)] s = .ok .non s := by
  have hk : okR (p.length : Int) = true := by have := P.u; simp [okR]; omega
  have hk2 : (rangeD 0 (p.length : Int)).length ≤ 16777216 := by have := P.u; simp [rangeD]; omega
  obtain ⟨ρ', s', e, ⟨y, rfl⟩, rfl⟩ := forInv (t := dName 1) (b := sIf (gOr (gNot (gB (gCall 1 (F_is_core) (gaCons (gOp2 fIdx (gVar 0) (gVar 1)) (gaNil))))) (gB (gOp2 fGt (gF (f1 fSum) (gaCons (gLc [2] (gItems (gSl (gVar 0) (goNone) (goSome (gOp2 fAdd (gVar 1) (gC (.int 1)))))) (dName 2) (gYes) (gF (f1 fLen) (gaCons (gVar 2) (gaNil)))) (gaNil))) (gC c_MOST_PROGRAM)))) (sNever) (sNext)) (fun ρ s1 => (∃ y, ρ = [some (.tup (p.map encC)), y, none]) ∧ s1 = s) (rangeD 0 (p.length : Int)) [some (.tup (p.map encC)), none, none] s ⟨⟨none, rfl⟩, rfl⟩ fun x hx ρ s1 ⟨⟨y, eρ⟩, es⟩ => by
    subst eρ
    simp only [rangeD, List.mem_map, List.mem_range] at hx
    obtain ⟨k, hk, rfl⟩ := hx
    have hk3 : k < p.length := by omega
    have e0 : atI (p.map encC) (k : Int) = some (encC p[k]) := by rw [atI_nat _ _ (by simpa using hk3)]; simp
    have e1 := encC_core s1 (P.c p[k] (List.getElem_mem hk3))
    have e2 : cutD (p.map encC) none (some ((k : Int) + 1)) = (p.take (k + 1)).map encC := by rw [cut_toD _ _ (by simp; omega), List.map_take]
    have e3 := lens_ok s1 (i := 2) (p.take (k + 1)) [some (.tup (p.map encC)), some (.int k), none] (by simp)
    have e4 : min (k + 1) p.length ≤ 16777216 := Nat.le_trans (Nat.min_le_right _ _) (by have := P.u; omega)
    have e5 := fSum_ints s1 ((p.take (k + 1)).map fun cs => ((cs.length : Nat) : Int))
    have e6 : ¬ ((10 : Int) < ((p.take (k + 1)).map fun cs => ((cs.length : Nat) : Int)).sum) := by
      rw [sum_cast]
      have := sum_take (p.map List.length) (k + 1)
      have h10 := P.s
      rw [List.map_take]
      omega
    refine ⟨_, [some (.tup (p.map encC)), some (.int k), none], s1, rfl, ?_, ⟨_, rfl⟩, es⟩
    simp [e0, e1, e2, e4, -List.map_take, -List.map_map, e3, e5, c_MOST_PROGRAM, e6]
  simp [F_need_program, b_need_program, is_listP s' P, c_MOST_CORES, hk, e]
theorem range_pre {n x : Nat} {dn rest : List Nat} (h : List.range n = dn ++ x :: rest) : x = dn.length ∧ dn.length < n := by
  have h1 : (List.range n)[dn.length]? = some x := by rw [h]; simp
  have h2 := List.getElem?_eq_some_iff.mp h1
  obtain ⟨h3, h4⟩ := h2
  simp at h3 h4
  exact ⟨h4.symm, h3⟩
theorem eq_nil (s : S) : eqD s (.lst []) (.lst []) = some true := by simp [eqD, deref, D.toPy, D.toPys, SeqAt.shaped, PyData.canLay0, PyData.canLayAll0, PyData.depth, PyData.depthAll, PyData.eqv, PyData.eqvAll]
def b_pl : GS := (sSeq (sAsg (gF (fMin) (gaCons (gVar 3) (gaCons (gCall 2 (F_law_taken) (gaCons (gVar 0) (gaCons (gC (.int 5)) (gaNil)))) (gaNil)))) (dName 5)) (sSeq (sAsg (gOp2 fAdd (gVar 4) (gTup (gaCons (gF (f1 fTuple) (gaCons (gLc [6] (gRange1 (gaCons (gVar 5) (gaNil))) (dName 6) (gYes) (gCall 1 (F_law_instruction) (gaCons (gVar 0) (gaNil)))) (gaNil))) (gaNil)))) (dName 4)) (sAsg (gOp2 fSub (gVar 3) (gVar 5)) (dName 3))))
theorem sum_snoc (p : List (List Ins)) (cs : List Ins) : ((p ++ [cs]).map List.length).sum = (p.map List.length).sum + cs.length := by simp
theorem program_ok (M : Nat) (hM : M ≤ 10) {ns : List Int} {t s : S} (h : RowS ns t s) : ∃ (p : List (List Ins)) (s' : S), F_law_program [.obj 0, .int (M : Int)] s = .ok (.tup (p.map encC)) s' ∧ PrOk p ∧ (p.map List.length).sum ≤ M ∧ RowS ns t s' := by
  obtain ⟨k, hk, s1, e1, r1⟩ := pick_ok [.int 0, .int 1, .int 1, .int 1, .int 2] (by simp) (by simp) h
  obtain ⟨q, e1, q0, q2⟩ : ∃ q : Nat, F_law_pick [.obj 0, .lst [.int 0, .int 1, .int 1, .int 1, .int 2]] s = .ok (.int (q : Int)) s1 ∧ 0 ≤ q ∧ q ≤ 2 := by
    match k, hk, e1 with
    | 0, _, e => exact ⟨0, e, by decide, by decide⟩
    | 1, _, e => exact ⟨1, e, by decide, by decide⟩
    | 2, _, e => exact ⟨1, e, by decide, by decide⟩
    | 3, _, e => exact ⟨1, e, by decide, by decide⟩
    | 4, _, e => exact ⟨2, e, by decide, by decide⟩
  have e0 : rangeD 0 (1 + (q : Int)) = (List.range (1 + q)).map fun (k : Nat) => D.int (0 + (k : Int)) := by
    have : (1 + (q : Int) - 0).toNat = 1 + q := by omega
    simp only [rangeD, this]
  obtain ⟨ρ', s', e, p, ⟨x, y, rfl⟩, hp1, hp2, hp3, r2⟩ := forAcc (t := dName 2) (b := b_pl) (fun (k : Nat) => D.int (0 + (k : Int))) (List.range (1 + q)) (fun dn ρ s1 => ∃ p : List (List Ins), (∃ x y, ρ = [some (.obj 0), some (.int (M : Int)), x, some (.int ((M : Int) - (((p.map List.length).sum : Nat) : Int))), some (.tup (p.map encC)), y, none]) ∧ (∀ cs ∈ p, Core cs) ∧ p.length = dn.length ∧ (p.map List.length).sum ≤ M ∧ RowS ns t s1) (fun dn k rest ρ s1 hp ⟨p, ⟨x, y, eρ⟩, hp1, hp2, hp3, rr⟩ => by
    subst eρ
    obtain ⟨hk, hlt⟩ := range_pre hp
    obtain ⟨m, s2, e2, m0, m5, r2⟩ := taken_ok 5 (by decide) (by decide) rr
    obtain ⟨left, hleft⟩ : ∃ left : Int, left = (M : Int) - (((p.map List.length).sum : Nat) : Int) := ⟨_, rfl⟩
    have hl0 : 0 ≤ left := by omega
    obtain ⟨mm, hmm⟩ : ∃ mm : Int, mm = if m < left then m else left := ⟨_, rfl⟩
    have hmm0 : 0 ≤ mm := by rw [hmm]; split <;> omega
    have hmm1 : mm ≤ 4 := by rw [hmm]; split <;> omega
    have hmm2 : mm ≤ left := by rw [hmm]; split <;> omega
    have hk1 : okR mm = true := by simp [okR]; omega
    have hk2 : (rangeD 0 mm).length ≤ 16777216 := by simp [rangeD]; omega
    obtain ⟨ys, s3, e3, r3, l3, q3⟩ := lcAll (t := dName 6) (gt := gYes) (ge := gCall 1 F_law_instruction (gaCons (gVar 0) gaNil)) (ρ := ([some (.obj 0), some (.int (M : Int)), some (.int (0 + (k : Int))), some (.int left), some (.tup (p.map encC)), some (.int mm), none] : J.Env)) (RowS ns t) (fun y => ∃ c : Ins, y = c.enc ∧ c.ok) (rangeD 0 mm) s2 r2 fun x _ s hs => by
      obtain ⟨c, s', e, hc, hs'⟩ := instr_ok hs
      exact ⟨_, c.enc, s', rfl, rfl, by simp [e], ⟨c, rfl, hc⟩, hs'⟩
    obtain ⟨cs, rfl, hc⟩ := allEx ys q3
    have hlen : (cs.length : Int) = mm := by simp [rangeD] at l3; omega
    have h4 : p.length + 1 ≤ 16777216 := by
      have : dn.length < 1 + q := hlt
      omega
    refine ⟨_, [some (.obj 0), some (.int (M : Int)), some (.int (0 + (k : Int))), some (.int (left - mm)), some (.tup ((p ++ [cs]).map encC)), some (.int mm), none], s3, rfl, ?_, p ++ [cs], ⟨some (.int (0 + (k : Int))), some (.int mm), ?_⟩, ?_, by simp [hp2], ?_, r3⟩
    · rw [← hleft]
      simp at e3
      simp [b_pl, e2, fMin, ← hmm, hk1, hk2, e3, fAdd, h4, encC]
    · rw [sum_snoc, hleft, ← hlen]
      have : ((M : Int) - (((p.map List.length).sum : Nat) : Int) - (cs.length : Int)) = (M : Int) - (((p.map List.length).sum + cs.length : Nat) : Int) := by omega
      rw [this]
    · intro z hz
      rcases List.mem_append.mp hz with hz | hz
      · exact hp1 z hz
      · have : z = cs := by simpa using hz
        subst this
        exact ⟨hc, by omega⟩
    · rw [sum_snoc]; omega) (List.range (1 + q)) [] [some (.obj 0), some (.int (M : Int)), none, some (.int (M : Int)), some (.tup []), none, none] s1 rfl ⟨[], ⟨none, none, by simp⟩, fun _ h => by (cases h), rfl, by simp, r1⟩
  refine ⟨p, s', ?_, ⟨hp1, ?_, ?_, by omega⟩, hp3, r2⟩
  · have hk : okR (1 + (q : Int)) = true := by simp [okR]; omega
    rw [← e0] at e
    unfold b_pl at e
    simp [F_law_program, b_law_program, e1, hk, e]
  · rw [hp2, List.length_range]; omega
  · rw [hp2, List.length_range]; omega
end G


set_option Elab.async false
set_option linter.all false
set_option maxRecDepth 100000
set_option maxHeartbeats 4000000
namespace G
open PySem PySem.Spec L2 J
theorem PrOk.po {P : Prog} (h : PrOk P) : ProgOk P := ⟨h.u, fun cs hcs => by have := (h.c cs hcs).len; omega, fun cs hcs c hc => by
  have := (h.c cs hcs).ok c hc
  cases c with
  | read r x => obtain ⟨a, b, c, d⟩ := this; exact ⟨a, b, c, by omega⟩
  | write x n => obtain ⟨a, b, _, _⟩ := this; exact ⟨a, by omega⟩
  | copy x r => obtain ⟨a, b, _, _⟩ := this; exact ⟨a, by omega⟩
  | _ => trivial⟩
section
variable {s : S} {b : Nat} {ds : List Str} {P : Prog} {t : St} {c p : Nat}
def rowD (row : List (Nat × Nat)) : D := .tup (row.map evD)
theorem ev_event (s : S) (po : ProgOk P) {e : Nat × Nat} (h1 : e.1 < P.length) (h2 : e.2 < (csAt P e.1).length) : F_is_event [encP P, evD e] s = .ok (.bl true) s := by
  obtain ⟨c, p⟩ := e
  simp only at h1 h2
  have l1 : F_is_list [evD (c, p), .int 2, .int 2] s = .ok (.bl true) s := by simp [F_is_list, b_is_list, evD]
  have l2 := isin_ok s c 0 ((P.length : Int) - 1)
  have l3 := isin_ok s p 0 (((csAt P c).length : Int) - 1)
  have k1 : (0 : Int) ≤ (c : Int) := by omega
  have k2 : (c : Int) ≤ (P.length : Int) - 1 := by omega
  have k3 : (0 : Int) ≤ (p : Int) := by omega
  have k4 : (p : Int) ≤ ((csAt P c).length : Int) - 1 := by omega
  have a0 : fIdx s (evD (c, p)) (.int 0) = some (.int c) := rfl
  have a1 : fIdx s (evD (c, p)) (.int 1) = some (.int p) := rfl
  simp [F_is_event, b_is_event, l1, a0, a1, prog_len, l2, k1, k2, prog_ix s h1, l3, k3, k4]
def b_nr : GS := (sSeq (sIf (gOr (gNot (gB (gCall 2 (F_is_event) (gaCons (gVar 1) (gaCons (gOp2 fIdx (gVar 2) (gVar 4)) (gaNil)))))) (gNot (gB (gMeth 50 2 (PySem.Str.ofString "can") (F_Run_can) (gVar 3) (gaCons (gOp2 fIdx (gOp2 fIdx (gVar 2) (gVar 4)) (gC (.int 0))) (gaCons (gOp2 fIdx (gOp2 fIdx (gVar 2) (gVar 4)) (gC (.int 1))) (gaNil))))))) (sNever) (sNext)) (sExpr (gMeth 50 1 (PySem.Str.ofString "do") (F_Run_do) (gVar 3) (gaCons (gOp2 fIdx (gVar 2) (gVar 4)) (gaNil)))))
theorem nr_loop {s1 : S} (h : RunAt s1 b ds P t) {row : List (Nat × Nat)} (hr : RowOk (desOf ds) P t row) (hl : row.length ≤ 10) : ∃ y s', forLoop (dName 4) b_nr (rangeD 0 (row.length : Int)) [some (.tup (ds.map .str)), some (encP P), some (rowD row), some (.obj b), none] s1 = .ok (.nx [some (.tup (ds.map .str)), some (encP P), some (rowD row), some (.obj b), y]) s' ∧ RunAt s' b ds P (runRow P t row) ∧ Fr b P.length s1 s' := by
  obtain ⟨ρ', s', h1, ⟨y, rfl⟩, h2, h3⟩ := forNat (t := dName 4) (b := b_nr) row.length (fun k ρ s2 => (∃ y, ρ = [some (.tup (ds.map .str)), some (encP P), some (rowD row), some (.obj b), y]) ∧ RunAt s2 b ds P (runRow P t (row.take k)) ∧ Fr b P.length s1 s2)
    [some (.tup (ds.map .str)), some (encP P), some (rowD row), some (.obj b), none] s1 ⟨⟨none, rfl⟩, by simpa [runRow] using h, Fr.refl _ _ _⟩ fun k hk ρ s2 ⟨⟨y, e1⟩, h2, h3⟩ => by
    subst e1
    have hc := hr.at k hk
    obtain ⟨s3, d1, d2, d3⟩ := do_ok h2 hc.c hc.p
    have e2 := ev_event s2 h.po hc.c hc.p
    have e3 := can_ok h2 hc.c hc.p
    rw [hc.ok] at e3
    have ix : ∀ s, fIdx s (rowD row) (.int k) = some (evD row[k]) := fun s => by
      simp only [rowD, ap_idxT]; rw [atI_map _ _ _ hk]
    have i0 : ∀ s, fIdx s (evD row[k]) (.int 0) = some (.int row[k].1) := fun s => rfl
    have i1 : ∀ s, fIdx s (evD row[k]) (.int 1) = some (.int row[k].2) := fun s => rfl
    refine ⟨_, [some (.tup (ds.map .str)), some (encP P), some (rowD row), some (.obj b), some (.int k)], s3, rfl, ?_, ⟨_, rfl⟩, ?_, h3.trans d3⟩
    · simp [b_nr, ix, e2, i0, i1, h2.i, e3, d1]
    · rw [runRow_take hk]; exact d2
  refine ⟨y, s', h1, ?_, h3⟩
  simpa using h2
theorem Fr.pre {m : Nat} {s1 s2 u : S} (h : Fr s.length m s1 s2) (e : s1 = s ++ u) : ∃ v, s2 = s ++ v := by
  refine ⟨s2.drop s.length, ?_⟩
  have : s2.take s.length = s := by
    refine List.ext_getElem? fun i => ?_
    by_cases hi : i < s.length
    · rw [List.getElem?_take_of_lt hi, h.2 i (.inl hi), e, List.getElem?_append_left hi]
    · rw [List.getElem?_eq_none (by rw [List.length_take]; omega), List.getElem?_eq_none (by omega)]
  have h2 := List.take_append_drop s.length s2
  rw [this] at h2
  exact h2.symm
theorem need_design_ok (hd : ds.Sublist names) (s : S) : F_need_design [.tup (ds.map .str)] s = .ok .non s := by
  simp [F_need_design, b_need_design, is_design_ok hd]
theorem need_run_ok (hd : ds.Sublist names) (hP : PrOk P) {row : List (Nat × Nat)} (hr : RowOk (desOf ds) P (st0 P) row) (hl : row.length ≤ 10) :
    ∃ v, F_need_run [.tup (ds.map .str), encP P, rowD row] s = .ok (.obj s.length) (s ++ v) ∧ RunAt (s ++ v) s.length ds P (runRow P (st0 P) row) ∧ v.length = 3 + 2 * P.length := by
  have e1 := need_design_ok hd s
  have e2 : F_need_program [encP P] s = .ok .non s := need_prog_ok s hP
  have hl2 : (row.length : Int) ≤ 10 := by omega
  have e3 : F_is_list [rowD row, .int 0, .int 10] s = .ok (.bl true) s := by simp [F_is_list, b_is_list, rowD, hl2]
  obtain ⟨y, s', k1, k2, k3⟩ := nr_loop (initS_at (s := s) hd hP.po) hr hl
  obtain ⟨v, rfl⟩ := k3.pre rfl
  have hk := okR_nat (show row.length ≤ 1000000 by omega)
  have lr : ∀ s, fLen s (rowD row) = some (.int row.length) := fun s => by simp [rowD]
  refine ⟨v, ?_, k2, ?_⟩
  · unfold b_nr at k1
    have mk := fun ρ => make_ok (s := s) (ρ := ρ) (s0 := s) hd hP.po (gr := gaCons (gVar 0) (gaCons (gVar 1) gaNil))
    have mk := mk [some (.tup (ds.map .str)), some (encP P), some (rowD row), none, none] (by simp)
    simp [F_need_run, b_need_run, e1, e2, e3, c_MOST_PROGRAM, mk, lr, hk, k1, -ap_make]
  · have := k3.1
    rw [initS_len] at this
    simp at this
    omega
theorem events_behind_ok (hd : ds.Sublist names) (hP : PrOk P) {row : List (Nat × Nat)} (hr : RowOk (desOf ds) P (st0 P) row) (hl : row.length ≤ 10) :
    ∃ v, F_events_behind [.tup (ds.map .str), encP P, rowD row] s = .ok (.tup ((eventsP (desOf ds) P (runRow P (st0 P) row)).map evD)) (s ++ v) := by
  obtain ⟨v, e1, e2, _⟩ := need_run_ok (s := s) hd hP hr hl
  have e3 := events_ok e2
  refine ⟨v ++ [.lst ((eventsP (desOf ds) P (runRow P (st0 P) row)).map evD)], ?_⟩
  have g : itemsL (s ++ (v ++ [.lst ((eventsP (desOf ds) P (runRow P (st0 P) row)).map evD)])) (.obj (s.length + v.length)) = some ((eventsP (desOf ds) P (runRow P (st0 P) row)).map evD) := by
    refine itemsO ?_
    rw [← List.append_assoc, ← List.length_append]; simp
  simp [F_events_behind, b_events_behind, e1, e2.i, e3, g]
theorem has_ended_ok (hd : ds.Sublist names) (hP : PrOk P) {row : List (Nat × Nat)} (hr : RowOk (desOf ds) P (st0 P) row) (hl : row.length ≤ 10) :
    ∃ v, F_has_ended [.tup (ds.map .str), encP P, rowD row] s = .ok (.bl (overP (runRow P (st0 P) row))) (s ++ v) := by
  obtain ⟨v, e1, e2, _⟩ := need_run_ok (s := s) hd hP hr hl
  exact ⟨v, by simp [F_has_ended, b_has_ended, e1, e2.i, ended_ok e2]⟩
theorem told_by_ok (hd : ds.Sublist names) (hP : PrOk P) {row : List (Nat × Nat)} (hr : RowOk (desOf ds) P (st0 P) row) (hl : row.length ≤ 10) :
    ∃ v, F_told_by [.tup (ds.map .str), encP P, rowD row] s = if overP (runRow P (st0 P) row) then .ok (outD P (runRow P (st0 P) row)) (s ++ v) else .err ⟨0, none⟩ (s ++ v) := by
  obtain ⟨v, e1, e2, hv⟩ := need_run_ok (s := s) hd hP hr hl
  obtain ⟨w, e3⟩ := outcome_ok e2 (by simp; omega)
  cases ho : overP (runRow P (st0 P) row) with
  | true => exact ⟨v ++ w, by simp [F_told_by, b_told_by, e1, e2.i, ended_ok e2, ho, e3]⟩
  | false => exact ⟨v, by simp [F_told_by, b_told_by, e1, e2.i, ended_ok e2, ho]⟩
end
end G


set_option Elab.async false
set_option linter.all false
set_option maxRecDepth 100000
set_option maxHeartbeats 4000000
namespace G
open PySem PySem.Spec L2 J
theorem must_ok (s : S) {ds : List Str} (hd : ds.Sublist names) {cs : List Ins} (hl : cs.length ≤ 1000) {i j : Nat} (hi : i < j) (hj : j < cs.length) :
    F_law_must [.tup (ds.map D.str), .tup (cs.map Ins.enc), .int i, .int j] s = .ok (.bl (keepB (desOf ds) cs i j)) s := by
  obtain ⟨k, h1, h2⟩ := keeps_must s hd hl hi hj
  rw [keeps_ok s hd hl hi hj] at h1
  cases h1
  exact h2
/-! ### the law's own run in the store -/
def lawEnd (l e : Nat) : Nat := if e = l then 99 else e
def kvD (c : Co) (ks : List Nat) : List (Key × D) := ks.map fun (k : Nat) => ((.inl (k : Int) : Key), D.int (c.tk k))
def lawFs (q m : Nat) (ds : List Str) (P : Prog) : List (Key × D) :=
  [(.inr (PySem.Str.ofString "design"), .tup (ds.map .str)), (.inr (PySem.Str.ofString "program"), encP P), (.inr (PySem.Str.ofString "done"), .lst ((List.range m).map fun i => .obj (q + i))), (.inr (PySem.Str.ofString "cells"), .obj (q + m)),
    (.inr (PySem.Str.ofString "took"), .lst ((List.range m).map fun i => .obj (q + m + 2 + i))), (.inr (PySem.Str.ofString "ends"), .obj (q + 2 * m + 2))]
/-- the places in the order in which they were put -/
structure TookK (cs : List Ins) (c : Co) (ks : List Nat) : Prop where
  nd : ks.Nodup
  mem : ∀ k, k ∈ ks ↔ k < cs.length ∧ (∃ r x, cs[k]? = some (.read r x)) ∧ c.dn k = true
structure LawW (s : S) (q : Nat) (ds : List Str) (P : Prog) (t : St) : Prop where
  hd : ds.Sublist names
  po : ProgOk P
  l99 : ∀ cs ∈ P, cs.length ≤ 50
  ok : StOk P t
  dic : s[q + P.length + 1]? = some (.dic (lawFs q P.length ds P))
  dn : ∀ i, i < P.length → s[q + i]? = some (.lst ((coAt t i).done.map D.bl))
  ce : s[q + P.length]? = some (.lst (t.cells.map D.int))
  tk : ∀ i, i < P.length → ∃ kvs, s[q + P.length + 2 + i]? = some (.dic kvs) ∧ ∀ k : Nat, k < (csAt P i).length → (∃ r x, (csAt P i)[k]? = some (.read r x)) → (valD kvs (.inl (k : Int))).getD (.int 0) = .int ((coAt t i).tk k)
  en : s[q + 2 * P.length + 2]? = some (.lst ((List.range P.length).map fun i => .int (lawEnd (csAt P i).length (coAt t i).ends : Int)))
@[simp] theorem lv_design (q m : Nat) (ds : List Str) (P : Prog) : valD (lawFs q m ds P) (.inr (PySem.Str.ofString "design")) = some (.tup (ds.map .str)) := id rfl
@[simp] theorem lv_program (q m : Nat) (ds : List Str) (P : Prog) : valD (lawFs q m ds P) (.inr (PySem.Str.ofString "program")) = some (encP P) := id rfl
@[simp] theorem lv_done (q m : Nat) (ds : List Str) (P : Prog) : valD (lawFs q m ds P) (.inr (PySem.Str.ofString "done")) = some (.lst ((List.range m).map fun i => .obj (q + i))) := id rfl
@[simp] theorem lv_cells (q m : Nat) (ds : List Str) (P : Prog) : valD (lawFs q m ds P) (.inr (PySem.Str.ofString "cells")) = some (.obj (q + m)) := id rfl
@[simp] theorem lv_took (q m : Nat) (ds : List Str) (P : Prog) : valD (lawFs q m ds P) (.inr (PySem.Str.ofString "took")) = some (.lst ((List.range m).map fun i => .obj (q + m + 2 + i))) := id rfl
@[simp] theorem lv_ends (q m : Nat) (ds : List Str) (P : Prog) : valD (lawFs q m ds P) (.inr (PySem.Str.ofString "ends")) = some (.obj (q + 2 * m + 2)) := id rfl
theorem valD_kvD (c : Co) : ∀ (ks : List Nat) (k : Nat), valD (kvD c ks) (.inl (k : Int)) = if k ∈ ks then some (.int (c.tk k)) else none
  | [], k => by simp [kvD, valD]
  | j :: ks, k => by
    have ih := valD_kvD c ks k
    unfold valD kvD at ih ⊢
    rw [List.map_cons, List.find?_cons]
    by_cases e : j = k
    · subst e; simp
    · have e2 : ¬ ((Sum.inl (j : Int) : Key) = .inl (k : Int)) := by
        intro z; injection z with z; omega
      have e3 : k ≠ j := fun z => e z.symm
      simp only [e2, decide_false, List.mem_cons, e3, false_or]
      exact ih
section
variable {s : S} {q : Nat} {ds : List Str} {P : Prog} {t : St} {c p : Nat}
theorem LawW.d (h : LawW s q ds P t) : dicOf s (.obj (q + P.length + 1)) = some (lawFs q P.length ds P) := dicO h.dic
theorem LawW.done_ix (h : LawW s q ds P t) (hc : c < P.length) (hp : p < (csAt P c).length) : fIdx s (.obj (q + c)) (.int p) = some (.bl ((coAt t c).dn p)) := by
  have hl : p < (coAt t c).done.length := by rw [(h.ok.co c hc).ld]; exact hp
  simp only [ap_idxO, itemsO (h.dn c hc), Option.bind_some]
  rw [atI_map _ _ _ hl]
  simp [Co.dn, hl]
theorem LawW.ends_ix (h : LawW s q ds P t) (hc : c < P.length) : fIdx s (.obj (q + 2 * P.length + 2)) (.int c) = some (.int (lawEnd (csAt P c).length (coAt t c).ends : Int)) := by
  simp only [ap_idxO, itemsO h.en, Option.bind_some]
  rw [atI_range _ _ _ hc]
theorem LawW.cells_ix (h : LawW s q ds P t) {x : Int} (h0 : 0 ≤ x) (h3 : x < 3) : fIdx s (.obj (q + P.length)) (.int x) = some (.int (cellAt t.cells x)) := by
  obtain ⟨k, rfl⟩ := Int.eq_ofNat_of_zero_le h0
  have hl : k < t.cells.length := by rw [h.ok.l3]; omega
  simp only [ap_idxO, itemsO h.ce, Option.bind_some]
  rw [atI_map _ _ _ hl]
  simp [cellAt, hl]
theorem LawW.len (h : LawW s q ds P t) (hc : c < P.length) : (csAt P c).length ≤ 1000 := h.po.l _ (csAt_mem hc)
theorem LawW.len50 (h : LawW s q ds P t) (hc : c < P.length) : (csAt P c).length ≤ 50 := h.l99 _ (csAt_mem hc)
theorem LawW.insOk (h : LawW s q ds P t) (hc : c < P.length) (hp : p < (csAt P c).length) : match (csAt P c)[p] with | .read r x => 0 ≤ r ∧ r < 2 ∧ 0 ≤ x ∧ x < 3 | .write x _ => 0 ≤ x ∧ x < 3 | .copy x _ => 0 ≤ x ∧ x < 3 | _ => True := h.po.r _ (csAt_mem hc) _ (List.getElem_mem hp)
/-- what a place took -/
theorem LawW.get (h : LawW s q ds P t) (hc : c < P.length) {k : Nat} (hk : k < (csAt P c).length) (hr : ∃ r x, (csAt P c)[k]? = some (.read r x)) :
    ∃ kvs, dicOf s (.obj (q + P.length + 2 + c)) = some kvs ∧ (valD kvs (.inl (k : Int))).getD (.int 0) = .int ((coAt t c).tk k) := by
  obtain ⟨kvs, h1, h2⟩ := h.tk c hc
  exact ⟨kvs, dicO h1, h2 k hk hr⟩
theorem ne_one (s : S) (k : Nat) : eqD s (.lst [.int (k : Int)]) (.lst []) = some false := by
  have := eqD_ints s [(k : Int)] []
  simpa using this
theorem eq_nil0 (s : S) : eqD s (.lst []) (.lst []) = some true := by
  have := eqD_ints s [] []
  simpa using this
theorem rdP_read {cs : List Ins} {r : Int} {k : Nat} (h : rdP cs r k = true) : ∃ r x, cs[k]? = some (.read r x) := by
  unfold rdP at h
  split at h
  · rename_i r' x e; exact ⟨r', x, e⟩
  · cases h
theorem lword_ok (h : LawW s q ds P t) (hc : c < P.length) (hp : p ≤ (csAt P c).length) (r : Int) : F_law_word [.obj (q + P.length + 1), .int c, .int p, .int r] s = .ok (.int (wordC (csAt P c) (coAt t c) p r)) s := by
  have e1 := law_last_r s hp (h.len hc) r
  cases eo : lastP (rdP (csAt P c) r) p with
  | none => rw [eo] at e1; simp [F_law_word, b_law_word, h.d, prog_ix s hc, e1, wordC, eo, eq_nil0, -ap_idxL, -ap_idxO]
  | some k =>
    rw [eo] at e1
    obtain ⟨hk, hr⟩ := lastP_lt eo
    have hk2 : k < (csAt P c).length := by omega
    obtain ⟨kvs, e2, e4⟩ := h.get hc hk2 (rdP_read hr)
    have e3 := objs_ix s (fun i => q + P.length + 2 + i) hc
    have e5 : fIdx s (.lst [.int (k : Int)]) (.int 0) = some (.int k) := rfl
    simp [F_law_word, b_law_word, h.d, prog_ix s hc, e1, wordC, eo, ne_one, e3, e2, e4, e5, -ap_idxL, -ap_idxO]
theorem lwritten_ok (h : LawW s q ds P t) (hc : c < P.length) (hp : p < (csAt P c).length) (hw : (csAt P c)[p].isW = true) : F_law_written [.obj (q + P.length + 1), .int c, .int p] s = .ok (.int (writtenC (csAt P c) (coAt t c) p)) s := by
  have e0 := core_ix' s hp
  have e1 : (csAt P c)[p]? = some (csAt P c)[p] := List.getElem?_eq_getElem hp
  cases e : (csAt P c)[p] with
  | write x n =>
    rw [e] at e0 e1
    simp [F_law_written, b_law_written, h.d, prog_ix s hc, e0, writtenC, e1, Ins.enc, eqD_str, i1, i2, -ap_idxT, ap_idxT (s := s) (ds := [_, _, _])]
  | copy x r =>
    rw [e] at e0 e1
    have e2 := lword_ok h hc (Nat.le_of_lt hp) r
    simp [F_law_written, b_law_written, h.d, prog_ix s hc, e0, writtenC, e1, Ins.enc, eqD_str, i1, i2, e2, -ap_idxT, ap_idxT (s := s) (ds := [_, _, _])]
  | _ => rw [e] at hw; cases hw
theorem bls_toPys : ∀ bs : List Bool, D.toPys (bs.map D.bl) = some (bs.map PyData.bool)
  | [] => rfl
  | b :: bs => by simp [D.toPys, D.toPy, bls_toPys bs]
theorem shaped_bls (bs : List Bool) : SeqAt.shaped (.list (bs.map PyData.bool)) = true := by
  have h1 : ∀ ns : List Bool, PyData.canLayAll0 (ns.map PyData.bool) = true := fun ns => by
    induction ns with
    | nil => simp [PyData.canLayAll0]
    | cons n ns ih => simp [PyData.canLayAll0, PyData.canLay0, ih]
  have h2 : ∀ ns : List Bool, PyData.depthAll (ns.map PyData.bool) ≤ 0 := fun ns => by
    induction ns with
    | nil => simp [PyData.depthAll]
    | cons n ns ih => simp [PyData.depthAll, PyData.depth] at ih ⊢; omega
  simp only [SeqAt.shaped, Bool.and_eq_true, decide_eq_true_eq]
  refine ⟨by simpa [PyData.canLay0] using h1 bs, ?_⟩
  have := h2 bs
  simp only [PyData.depth]
  omega
theorem inD_bls (s : S) (x : Bool) (bs : List Bool) : inD s (.bl x) (.lst (bs.map D.bl)) = some (bs.any (· == x)) := by
  have h1 : SeqAt.shaped (.bool x) = true := by cases x <;> decide +kernel
  have h3 : ((bs.map PyData.bool).any fun z => PyData.eqv z (PyData.bool x)) = bs.any (· == x) := by simp [List.any_map, Function.comp_def, PyData.eqv]
  simp only [inD, itemsL, D.toPy, bls_toPys, h1, shaped_bls, Bool.and_self, if_true, h3]
theorem natL_ne (s : S) (ks : List Nat) : eqD s (.lst (ks.map fun (k : Nat) => D.int (k : Int))) (.lst []) = some ks.isEmpty := by
  have h := eqD_ints s (ks.map fun (k : Nat) => (k : Int)) []
  simp only [List.map_map, List.map_nil, Function.comp_def] at h
  rw [h]
  cases ks <;> rfl
theorem lcan_ok (h : LawW s q ds P t) (hc : c < P.length) (hp : p < (csAt P c).length) : F_law_can [.obj (q + P.length + 1), .int c, .int p] s = .ok (.bl (canC (desOf ds) (csAt P c) (coAt t c) p)) s := by
  have hl := h.len hc
  have hl5 := h.len50 hc
  have e0 := core_ix' s hp
  have e1 : (csAt P c)[p]? = some (csAt P c)[p] := List.getElem?_eq_getElem hp
  have e2 := h.done_ix hc hp
  have e3 := objs_ix s (fun i => q + i) hc
  have e4 := h.ends_ix hc
  have hr := okR_nat (show p ≤ 1000000 by omega)
  have hrl : (rangeD 0 (p : Int)).length ≤ 16777216 := by rw [rangeD_nat]; simp; omega
  have ef : lcLoop (dName 6) (gAnd (gNot (gB (gOp2 fIdx (gVar 5) (gVar 6)))) (gB (gCall 4 (F_law_must) (gaCons (gOp2 fDGet (gVar 0) (gC (.str (PySem.Str.ofString "design")))) (gaCons (gVar 4) (gaCons (gVar 6) (gaCons (gVar 2) (gaNil)))))))) (gVar 6) [some (.obj (q + P.length + 1)), some (.int c), some (.int p), none, some (.tup ((csAt P c).map Ins.enc)), some (.obj (q + c)), none] (rangeD 0 (p : Int)) s =
      .ok (((List.range p).filter fun i => !(coAt t c).dn i && keepB (desOf ds) (csAt P c) i p).map fun (k : Nat) => D.int (k : Int)) s := by
    rw [rangeD_nat]
    refine lcNat (fun i => !(coAt t c).dn i && keepB (desOf ds) (csAt P c) i p) _ _ fun k hk => ?_
    have hk2 : k < p := by simpa using hk
    have e7 := h.done_ix hc (show k < (csAt P c).length by omega)
    have e8 := must_ok s h.hd hl hk2 hp
    refine ⟨_, rfl, ?_, fun _ => by simp⟩
    cases hd : (coAt t c).dn k <;> rw [hd] at e7 <;> simp [e7, h.d, e8, -ap_idxL, -ap_idxO]
  have hall : ((List.range p).all fun i => !keepB (desOf ds) (csAt P c) i p || (coAt t c).dn i) = ((List.range p).filter fun i => !(coAt t c).dn i && keepB (desOf ds) (csAt P c) i p).isEmpty := by
    rw [Bool.eq_iff_iff]
    simp only [List.all_eq_true, List.mem_range, Bool.or_eq_true, Bool.not_eq_true', List.isEmpty_iff, List.filter_eq_nil_iff, Bool.and_eq_true]
    constructor
    · intro z x hx ⟨h1, h2⟩
      rcases z x hx with z | z
      · rw [h2] at z; cases z
      · rw [h1] at z; cases z
    · intro z x hx
      cases hk : keepB (desOf ds) (csAt P c) x p with
      | false => exact .inl rfl
      | true =>
        right
        cases hd : (coAt t c).dn x with
        | true => rfl
        | false => exact absurd ⟨hd, hk⟩ (z x hx)
  have enl := natL_ne s ((List.range p).filter fun i => !(coAt t c).dn i && keepB (desOf ds) (csAt P c) i p)
  have ed : itemsL s (.obj (q + c)) = some ((coAt t c).done.map D.bl) := itemsO (h.dn c hc)
  have es : fSl s (.obj (q + c)) (some ((p : Int) + 1)) none = some (.lst (((coAt t c).done.drop (p + 1)).map D.bl)) := by
    have := cut_from D.bl (coAt t c).done (p + 1)
    rw [show ((p : Int) + 1) = ((p + 1 : Nat) : Int) by omega]
    simp only [ap_slO, ed, Option.map_some, this]
  have eb := inD_bls s true ((coAt t c).done.drop (p + 1))
  have hany : (((coAt t c).done.drop (p + 1)).any (· == true)) = ((coAt t c).done.drop (p + 1)).any id := by
    have hid : (fun b : Bool => b == true) = id := by funext x; cases x <;> rfl
    rw [hid]
  rw [hany] at eb
  unfold canC
  rw [hall]
  have hle : decide (p ≤ (coAt t c).ends) = !decide (lawEnd (csAt P c).length (coAt t c).ends < p) := by
    unfold lawEnd
    have := (h.ok.co c hc).le
    by_cases h1 : (coAt t c).ends = (csAt P c).length
    · rw [if_pos h1, decide_eq_true (by omega), decide_eq_false (by omega)]; rfl
    · rw [if_neg h1]
      by_cases h2 : p ≤ (coAt t c).ends
      · rw [decide_eq_true h2, decide_eq_false (by omega)]; rfl
      · rw [decide_eq_false h2, decide_eq_true (by omega)]; rfl
  rw [hle]
  generalize lawEnd (csAt P c).length (coAt t c).ends = E at *
  generalize ((List.range p).filter fun i => !(coAt t c).dn i && keepB (desOf ds) (csAt P c) i p) = KS at *
  cases hd : (coAt t c).dn p with
  | true => rw [hd] at e2; simp [F_law_can, b_law_can, h.d, prog_ix s hc, e3, e2, -ap_idxL, -ap_idxO]
  | false =>
    rw [hd] at e2
    by_cases he : E < p
    · simp [F_law_can, b_law_can, h.d, prog_ix s hc, e3, e2, e4, gt_nat, he, -ap_gtI, -ap_idxL, -ap_idxO]
    · cases hA : KS.isEmpty with
      | false => rw [hA] at enl; simp [F_law_can, b_law_can, h.d, prog_ix s hc, e3, e2, e4, gt_nat, he, hr, hrl, ef, enl, -ap_gtI, -ap_idxL, -ap_idxO]
      | true =>
        rw [hA] at enl
        cases e : (csAt P c)[p] with
        | guard r n =>
          rw [e] at e0 e1
          have e8 := lword_ok h hc (Nat.le_of_lt hp) r
          cases hw : (wordC (csAt P c) (coAt t c) p r == n) with
          | true => simp [F_law_can, b_law_can, h.d, prog_ix s hc, e3, e2, e4, gt_nat, he, hr, hrl, ef, enl, e0, Ins.enc, ap_idxT (s := s) (ds := [_, _, _]), i1, i2, eqD_str, e8, hw, stopsC, e1, bne, -ap_gtI, -ap_idxL, -ap_idxO, -ap_idxT]
          | false => simp [F_law_can, b_law_can, h.d, prog_ix s hc, e3, e2, e4, gt_nat, he, hr, hrl, ef, enl, e0, Ins.enc, ap_idxT (s := s) (ds := [_, _, _]), i1, i2, eqD_str, e8, hw, stopsC, e1, bne, es, eb, -List.map_drop, -ap_slO, -ap_gtI, -ap_idxL, -ap_idxO, -ap_idxT]
        | _ => rw [e] at e0 e1; simp [F_law_can, b_law_can, h.d, prog_ix s hc, e3, e2, e4, gt_nat, he, hr, hrl, ef, enl, e0, Ins.enc, ap_idxT (s := s) (ds := [_, _, _]), ap_idxT (s := s) (ds := [_]), eqD_str, stopsC, e1, -ap_gtI, -ap_idxL, -ap_idxO, -ap_idxT]
end
end G


set_option Elab.async false
set_option linter.all false
set_option maxRecDepth 100000
set_option maxHeartbeats 4000000
namespace G
open PySem PySem.Spec L2 J
section
variable {s : S} {q : Nat} {ds : List Str} {P : Prog} {t : St} {c p : Nat}
def b_lev : GS := (sAsg (gOp2 fAdd (gVar 1) (gLc [3] (gRange1 (gaCons (gF (f1 fLen) (gaCons (gOp2 fIdx (gOp2 fDGet (gVar 0) (gC (.str (PySem.Str.ofString "program")))) (gVar 2)) (gaNil))) (gaNil))) (dName 3) (gB (gCall 3 (F_law_can) (gaCons (gVar 0) (gaCons (gVar 2) (gaCons (gVar 3) (gaNil)))))) (gTup (gaCons (gVar 2) (gaCons (gVar 3) (gaNil)))))) (dName 1))
theorem levents_ok (h : LawW s q ds P t) : F_law_events [.obj (q + P.length + 1)] s = .ok (.lst ((eventsP (desOf ds) P t).map evD)) s := by
  have m3 := h.po.m
  obtain ⟨ρ', s', e, ⟨y, rfl⟩, rfl⟩ := forNat (t := dName 2) (b := b_lev) P.length (fun k ρ s1 => (∃ y, ρ = [some (.obj (q + P.length + 1)), some (.lst ((eventsK (desOf ds) P t k).map evD)), y, none]) ∧ s1 = s) [some (.obj (q + P.length + 1)), some (.lst []), none, none] s ⟨⟨none, rfl⟩, rfl⟩ fun k hk ρ s1 ⟨⟨y, e1⟩, e2⟩ => by
    subst e1 e2
    have hl := eventsK_len h.po (desOf ds) t k (Nat.le_of_lt hk)
    have cl := h.len hk
    have cl2 : (eventsC (desOf ds) (csAt P k) (coAt t k)).length ≤ 1000 := Nat.le_trans (eventsC_le _ _ _) cl
    have ef : lcLoop (dName 3) (gB (gCall 3 (F_law_can) (gaCons (gVar 0) (gaCons (gVar 2) (gaCons (gVar 3) (gaNil)))))) (gTup (gaCons (gVar 2) (gaCons (gVar 3) (gaNil)))) [some (.obj (q + P.length + 1)), some (.lst ((eventsK (desOf ds) P t k).map evD)), some (.int (k : Int)), none] (rangeD 0 ((csAt P k).length : Int)) s1 = .ok ((eventsC (desOf ds) (csAt P k) (coAt t k)).map fun p => evD (k, p)) s1 := by
      rw [rangeD_nat]
      refine lcNat (canC (desOf ds) (csAt P k) (coAt t k)) (fun p => evD (k, p)) _ fun p hp => ?_
      have hp2 : p < (csAt P k).length := by simpa using hp
      have e7 := lcan_ok h hk hp2
      exact ⟨_, rfl, by simp [e7], fun _ => by simp [evD]⟩
    have hr := okR_nat (show (csAt P k).length ≤ 1000000 by omega)
    have hrl : (rangeD 0 ((csAt P k).length : Int)).length ≤ 16777216 := by rw [rangeD_nat]; simp; omega
    have hf : (eventsK (desOf ds) P t k).length + (eventsC (desOf ds) (csAt P k) (coAt t k)).length ≤ 16777216 := by omega
    refine ⟨_, [some (.obj (q + P.length + 1)), some (.lst ((eventsK (desOf ds) P t (k + 1)).map evD)), some (.int (k : Int)), none], _, rfl, ?_, ⟨_, rfl⟩, rfl⟩
    simp [b_lev, h.d, prog_ix _ hk, hr, hrl, ef, fAdd, hf, eventsK_succ, Function.comp_def]
  have hr := okR_nat (show P.length ≤ 1000000 by omega)
  unfold b_lev at e
  have : eventsP (desOf ds) P t = eventsK (desOf ds) P t P.length := rfl
  rw [this]
  simp [F_law_events, b_law_events, h.d, prog_len, hr, e]
theorem take_end {l e : Nat} {d : List Bool} (hd : d.length = l) (hl : l ≤ 50) (he : e ≤ l) : d.take (lawEnd l e + 1) = d.take (e + 1) := by
  unfold lawEnd
  split
  · rw [List.take_of_length_le (by omega), List.take_of_length_le (by omega)]
  · rfl
theorem any_false (d : List Bool) : d.any (· == false) = !d.all id := by
  induction d with
  | nil => rfl
  | cons x d ih => simp only [List.any_cons, List.all_cons, ih]; cases x <;> simp
theorem lover_ok (h : LawW s q ds P t) : F_law_over [.obj (q + P.length + 1)] s = .ok (.bl (overP t)) s := by
  have m3 := h.po.m
  have hr := okR_nat (show P.length ≤ 1000000 by omega)
  have hrl : (rangeD 0 (P.length : Int)).length ≤ 16777216 := by rw [rangeD_nat]; simp; omega
  have ef : lcLoop (dName 1) (gB (gOp2 fIn (gC (.bl false)) (gSl (gOp2 fIdx (gOp2 fDGet (gVar 0) (gC (.str (PySem.Str.ofString "done")))) (gVar 1)) (goNone) (goSome (gOp2 fAdd (gOp2 fIdx (gOp2 fDGet (gVar 0) (gC (.str (PySem.Str.ofString "ends")))) (gVar 1)) (gC (.int 1))))))) (gVar 1) [some (.obj (q + P.length + 1)), none] (rangeD 0 (P.length : Int)) s = .ok (((List.range P.length).filter fun c => !overC (coAt t c)).map fun (k : Nat) => D.int (k : Int)) s := by
    rw [rangeD_nat]
    refine lcNat (fun c => !overC (coAt t c)) _ _ fun c hc => ?_
    have hc2 : c < P.length := by simpa using hc
    have e3 := objs_ix s (fun i => q + i) hc2
    have e4 := h.ends_ix hc2
    have ed : itemsL s (.obj (q + c)) = some ((coAt t c).done.map D.bl) := itemsO (h.dn c hc2)
    have es : fSl s (.obj (q + c)) none (some ((lawEnd (csAt P c).length (coAt t c).ends : Int) + 1)) = some (.lst (((coAt t c).done.take ((coAt t c).ends + 1)).map D.bl)) := by
      have := cut_to D.bl (coAt t c).done (lawEnd (csAt P c).length (coAt t c).ends + 1)
      rw [show ((lawEnd (csAt P c).length (coAt t c).ends : Int) + 1) = ((lawEnd (csAt P c).length (coAt t c).ends + 1 : Nat) : Int) by omega]
      simp only [ap_slO, ed, Option.map_some, this]
      rw [take_end (h.ok.co c hc2).ld (h.len50 hc2) (h.ok.co c hc2).le]
    have eb := inD_bls s false ((coAt t c).done.take ((coAt t c).ends + 1))
    rw [any_false] at eb
    exact ⟨_, rfl, by simp [h.d, e3, e4, es, eb, overC, -List.map_take, -ap_slO, -ap_idxL, -ap_idxO], fun _ => by simp⟩
  have enl := natL_ne s ((List.range P.length).filter fun c => !overC (coAt t c))
  have hov : overP t = ((List.range P.length).filter fun c => !overC (coAt t c)).isEmpty := by
    rw [overP_eq h.ok, Bool.eq_iff_iff]
    simp only [List.all_eq_true, List.isEmpty_iff, List.filter_eq_nil_iff, Bool.not_eq_true', Bool.not_eq_false]
  rw [hov]
  simp [F_law_over, b_law_over, h.d, hr, hrl, ef, enl]
/-! ### its stores -/
structure LawAt (s : S) (q : Nat) (ds : List Str) (P : Prog) (t : St) : Prop extends LawW s q ds P t where
  t0 : AllTk0 P t
  ex : ∀ i, i < P.length → ∃ ks, s[q + P.length + 2 + i]? = some (.dic (kvD (coAt t i) ks)) ∧ TookK (csAt P i) (coAt t i) ks
theorem weak_tk (t0 : AllTk0 P t) {i : Nat} (hi : i < P.length) (h : ∃ ks, s[q + P.length + 2 + i]? = some (.dic (kvD (coAt t i) ks)) ∧ TookK (csAt P i) (coAt t i) ks) :
    ∃ kvs, s[q + P.length + 2 + i]? = some (.dic kvs) ∧ ∀ k : Nat, k < (csAt P i).length → (∃ r x, (csAt P i)[k]? = some (.read r x)) → (valD kvs (.inl (k : Int))).getD (.int 0) = .int ((coAt t i).tk k) := by
  obtain ⟨ks, h1, h2⟩ := h
  refine ⟨_, h1, fun k hk hr => ?_⟩
  rw [valD_kvD]
  by_cases hm : k ∈ ks
  · rw [if_pos hm]; rfl
  · rw [if_neg hm]
    have : (coAt t i).dn k = false := by
      cases e : (coAt t i).dn k with
      | false => rfl
      | true => exact absurd ((h2.mem k).mpr ⟨hk, hr, e⟩) hm
    rw [t0 i hi k this]; rfl
theorem LawW.setDn (h : LawW s q ds P t) (hc : c < P.length) (x : List Bool) (hx : x.length = (csAt P c).length) : LawW (s.set (q + c) (.lst (x.map D.bl))) q ds P ⟨t.cos.set c ⟨x, (coAt t c).taken, (coAt t c).ends⟩, t.cells⟩ := by
  have hl : c < t.cos.length := by rw [h.ok.lc]; exact hc
  refine ⟨h.hd, h.po, h.l99, ⟨by simp [h.ok.lc], h.ok.l3, fun i hi => ?_⟩, ?_, fun i hi => ?_, ?_, fun i hi => ?_, ?_⟩
  · rw [coAt_set hl]; split
    · rename_i e; subst e; exact ⟨hx, (h.ok.co i hc).lt, (h.ok.co i hc).le⟩
    · exact h.ok.co i hi
  · rw [List.getElem?_set_ne (by omega)]; exact h.dic
  · rw [coAt_set hl]
    by_cases e : i = c
    · subst e
      rw [if_pos rfl, List.getElem?_set_self (by have := (List.getElem?_eq_some_iff.mp (h.dn i hi)).1; exact this)]
    · rw [if_neg e, List.getElem?_set_ne (by omega)]; exact h.dn i hi
  · rw [List.getElem?_set_ne (by omega)]; exact h.ce
  · rw [coAt_set hl, List.getElem?_set_ne (by omega)]
    obtain ⟨kvs, h1, h2⟩ := h.tk i hi
    refine ⟨kvs, h1, ?_⟩
    split
    · rename_i e; subst e; exact h2
    · exact h2
  · rw [List.getElem?_set_ne (by omega), h.en]
    congr 2
    refine List.map_congr_left fun i _ => ?_
    rw [coAt_set hl]
    split
    · rename_i e; subst e; rfl
    · rfl
theorem LawW.setCe (h : LawW s q ds P t) (x : List Int) (hx : x.length = 3) : LawW (s.set (q + P.length) (.lst (x.map D.int))) q ds P ⟨t.cos, x⟩ := by
  refine ⟨h.hd, h.po, h.l99, ⟨h.ok.lc, hx, h.ok.co⟩, ?_, fun i hi => ?_, ?_, fun i hi => ?_, ?_⟩
  · rw [List.getElem?_set_ne (by omega)]; exact h.dic
  · rw [List.getElem?_set_ne (by omega)]; exact h.dn i hi
  · rw [List.getElem?_set_self (by have := (List.getElem?_eq_some_iff.mp h.ce).1; exact this)]
  · rw [List.getElem?_set_ne (by omega)]; exact h.tk i hi
  · rw [List.getElem?_set_ne (by omega)]; exact h.en
theorem LawW.setEn (h : LawW s q ds P t) (hc : c < P.length) (x : Nat) (hx : x < (csAt P c).length) : LawW (s.set (q + 2 * P.length + 2) (.lst (((List.range P.length).map fun i => D.int (lawEnd (csAt P i).length (coAt t i).ends : Int)).set c (.int (x : Int))))) q ds P ⟨t.cos.set c ⟨(coAt t c).done, (coAt t c).taken, x⟩, t.cells⟩ := by
  have hl : c < t.cos.length := by rw [h.ok.lc]; exact hc
  refine ⟨h.hd, h.po, h.l99, ⟨by simp [h.ok.lc], h.ok.l3, fun i hi => ?_⟩, ?_, fun i hi => ?_, ?_, fun i hi => ?_, ?_⟩
  · rw [coAt_set hl]; split
    · rename_i e; subst e; exact ⟨(h.ok.co i hc).ld, (h.ok.co i hc).lt, Nat.le_of_lt hx⟩
    · exact h.ok.co i hi
  · rw [List.getElem?_set_ne (by omega)]; exact h.dic
  · rw [coAt_set hl, List.getElem?_set_ne (by omega), h.dn i hi]
    split
    · rename_i e; subst e; rfl
    · rfl
  · rw [List.getElem?_set_ne (by omega)]; exact h.ce
  · rw [coAt_set hl, List.getElem?_set_ne (by omega)]
    obtain ⟨kvs, h1, h2⟩ := h.tk i hi
    refine ⟨kvs, h1, ?_⟩
    split
    · rename_i e; subst e; exact h2
    · exact h2
  · rw [List.getElem?_set_self (by have := (List.getElem?_eq_some_iff.mp h.en).1; exact this)]
    congr 2
    refine List.ext_getElem? fun i => ?_
    rw [List.getElem?_set, List.getElem?_map, List.getElem?_map]
    by_cases hi : i < P.length
    · rw [List.getElem?_range hi]
      simp only [List.length_map, List.length_range, Option.map_some, coAt_set hl]
      by_cases e : c = i
      · subst e
        rw [if_pos rfl, if_pos hi, if_pos rfl]
        have : lawEnd (csAt P c).length x = x := by unfold lawEnd; rw [if_neg (by omega)]
        simp [this]
      · have e2 : ¬ i = c := fun z => e z.symm
        rw [if_neg e, if_neg e2]
    · rw [List.getElem?_eq_none (l := List.range P.length) (by simp; omega)]
      by_cases e : c = i
      · omega
      · rw [if_neg e]; rfl
/-- what the law's run does not hold is as it was -/
def FrL (q m : Nat) (s s' : S) : Prop := s'.length = s.length ∧ ∀ k, (k < q ∨ q + 3 + 2 * m ≤ k) → s'[k]? = s[k]?
theorem FrL.refl (q m : Nat) (s : S) : FrL q m s s := ⟨rfl, fun _ _ => rfl⟩
theorem FrL.trans {q m : Nat} {s s' s'' : S} (h : FrL q m s s') (h' : FrL q m s' s'') : FrL q m s s'' := ⟨h'.1.trans h.1, fun k hk => (h'.2 k hk).trans (h.2 k hk)⟩
theorem FrL.set {q m n : Nat} {s : S} {u : IO} (h : q ≤ n ∧ n < q + 3 + 2 * m) : FrL q m s (s.set n u) := ⟨by simp, fun k hk => by rw [List.getElem?_set_ne (by omega)]⟩
theorem LawAt.ext {s' : S} (h : LawAt s q ds P t) (e : ∀ k, q ≤ k → k < q + 3 + 2 * P.length → s'[k]? = s[k]?) : LawAt s' q ds P t := by
  have ex : ∀ i, i < P.length → ∃ ks, s'[q + P.length + 2 + i]? = some (.dic (kvD (coAt t i) ks)) ∧ TookK (csAt P i) (coAt t i) ks := fun i hi => by
    obtain ⟨ks, h1, h2⟩ := h.ex i hi
    exact ⟨ks, (e _ (by omega) (by omega)).trans h1, h2⟩
  exact ⟨⟨h.hd, h.po, h.l99, h.ok, (e _ (by omega) (by omega)).trans h.dic, fun i hi => (e _ (by omega) (by omega)).trans (h.dn i hi), (e _ (by omega) (by omega)).trans h.ce, fun i hi => weak_tk h.t0 hi (ex i hi), (e _ (by omega) (by omega)).trans h.en⟩, h.t0, ex⟩
end
end G


set_option Elab.async false
set_option linter.all false
set_option maxRecDepth 100000
set_option maxHeartbeats 4000000
namespace G
open PySem PySem.Spec L2 J
section
variable {s : S} {q : Nat} {ds : List Str} {P : Prog} {t : St} {c p : Nat}
theorem putK_new (co : Co) (ks : List Nat) (p : Nat) (d : D) (hp : p ∉ ks) : putKD (kvD co ks) (.inl (p : Int)) d = kvD co ks ++ [((.inl (p : Int) : Key), d)] := by
  unfold putKD
  have : ((kvD co ks).any fun kv => decide (kv.1 = (.inl (p : Int) : Key))) = false := by
    rw [List.any_eq_false]
    intro kv hkv
    simp only [kvD, List.mem_map] at hkv
    obtain ⟨k, hk, rfl⟩ := hkv
    simp only [decide_eq_true_eq]
    intro z
    injection z with z
    have : k = p := by omega
    subst this
    exact hp hk
  rw [this]
  rfl
theorem kvD_congr {co co' : Co} {ks : List Nat} (h : ∀ k ∈ ks, co'.tk k = co.tk k) : kvD co' ks = kvD co ks := by
  unfold kvD
  exact List.map_congr_left fun k hk => by rw [h k hk]
theorem kvD_len (co : Co) (ks : List Nat) : (kvD co ks).length = ks.length := by simp [kvD]
theorem nodup_lt : ∀ (n : Nat) (ks : List Nat), ks.Nodup → (∀ k ∈ ks, k < n) → ks.length ≤ n
  | 0, ks, _, h => by
    cases ks with
    | nil => exact Nat.le_refl _
    | cons k ks => exact absurd (h k List.mem_cons_self) (by omega)
  | n + 1, ks, hn, h => by
    by_cases hm : n ∈ ks
    · have h1 := nodup_lt n (ks.erase n) (hn.erase n) fun k hk => by
        have := (hn.mem_erase_iff).mp hk
        have := h k this.2
        omega
      rw [List.length_erase_of_mem hm] at h1
      omega
    · have := nodup_lt n ks hn fun k hk => by
        have h2 := h k hk
        have : k ≠ n := fun z => hm (z ▸ hk)
        omega
      omega
theorem took_len {cs : List Ins} {co : Co} {ks : List Nat} (h : TookK cs co ks) : ks.length ≤ cs.length := nodup_lt _ _ h.nd fun k hk => ((h.mem k).mp hk).1
theorem took_set {cs : List Ins} {co : Co} {ks : List Nat} {p : Nat} {tk : List Int} {e : Nat} (h : TookK cs co ks) (hp : p < co.done.length) (hr : ∀ r x, cs[p]? ≠ some (.read r x)) : TookK cs ⟨co.done.set p true, tk, e⟩ ks := ⟨h.nd, fun k => by
  rw [h.mem k, dn_set hp]
  constructor
  · rintro ⟨a, b, d⟩
    exact ⟨a, b, by split <;> trivial⟩
  · rintro ⟨a, b, d⟩
    refine ⟨a, b, ?_⟩
    split at d
    · rename_i e'; subst e'
      obtain ⟨r, x, z⟩ := b
      exact absurd z (hr r x)
    · exact d⟩
theorem idxT3 (s : S) (x y z : D) (i : Int) : fIdx s (.tup [x, y, z]) (.int i) = atI [x, y, z] i := id rfl
theorem idxT1 (s : S) (x : D) (i : Int) : fIdx s (.tup [x]) (.int i) = atI [x] i := id rfl
theorem lc_nil (t : TD) (gt : GT) (ge : GE) (ρ : J.Env) (s : S) : lcLoop t gt ge ρ [] s = .ok [] s := rfl
theorem ldo_ok (h : LawAt s q ds P t) (hc : c < P.length) (hp : p < (csAt P c).length) (hnd : (coAt t c).dn p = false) : ∃ s', F_law_do [.obj (q + P.length + 1), evD (c, p)] s = .ok .non s' ∧ LawAt s' q ds P (doP P t (c, p)) ∧ FrL q P.length s s' := by
  have m3 := h.po.m
  have hdl : p < (coAt t c).done.length := by rw [(h.ok.co c hc).ld]; exact hp
  have htl : p < (coAt t c).taken.length := by rw [(h.ok.co c hc).lt]; exact hp
  have hcl : c < t.cos.length := by rw [h.ok.lc]; exact hc
  have e0 := core_ix' s hp
  have e1 : (csAt P c)[p]? = some (csAt P c)[p] := List.getElem?_eq_getElem hp
  have e3 := fun s => objs_ix s (fun i => q + i) hc
  have eT := fun s => objs_ix s (fun i => q + P.length + 2 + i) hc
  have k1 := h.toLawW.setDn hc ((coAt t c).done.set p true) (by simp [(h.ok.co c hc).ld])
  have pd : putL s (.obj (q + c)) (.int p) (.bl true) = some (s.set (q + c) (.lst (((coAt t c).done.set p true).map D.bl))) := by
    rw [putO (h.dn c hc) (by simpa using hdl), List.map_set]
  -- the dicts of what was taken, after the first store
  have tk1 : ∀ i, i < P.length → ∃ ks, (s.set (q + c) (.lst (((coAt t c).done.set p true).map D.bl)))[q + P.length + 2 + i]? = some (.dic (kvD (coAt t i) ks)) ∧ TookK (csAt P i) (coAt t i) ks := fun i hi => by
    obtain ⟨ks, h1, h2⟩ := h.ex i hi
    exact ⟨ks, by rw [List.getElem?_set_ne (by omega)]; exact h1, h2⟩
  have t0n := doP_tk0 (e := (c, p)) h.ok h.t0 hc hp
  have okn := doP_ok (e := (c, p)) h.ok hc hp
  generalize hs1 : s.set (q + c) (.lst (((coAt t c).done.set p true).map D.bl)) = s1 at k1 pd tk1
  generalize ht1 : (⟨t.cos.set c ⟨(coAt t c).done.set p true, (coAt t c).taken, (coAt t c).ends⟩, t.cells⟩ : St) = t1 at k1
  have fr1 : FrL q P.length s s1 := by rw [← hs1]; exact FrL.set (by omega)
  have c1 : coAt t1 c = ⟨(coAt t c).done.set p true, (coAt t c).taken, (coAt t c).ends⟩ := by rw [← ht1, coAt_set hcl, if_pos rfl]
  have ci1 : ∀ i, i ≠ c → coAt t1 i = coAt t i := fun i hi => by rw [← ht1, coAt_set hcl, if_neg hi]
  have ce1 : t1.cells = t.cells := by rw [← ht1]
  have set2 : ∀ x, t1.cos.set c x = t.cos.set c x := fun x => by rw [← ht1]; simp
  have hcl1 : c < t1.cos.length := by rw [← ht1]; simpa using hcl
  have hr := h.toLawW.insOk hc hp
  -- the end, where p is no reading
  have fin : ∀ (s2 : S) (t2 : St), LawW s2 q ds P t2 → t2 = doP P t (c, p) → (∀ r x, (csAt P c)[p]? ≠ some (.read r x)) → (∀ i, i < P.length → s2[q + P.length + 2 + i]? = s1[q + P.length + 2 + i]?) → (coAt t2 c).done = (coAt t c).done.set p true → (coAt t2 c).taken = (coAt t c).taken → (∀ i, i ≠ c → coAt t2 i = coAt t i) → LawAt s2 q ds P (doP P t (c, p)) := fun s2 t2 w et hno eq hd2 ht2 hi2 => by
    subst et
    refine ⟨w, t0n, fun i hi => ?_⟩
    obtain ⟨ks, h1, h2⟩ := tk1 i hi
    refine ⟨ks, ?_, ?_⟩
    · rw [eq i hi, h1]
      by_cases ei : i = c
      · subst ei
        have := kvD_congr (co := coAt t i) (co' := coAt (doP P t (i, p)) i) (ks := ks) fun k _ => by simp only [Co.tk, ht2]
        rw [this]
      · rw [hi2 i ei]
    · by_cases ei : i = c
      · subst ei
        have := took_set (tk := (coAt (doP P t (i, p)) i).taken) (e := (coAt (doP P t (i, p)) i).ends) h2 hdl hno
        rw [← hd2] at this
        exact this
      · rw [hi2 i ei]; exact h2
  cases e : (csAt P c)[p] with
  | read r x =>
    rw [e] at e0 e1 hr; simp only [Ins.enc] at e0
    obtain ⟨_, _, x0, x3⟩ := hr
    have hl := h.toLawW.len hc
    have e4 := law_last_w s1 (Nat.le_of_lt hp) hl x
    have ec := k1.cells_ix x0 x3
    rw [ce1] at ec
    obtain ⟨ks, q1, q2⟩ := tk1 c hc
    have hpk : p ∉ ks := fun z => by
      have := ((q2.mem p).mp z).2.2
      rw [hnd] at this; cases this
    have ql := took_len q2
    have pt : ∀ v : Int, putKD (kvD (coAt t c) ks) (.inl (p : Int)) (.int v) = kvD (coAt t c) ks ++ [((.inl (p : Int) : Key), .int v)] := fun v => putK_new _ _ _ _ hpk
    have qd := dicO q1
    have qf : (kvD (coAt t c) ks).length + 1 ≤ 16777216 := by rw [kvD_len]; omega
    have hco : coAt (doP P t (c, p)) c = ⟨(coAt t c).done.set p true, (coAt t c).taken.set p (seenC (csAt P c) (coAt t c) t.cells p x), (coAt t c).ends⟩ := by
      show coAt ⟨t.cos.set c _, _⟩ c = _
      rw [coAt_set hcl, if_pos rfl]
      simp [doC, e1]
    have hci : ∀ i, i ≠ c → coAt (doP P t (c, p)) i = coAt t i := fun i hi => by
      show coAt ⟨t.cos.set c _, _⟩ i = _
      rw [coAt_set hcl, if_neg hi]
    have hcells : (doP P t (c, p)).cells = t.cells := by simp [doP, doC, e1]
    -- what is put
    have fin2 : LawAt (s1.set (q + P.length + 2 + c) (.dic (kvD (coAt t c) ks ++ [((.inl (p : Int) : Key), .int (seenC (csAt P c) (coAt t c) t.cells p x))]))) q ds P (doP P t (c, p)) := by
      have hlen : q + P.length + 2 + c < s1.length := (List.getElem?_eq_some_iff.mp q1).1
      have tks : (coAt (doP P t (c, p)) c).tk p = seenC (csAt P c) (coAt t c) t.cells p x := by
        rw [hco]
        simp [Co.tk, htl]
      have tkn : ∀ k ∈ ks, (coAt (doP P t (c, p)) c).tk k = (coAt t c).tk k := fun k hk => by
        have : ¬ p = k := fun z => hpk (z ▸ hk)
        rw [hco]
        simp [Co.tk, List.getElem?_set, this]
      have ex : ∀ i, i < P.length → ∃ ks', (s1.set (q + P.length + 2 + c) (.dic (kvD (coAt t c) ks ++ [((.inl (p : Int) : Key), .int (seenC (csAt P c) (coAt t c) t.cells p x))])))[q + P.length + 2 + i]? = some (.dic (kvD (coAt (doP P t (c, p)) i) ks')) ∧ TookK (csAt P i) (coAt (doP P t (c, p)) i) ks' := fun i hi => by
        by_cases ei : i = c
        · subst ei
          refine ⟨ks ++ [p], ?_, ?_⟩
          · rw [List.getElem?_set_self hlen]
            have : kvD (coAt (doP P t (i, p)) i) (ks ++ [p]) = kvD (coAt t i) ks ++ [((.inl (p : Int) : Key), .int (seenC (csAt P i) (coAt t i) t.cells p x))] := by
              unfold kvD
              have hm : ks.map (fun (k : Nat) => ((.inl (k : Int) : Key), D.int ((coAt (doP P t (i, p)) i).tk k))) = ks.map (fun (k : Nat) => ((.inl (k : Int) : Key), D.int ((coAt t i).tk k))) := List.map_congr_left fun k hk => by rw [tkn k hk]
              rw [List.map_append, List.map_cons, List.map_nil, tks, hm]
            rw [this]
          · refine ⟨List.nodup_append.mpr ⟨q2.nd, by simp, fun a ha b hb => by
              have : b = p := by simpa using hb
              subst this
              exact fun z => hpk (z ▸ ha)⟩, fun k => ?_⟩
            have dnk : (coAt (doP P t (i, p)) i).dn k = if k = p then true else (coAt t i).dn k := by
              rw [hco]; exact dn_set hdl
            rw [List.mem_append, q2.mem k, dnk]
            constructor
            · rintro (⟨a, b, d⟩ | hk)
              · exact ⟨a, b, by rw [d]; simp⟩
              · have : k = p := by simpa using hk
                subst this
                exact ⟨hp, ⟨r, x, e1⟩, by simp⟩
            · rintro ⟨a, b, d⟩
              by_cases hk : k = p
              · right; simp [hk]
              · rw [if_neg hk] at d
                exact .inl ⟨a, b, d⟩
        · obtain ⟨ks', h1, h2⟩ := tk1 i hi
          rw [hci i ei, List.getElem?_set_ne (by omega)]
          exact ⟨ks', h1, h2⟩
      refine ⟨⟨h.hd, h.po, h.l99, okn, ?_, fun i hi => ?_, ?_, fun i hi => weak_tk t0n hi (ex i hi), ?_⟩, t0n, ex⟩
      · rw [List.getElem?_set_ne (by omega)]; exact k1.dic
      · rw [List.getElem?_set_ne (by omega), k1.dn i hi]
        by_cases ei : i = c
        · subst ei; rw [hco, c1]
        · rw [hci i ei, ci1 i ei]
      · rw [List.getElem?_set_ne (by omega), k1.ce, ce1, hcells]
      · rw [List.getElem?_set_ne (by omega), k1.en]
        have hm : (List.range P.length).map (fun i => D.int (lawEnd (csAt P i).length (coAt t1 i).ends : Int)) = (List.range P.length).map (fun i => D.int (lawEnd (csAt P i).length (coAt (doP P t (c, p)) i).ends : Int)) := List.map_congr_left fun i _ => by
          by_cases ei : i = c
          · subst ei; rw [hco, c1]
          · rw [hci i ei, ci1 i ei]
        rw [hm]
    refine ⟨_, ?_, fin2, fr1.trans (FrL.set ⟨by omega, by omega⟩)⟩
    have q0 : fIdx s (.obj (q + c)) (.int p) = some (.bl false) := by have := h.toLawW.done_ix hc hp; rw [hnd] at this; exact this
    cases eo : lastP (wrP (csAt P c) x) p with
    | none =>
      rw [eo] at e4
      have hs : seenC (csAt P c) (coAt t c) t.cells p x = cellAt t.cells x := by simp [seenC, eo]
      rw [hs] at *
      simp [F_law_do, b_law_do, evD, h.d, k1.d, prog_ix s hc, prog_ix s1 hc, e0, e3, eT, pd, eqD_str, inL2, idxT3, idxT1, i1, i2, e4, ec, eq_nil0, qd, pt, qf, lc_nil, -ap_idxL, -ap_idxO, -ap_idxT]
    | some k =>
      rw [eo] at e4
      obtain ⟨hk, hw⟩ := lastP_lt eo
      have hk2 : k < (csAt P c).length := by omega
      have e5 := k1.done_ix hc hk2
      have hne : k ≠ p := by omega
      rw [c1, dn_set hdl, if_neg hne] at e5
      have wr := lwritten_ok k1 hc hk2 (by
        unfold wrP at hw
        rw [List.getElem?_eq_getElem hk2] at hw
        cases e : (csAt P c)[k] <;> rw [e] at hw <;> first | rfl | cases hw)
      rw [c1, writtenC_done] at wr
      have ix : fIdx s1 (.lst [.int (k : Int)]) (.int 0) = some (.int k) := rfl
      cases hd : (coAt t c).dn k with
      | true =>
        rw [hd] at e5
        have hs : seenC (csAt P c) (coAt t c) t.cells p x = cellAt t.cells x := by simp [seenC, eo, hd]
        rw [hs] at *
        simp [F_law_do, b_law_do, evD, h.d, k1.d, prog_ix s hc, prog_ix s1 hc, e0, e3, eT, pd, eqD_str, inL2, idxT3, idxT1, i1, i2, e4, ec, eq_nil0, qd, pt, qf, e5, lc_cons, lc_nil, -ap_idxL, -ap_idxO, -ap_idxT]
      | false =>
        rw [hd] at e5
        have hs : seenC (csAt P c) (coAt t c) t.cells p x = writtenC (csAt P c) (coAt t c) k := by simp [seenC, eo, hd]
        rw [hs] at *
        simp [F_law_do, b_law_do, evD, h.d, k1.d, prog_ix s hc, prog_ix s1 hc, e0, e3, eT, pd, eqD_str, inL2, idxT3, idxT1, i1, i2, e4, ec, ne_one, qd, pt, qf, e5, lc_cons, lc_nil, wr, ix, -ap_idxL, -ap_idxO, -ap_idxT]
  | write x n =>
    rw [e] at e0 e1 hr; simp only [Ins.enc] at e0
    obtain ⟨x0, x3⟩ := hr
    have es := lwritten_ok k1 hc hp (by rw [e]; rfl)
    rw [c1, writtenC_done] at es
    have pt : ∀ v : Int, putL s1 (.obj (q + P.length)) (.int x) (.int v) = some (s1.set (q + P.length) (.lst ((t.cells.set x.toNat v).map D.int))) := fun v => by
      obtain ⟨k, rfl⟩ := Int.eq_ofNat_of_zero_le x0
      rw [putO k1.ce (by rw [ce1, List.length_map, h.ok.l3]; omega), ce1, List.map_set]; rfl
    have k2 := k1.setCe (t.cells.set x.toNat (writtenC (csAt P c) (coAt t c) p)) (by simp [h.ok.l3])
    have hdo : (⟨t1.cos, t.cells.set x.toNat (writtenC (csAt P c) (coAt t c) p)⟩ : St) = doP P t (c, p) := by
      rw [← ht1]
      simp [doP, doC, e1, writtenC]
    refine ⟨_, ?_, fin _ _ k2 hdo (fun r x z => by rw [e1] at z; cases z) (fun i hi => by rw [List.getElem?_set_ne (by omega)]) (by show (coAt t1 c).done = _; rw [c1]) (by show (coAt t1 c).taken = _; rw [c1]) ci1, fr1.trans (FrL.set ⟨by omega, by omega⟩)⟩
    simp [F_law_do, b_law_do, evD, h.d, k1.d, prog_ix s hc, prog_ix s1 hc, e0, e3, eT, pd, eqD_str, inL2, idxT3, idxT1, i1, i2, es, pt, -ap_idxL, -ap_idxO, -ap_idxT]
  | copy x r =>
    rw [e] at e0 e1 hr; simp only [Ins.enc] at e0
    obtain ⟨x0, x3⟩ := hr
    have es := lwritten_ok k1 hc hp (by rw [e]; rfl)
    rw [c1, writtenC_done] at es
    have pt : ∀ v : Int, putL s1 (.obj (q + P.length)) (.int x) (.int v) = some (s1.set (q + P.length) (.lst ((t.cells.set x.toNat v).map D.int))) := fun v => by
      obtain ⟨k, rfl⟩ := Int.eq_ofNat_of_zero_le x0
      rw [putO k1.ce (by rw [ce1, List.length_map, h.ok.l3]; omega), ce1, List.map_set]; rfl
    have k2 := k1.setCe (t.cells.set x.toNat (writtenC (csAt P c) (coAt t c) p)) (by simp [h.ok.l3])
    have hdo : (⟨t1.cos, t.cells.set x.toNat (writtenC (csAt P c) (coAt t c) p)⟩ : St) = doP P t (c, p) := by
      rw [← ht1]
      simp [doP, doC, e1, writtenC]
    refine ⟨_, ?_, fin _ _ k2 hdo (fun r x z => by rw [e1] at z; cases z) (fun i hi => by rw [List.getElem?_set_ne (by omega)]) (by show (coAt t1 c).done = _; rw [c1]) (by show (coAt t1 c).taken = _; rw [c1]) ci1, fr1.trans (FrL.set ⟨by omega, by omega⟩)⟩
    simp [F_law_do, b_law_do, evD, h.d, k1.d, prog_ix s hc, prog_ix s1 hc, e0, e3, eT, pd, eqD_str, inL2, idxT3, idxT1, i1, i2, es, pt, -ap_idxL, -ap_idxO, -ap_idxT]
  | guard r n =>
    rw [e] at e0 e1; simp only [Ins.enc] at e0
    have es := lword_ok k1 hc (Nat.le_of_lt hp) r
    rw [c1, wordC_done] at es
    cases hw : (wordC (csAt P c) (coAt t c) p r == n) with
    | true =>
      have hw2 : wordC (csAt P c) (coAt t c) p r = n := by simpa using hw
      have hdo : t1 = doP P t (c, p) := by
        rw [← ht1]
        simp [doP, doC, e1, hw2]
      refine ⟨s1, ?_, fin _ _ k1 hdo (fun r x z => by rw [e1] at z; cases z) (fun i hi => rfl) (by show (coAt t1 c).done = _; rw [c1]) (by show (coAt t1 c).taken = _; rw [c1]) ci1, fr1⟩
      simp [F_law_do, b_law_do, evD, h.d, k1.d, prog_ix s hc, prog_ix s1 hc, e0, e3, eT, pd, eqD_str, inL2, idxT3, idxT1, i1, i2, es, hw, -ap_idxL, -ap_idxO, -ap_idxT]
    | false =>
      have hw2 : ¬ wordC (csAt P c) (coAt t c) p r = n := by simpa using hw
      have pt : putL s1 (.obj (q + 2 * P.length + 2)) (.int c) (.int p) = some (s1.set (q + 2 * P.length + 2) (.lst (((List.range P.length).map fun i => D.int (lawEnd (csAt P i).length (coAt t1 i).ends : Int)).set c (.int (p : Int))))) := by
        rw [putO k1.en (by rw [List.length_map, List.length_range]; exact hc)]
      have k2 := k1.setEn hc p hp
      have hdo : (⟨t1.cos.set c ⟨(coAt t1 c).done, (coAt t1 c).taken, p⟩, t1.cells⟩ : St) = doP P t (c, p) := by
        simp [doP, doC, e1, c1, ce1, set2, hw2]
      refine ⟨_, ?_, fin _ _ k2 hdo (fun r x z => by rw [e1] at z; cases z) (fun i hi => by rw [List.getElem?_set_ne (by omega)]) (by rw [coAt_set hcl1, if_pos rfl, c1]) (by rw [coAt_set hcl1, if_pos rfl, c1]) (fun i hi => by rw [coAt_set hcl1, if_neg hi, ci1 i hi]), fr1.trans (FrL.set ⟨by omega, by omega⟩)⟩
      simp [F_law_do, b_law_do, evD, h.d, k1.d, prog_ix s hc, prog_ix s1 hc, e0, e3, eT, pd, eqD_str, inL2, idxT3, idxT1, i1, i2, es, hw, pt, -ap_idxL, -ap_idxO, -ap_idxT]
  | fence =>
    rw [e] at e0 e1; simp only [Ins.enc] at e0
    have hdo : t1 = doP P t (c, p) := by
      rw [← ht1]
      simp [doP, doC, e1]
    refine ⟨s1, ?_, fin _ _ k1 hdo (fun r x z => by rw [e1] at z; cases z) (fun i hi => rfl) (by show (coAt t1 c).done = _; rw [c1]) (by show (coAt t1 c).taken = _; rw [c1]) ci1, fr1⟩
    simp [F_law_do, b_law_do, evD, h.d, k1.d, prog_ix s hc, prog_ix s1 hc, e0, e3, eT, pd, eqD_str, inL2, idxT3, idxT1, i1, i2,  -ap_idxL, -ap_idxO, -ap_idxT]
end
end G


set_option Elab.async false
set_option linter.all false
set_option maxRecDepth 100000
set_option maxHeartbeats 4000000
namespace G
open PySem PySem.Spec L2 J
def rdAny (cs : List Ins) (k : Nat) : Bool := match cs[k]? with | some (.read _ _) => true | _ => false
def tookL (cs : List Ins) (c : Co) : List Nat := (List.range cs.length).filter fun k => rdAny cs k && c.dn k
def regF (cs : List Ins) (c : Co) (r : Int) (l : List Nat) : Int := match (l.filter (rdP cs r)).getLast? with | some k => c.tk k | none => 0
theorem regF_snoc (cs : List Ins) (c : Co) (r : Int) (l : List Nat) (k : Nat) : regF cs c r (l ++ [k]) = if rdP cs r k then c.tk k else regF cs c r l := by
  unfold regF
  rw [List.filter_append]
  cases h : rdP cs r k with
  | true => simp [h]
  | false => simp [h]
theorem rdAny_of {cs : List Ins} {r : Int} {k : Nat} (h : rdP cs r k = true) : rdAny cs k = true := by
  obtain ⟨r, x, e⟩ := rdP_read h
  simp [rdAny, e]
theorem regF_all (cs : List Ins) (c : Co) (r : Int) : regF cs c r (tookL cs c) = regC cs c r := by
  unfold regF regC lastP tookL
  rw [List.filter_filter]
  have : (List.range cs.length).filter (fun a => rdP cs r a && (rdAny cs a && c.dn a)) = (List.range cs.length).filter (fun k => rdP cs r k && c.dn k) := List.filter_congr fun k _ => by
    cases h : rdP cs r k with
    | false => rfl
    | true => rw [rdAny_of h]; rfl
  rw [this]
  try rfl
theorem range_up (n : Nat) : (List.range n).Pairwise (· < ·) := List.pairwise_lt_range
theorem took_sort {cs : List Ins} {c : Co} {ks : List Nat} (h : TookK cs c ks) : sortI (ks.map fun (k : Nat) => (k : Int)) = (tookL cs c).map fun (k : Nat) => (k : Int) := by
  have hp : ks.Perm (tookL cs c) := by
    refine (List.perm_ext_iff_of_nodup h.nd ?_).mpr fun k => ?_
    · exact (List.nodup_range).filter _
    · rw [h.mem k]
      simp only [tookL, List.mem_filter, List.mem_range, Bool.and_eq_true]
      refine and_congr_right fun _ => and_congr_left fun _ => ?_
      unfold rdAny
      constructor
      · rintro ⟨r, x, e⟩; rw [e]
      · intro z
        split at z
        · rename_i r x e; exact ⟨r, x, e⟩
        · cases z
  refine sort_uniq ((sortI_perm _).trans (hp.map _)) (sortI_up _) ?_
  have h1 : (tookL cs c).Pairwise (· < ·) := (range_up _).filter _
  refine List.pairwise_map.mpr (h1.imp fun {a b} z => by omega)
section
variable {s : S} {q : Nat} {ds : List Str} {P : Prog} {t : St} {c p : Nat}
theorem LawAt.app (h : LawAt s q ds P t) (tl : S) : LawAt (s ++ tl) q ds P t := h.ext fun k h1 h2 => by
  have : k < s.length := by
    have := (List.getElem?_eq_some_iff.mp h.en).1
    omega
  rw [List.getElem?_append_left this]
def b_lout1 : GS := (sSetIx (gOp2 fDGet (gOp2 fIdx (gOp2 fDGet (gVar 0) (gC (.str (PySem.Str.ofString "took")))) (gVar 2)) (gVar 4)) (gVar 3) (gOp2 fIdx (gOp2 fIdx (gOp2 fIdx (gOp2 fDGet (gVar 0) (gC (.str (PySem.Str.ofString "program")))) (gVar 2)) (gVar 4)) (gC (.int 1))))
theorem lout_loop1 (h : LawAt s q ds P t) (hc : c < P.length) (f : D) (x : Option D) (hw : q + 3 + 2 * P.length ≤ s.length) : ∃ y, forLoop (dName 4) b_lout1 ((tookL (csAt P c) (coAt t c)).map fun (k : Nat) => D.int (k : Int)) [some (.obj (q + P.length + 1)), some f, some (.int (c : Int)), some (.obj s.length), x] (s ++ [.lst [.int 0, .int 0]]) =
    .ok (.nx [some (.obj (q + P.length + 1)), some f, some (.int (c : Int)), some (.obj s.length), y]) (s ++ [.lst [.int (regC (csAt P c) (coAt t c) 0), .int (regC (csAt P c) (coAt t c) 1)]]) := by
  obtain ⟨ρ', s', h1, ⟨y, rfl⟩, rfl⟩ := forIdx (t := dName 4) (b := b_lout1) ((tookL (csAt P c) (coAt t c)).map fun (k : Nat) => D.int (k : Int)) (fun j ρ s1 => (∃ y, ρ = [some (.obj (q + P.length + 1)), some f, some (.int (c : Int)), some (.obj s.length), y]) ∧ s1 = s ++ [.lst [.int (regF (csAt P c) (coAt t c) 0 ((tookL (csAt P c) (coAt t c)).take j)), .int (regF (csAt P c) (coAt t c) 1 ((tookL (csAt P c) (coAt t c)).take j))]])
    [some (.obj (q + P.length + 1)), some f, some (.int (c : Int)), some (.obj s.length), x] (s ++ [.lst [.int 0, .int 0]]) ⟨⟨x, rfl⟩, rfl⟩ fun j hj ρ s1 ⟨⟨y, e1⟩, e2⟩ => by
    subst e1
    have hj2 : j < (tookL (csAt P c) (coAt t c)).length := by simpa using hj
    rw [List.take_succ_eq_append_getElem hj2, regF_snoc, regF_snoc]
    have hm : (tookL (csAt P c) (coAt t c))[j] ∈ tookL (csAt P c) (coAt t c) := List.getElem_mem hj2
    have hx : ((tookL (csAt P c) (coAt t c)).map fun (k : Nat) => D.int (k : Int))[j] = D.int (((tookL (csAt P c) (coAt t c))[j] : Nat) : Int) := by simp
    rw [hx]
    generalize (tookL (csAt P c) (coAt t c))[j] = k at hm
    generalize regF (csAt P c) (coAt t c) 0 ((tookL (csAt P c) (coAt t c)).take j) = r0 at e2
    generalize regF (csAt P c) (coAt t c) 1 ((tookL (csAt P c) (coAt t c)).take j) = r1 at e2
    have hm2 : k < (csAt P c).length ∧ rdAny (csAt P c) k = true ∧ (coAt t c).dn k = true := by simpa [tookL] using hm
    obtain ⟨hk, hra, hdn⟩ := hm2
    have h' : LawAt s1 q ds P t := by rw [e2]; exact h.app _
    obtain ⟨ks, g1, g2⟩ := h'.ex c hc
    have hrd : ∃ r x, (csAt P c)[k]? = some (.read r x) := by
      unfold rdAny at hra
      split at hra
      · rename_i r x e; exact ⟨r, x, e⟩
      · cases hra
    have hks : k ∈ ks := (g2.mem k).mpr ⟨hk, hrd, hdn⟩
    have g3 : valD (kvD (coAt t c) ks) (.inl (k : Int)) = some (.int ((coAt t c).tk k)) := by rw [valD_kvD, if_pos hks]
    have g4 := dicO g1
    have eT := fun s => objs_ix s (fun i => q + P.length + 2 + i) hc
    have e0 := core_ix' s1 hk
    have d1 : (csAt P c)[k]? = some (csAt P c)[k] := List.getElem?_eq_getElem hk
    have lw : s1[s.length]? = some (.lst [.int r0, .int r1]) := by rw [e2]; simp
    have st : ∀ u, s1.set s.length u = s ++ [u] := fun u => by rw [e2]; simp
    have hr := h.toLawW.insOk hc hk
    refine ⟨_, [some (.obj (q + P.length + 1)), some f, some (.int (c : Int)), some (.obj s.length), some (.int (k : Int))], _, rfl, ?_, ⟨_, rfl⟩, rfl⟩
    obtain ⟨r, x, e⟩ := hrd
    rw [d1] at e
    have e := Option.some.inj e
    rw [e] at e0 d1 hr; simp only [Ins.enc] at e0
    obtain ⟨rr0, rr2, _, _⟩ := hr
    have rd : ∀ z : Int, rdP (csAt P c) z k = (r == z) := fun z => by simp [rdP, d1]
    have hr2 : r = 0 ∨ r = 1 := by omega
    have putw : putL s1 (.obj s.length) (.int r) (.int ((coAt t c).tk k)) = some (s ++ [.lst ([.int r0, .int r1].set r.toNat (.int ((coAt t c).tk k)))]) := by
      obtain ⟨z, rfl⟩ := Int.eq_ofNat_of_zero_le rr0
      rw [putO lw (by simp; omega), st]; rfl
    rcases hr2 with rfl | rfl
    · simp [b_lout1, h'.d, prog_ix _ hc, e0, eT, g4, g3, i1, i2, rd, putw, idxT3, -ap_idxT, -ap_idxO, -ap_idxL]
    · simp [b_lout1, h'.d, prog_ix _ hc, e0, eT, g4, g3, i1, i2, rd, putw, idxT3, -ap_idxT, -ap_idxO, -ap_idxL]
  refine ⟨y, ?_⟩
  rw [h1]
  have : (tookL (csAt P c) (coAt t c)).take ((tookL (csAt P c) (coAt t c)).map fun (k : Nat) => D.int (k : Int)).length = tookL (csAt P c) (coAt t c) := by rw [List.length_map, List.take_length]
  rw [this, regF_all, regF_all]
def b_lout2 : GS := (sSeq (sAsg (gLstM (gaCons (gC (.int 0)) (gaCons (gC (.int 0)) (gaNil)))) (dName 3)) (sSeq (sFor (dName 4) (gItems (gF (f1 fSortI) (gaCons (gF (f1 fKeys) (gaCons (gOp2 fIdx (gOp2 fDGet (gVar 0) (gC (.str (PySem.Str.ofString "took")))) (gVar 2)) (gaNil))) (gaNil)))) (sSetIx (gOp2 fDGet (gOp2 fIdx (gOp2 fDGet (gVar 0) (gC (.str (PySem.Str.ofString "took")))) (gVar 2)) (gVar 4)) (gVar 3) (gOp2 fIdx (gOp2 fIdx (gOp2 fIdx (gOp2 fDGet (gVar 0) (gC (.str (PySem.Str.ofString "program")))) (gVar 2)) (gVar 4)) (gC (.int 1))))) (sExpr (gApp (gVar 1) (gF (f1 fTuple) (gaCons (gVar 3) (gaNil)))))))
theorem keys_ints (co : Co) (ks : List Nat) : (kvD co ks).map (fun kv => keyDD kv.1) = (ks.map fun (k : Nat) => (k : Int)).map D.int := by simp [kvD, keyDD, Function.comp_def]
theorem lout_loop2 (h : LawAt s q ds P t) (hw : q + 3 + 2 * P.length ≤ s.length) (x2 x3 x4 : Option D) : ∃ y2 y3 y4 W, forLoop (dName 2) b_lout2 (rangeD 0 (P.length : Int)) [some (.obj (q + P.length + 1)), some (.obj s.length), x2, x3, x4] (s ++ [.lst []]) =
    .ok (.nx [some (.obj (q + P.length + 1)), some (.obj s.length), y2, y3, y4]) (s ++ (.lst ((List.range P.length).map (regD P t)) :: W)) := by
  obtain ⟨ρ', s', h1, ⟨y2, y3, y4, rfl⟩, ⟨W, rfl⟩⟩ := forNat (t := dName 2) (b := b_lout2) P.length (fun k ρ s1 => (∃ y2 y3 y4, ρ = [some (.obj (q + P.length + 1)), some (.obj s.length), y2, y3, y4]) ∧ ∃ W, s1 = s ++ (.lst ((List.range k).map (regD P t)) :: W))
    [some (.obj (q + P.length + 1)), some (.obj s.length), x2, x3, x4] (s ++ [.lst []]) ⟨⟨x2, x3, x4, rfl⟩, [], rfl⟩ fun k hk ρ s1 ⟨⟨y2, y3, y4, e1⟩, W, e2⟩ => by
    subst e1 e2
    generalize hs1 : s ++ (IO.lst ((List.range k).map (regD P t)) :: W) = s1
    have h' : LawAt s1 q ds P t := by rw [← hs1]; exact h.app _
    have hw1 : q + 3 + 2 * P.length ≤ s1.length := by rw [← hs1]; simp; omega
    obtain ⟨y, e3⟩ := lout_loop1 h' hk (.obj s.length) y4 hw1
    unfold b_lout1 at e3
    have m3 := h.po.m
    have hl := h.toLawW.len50 hk
    generalize hs2 : s1 ++ [IO.lst [.int (regC (csAt P k) (coAt t k) 0), .int (regC (csAt P k) (coAt t k) 1)]] = s2 at e3
    have g1 : s2[s.length]? = some (.lst ((List.range k).map (regD P t))) := by rw [← hs2, ← hs1]; simp
    have g2 : s2[s1.length]? = some (.lst [.int (regC (csAt P k) (coAt t k) 0), .int (regC (csAt P k) (coAt t k) 1)]) := by rw [← hs2]; simp
    have g3 := itemsO g2
    generalize hs0 : s1 ++ [IO.lst [.int 0, .int 0]] = s0 at e3
    have h0 : LawAt s0 q ds P t := by rw [← hs0]; exact h'.app _
    obtain ⟨ks, c1, c2⟩ := h0.ex k hk
    have c3 := dicO c1
    have eT := objs_ix s0 (fun i => q + P.length + 2 + i) hk
    have hkl := took_len c2
    have fk : fKeys s0 (.obj (q + P.length + 2 + k)) = some (.lst ((ks.map fun (k : Nat) => (k : Int)).map D.int)) := by
      simp only [fKeys, c3, Option.map_some, keys_ints]
    have fs : fSortI s0 (.lst ((ks.map fun (k : Nat) => (k : Int)).map D.int)) = some (.lst ((tookL (csAt P k) (coAt t k)).map fun (k : Nat) => D.int (k : Int))) := by
      have hlt : (ks.map fun (k : Nat) => (k : Int)).length < 64 := by rw [List.length_map]; omega
      simp only [fSortI, itemsL, Option.bind_some, intsD_map, decide_eq_true hlt, if_true, took_sort c2]
      rw [List.map_map]; rfl
    refine ⟨_, [some (.obj (q + P.length + 1)), some (.obj s.length), some (.int (k : Int)), some (.obj s1.length), y], _, rfl, ?_, ⟨_, _, _, rfl⟩, W ++ [.lst [.int (regC (csAt P k) (coAt t k) 0), .int (regC (csAt P k) (coAt t k) 1)]], rfl⟩
    have hf : k + 1 ≤ 16777216 := by omega
    have ef : s2.set s.length (.lst ((List.range (k + 1)).map (regD P t))) = s ++ (IO.lst ((List.range (k + 1)).map (regD P t)) :: (W ++ [.lst [.int (regC (csAt P k) (coAt t k) 0), .int (regC (csAt P k) (coAt t k) 1)]])) := by
      rw [← hs2, ← hs1]; simp
    rw [← ef, List.range_succ, List.map_append]
    simp only [List.map_map] at fk fs
    simp [b_lout2, hs0, h0.d, eT, fk, fs, e3, g1, g2, g3, hf, regD, -ap_idxO, -ap_idxL]
  exact ⟨y2, y3, y4, W, h1⟩
theorem loutcome_ok (h : LawAt s q ds P t) (hw : q + 3 + 2 * P.length ≤ s.length) : ∃ W, F_law_outcome [.obj (q + P.length + 1)] s = .ok (outD P t) (s ++ W) := by
  obtain ⟨y2, y3, y4, W, e⟩ := lout_loop2 h hw none none none
  have h' := h.app [.lst []]
  have h2 := h.app (.lst ((List.range P.length).map (regD P t)) :: W)
  have hr := okR_nat (show P.length ≤ 1000000 by have := h.po.m; omega)
  refine ⟨IO.lst ((List.range P.length).map (regD P t)) :: W, ?_⟩
  unfold b_lout2 at e
  generalize hs2 : s ++ (IO.lst ((List.range P.length).map (regD P t)) :: W) = s2 at e h2 ⊢
  have g1 : s2[s.length]? = some (.lst ((List.range P.length).map (regD P t))) := by rw [← hs2]; simp
  have g2 := itemsO g1
  have g3 := itemsO h2.ce
  simp [F_law_outcome, b_law_outcome, h'.d, prog_len, hr, e, h2.d, g2, g3, outD, outP, regD, Function.comp_def]
end
end G


set_option Elab.async false
set_option linter.all false
set_option maxRecDepth 100000
set_option maxHeartbeats 4000000
namespace G
open PySem PySem.Spec L2 J
section
variable {s : S} {q : Nat} {ds : List Str} {P : Prog} {t : St} {c p : Nat}
def lawS (s : S) (ds : List Str) (P : Prog) : S := s ++ (P.map doneO ++ (.lst [.int 0, .int 0, .int 0] :: .dic (lawFs s.length P.length ds P) :: (P.map (fun _ => IO.dic []) ++ [.lst (List.replicate P.length (.int 99))])))
theorem lawS_at (hd : ds.Sublist names) (po : ProgOk P) (l50 : ∀ cs ∈ P, cs.length ≤ 50) : LawAt (lawS s ds P) s.length ds P (st0 P) := by
  have t0 : AllTk0 P (st0 P) := fun i hi => by rw [coAt_st0 hi]; exact co0_tk0 _
  have ex : ∀ i, i < P.length → ∃ ks, (lawS s ds P)[s.length + P.length + 2 + i]? = some (.dic (kvD (coAt (st0 P) i) ks)) ∧ TookK (csAt P i) (coAt (st0 P) i) ks := fun i hi => by
    refine ⟨[], ?_, List.nodup_nil, fun k => ?_⟩
    · rw [lawS, List.getElem?_append_right (by omega), show s.length + P.length + 2 + i - s.length = P.length + (i + 2) by omega, List.getElem?_append_right (by simp), List.length_map, show P.length + (i + 2) - P.length = i + 1 + 1 by omega, List.getElem?_cons_succ, List.getElem?_cons_succ, List.getElem?_append_left (by simpa using hi), List.getElem?_map, List.getElem?_eq_getElem hi]
      rfl
    · rw [coAt_st0 hi]
      constructor
      · intro z; cases z
      · rintro ⟨_, _, z⟩
        simp only [Co.dn, co0, List.getElem?_replicate] at z
        split at z <;> cases z
  refine ⟨⟨hd, po, l50, st0_ok P, ?_, fun i hi => ?_, ?_, fun i hi => weak_tk t0 hi (ex i hi), ?_⟩, t0, ex⟩
  · rw [lawS, List.getElem?_append_right (by omega), show s.length + P.length + 1 - s.length = P.length + 1 by omega, List.getElem?_append_right (by simp), List.length_map, show P.length + 1 - P.length = 0 + 1 by omega, List.getElem?_cons_succ, List.getElem?_cons_zero]
  · rw [coAt_st0 hi, csAt_get hi, lawS, List.getElem?_append_right (by omega), show s.length + i - s.length = i by omega, List.getElem?_append_left (by simpa using hi), List.getElem?_map, List.getElem?_eq_getElem hi]
    simp [doneO, co0]
  · rw [lawS, List.getElem?_append_right (by omega), show s.length + P.length - s.length = P.length by omega, List.getElem?_append_right (by simp), List.length_map, Nat.sub_self, List.getElem?_cons_zero]
    rfl
  · rw [lawS, List.getElem?_append_right (by omega), show s.length + 2 * P.length + 2 - s.length = P.length + (P.length + 2) by omega, List.getElem?_append_right (by simp), List.length_map, show P.length + (P.length + 2) - P.length = P.length + 1 + 1 by omega, List.getElem?_cons_succ, List.getElem?_cons_succ, List.getElem?_append_right (by simp)]
    have : (List.range P.length).map (fun i => D.int (lawEnd (csAt P i).length (coAt (st0 P) i).ends : Int)) = List.replicate P.length (.int 99) := by
      refine List.ext_getElem (by simp) fun i h1 h2 => ?_
      have hi : i < P.length := by simpa using h1
      simp [coAt_st0 hi, co0, lawEnd]
    rw [this]
    simp
theorem lawS_len (s : S) (ds : List Str) (P : Prog) : (lawS s ds P).length = s.length + 3 + 2 * P.length := by simp [lawS]; omega
abbrev envB (ds : List Str) (P : Prog) : J.Env := [some (.tup (ds.map .str)), some (encP P), none, none]
theorem lbegin_ok (po : ProgOk P) : F_law_begin [.tup (ds.map .str), encP P] s = .ok (.obj (s.length + P.length + 1)) (lawS s ds P) := by
  have hm := po.m
  have hP : P.length ≤ 16777216 := by omega
  have it : ∀ ρ s', ρ[1]? = some (some (encP P)) → gItems (gVar 1) ρ s' = .ok (P.map coreD) s' := fun ρ s' h => by simp [h]; rfl
  have len3 : ∀ (x y : Option D) (z : Option D) (cs : List Ins) (s' : S), gF (f1 fLen) (gaCons (gVar 3) gaNil) [x, y, z, some (coreD cs)] s' = .ok (.int (cs.length : Int)) s' := fun x y z cs s' => by simp [coreD]
  have A1 : gLc [3] (gItems (gVar 1)) (dName 3) (gYes) (gRepM (gLst (gaCons (gC (.bl false)) (gaNil))) (gF (f1 fLen) (gaCons (gVar 3) (gaNil)))) (envB ds P) s = .ok (.lst ((List.range P.length).map fun i => .obj (s.length + i))) (s ++ P.map doneO) := by
    have := lcAlloc (t := dName 3) (ge := gRepM (gLst (gaCons (gC (.bl false)) (gaNil))) (gF (f1 fLen) (gaCons (gVar 3) (gaNil)))) (ρ := envB ds P) coreD doneO P s fun cs hcs s'' => ⟨[some (.tup (ds.map .str)), some (encP P), none, some (coreD cs)], rfl, by
      rw [repM_ok (.bl false) cs.length (po.l cs hcs) _ _ _ (len3 _ _ _ cs _)]; rfl⟩
    simp only [ap_lc, it (envB ds P) s rfl, R.bd_ok, ap_fitL, List.length_map, decide_eq_true hP, if_true, ap_wipe1, ap_wipe0]
    rw [show (envB ds P).set 3 none = envB ds P from rfl, this]
    rfl
  generalize hs1 : s ++ P.map doneO = s1 at A1
  have l1 : s1.length = s.length + P.length := by rw [← hs1]; simp
  generalize hkv : ([(.inr (PySem.Str.ofString "design"), .tup (ds.map .str)), (.inr (PySem.Str.ofString "program"), encP P), (.inr (PySem.Str.ofString "done"), .lst ((List.range P.length).map fun i => .obj (s.length + i))), (.inr (PySem.Str.ofString "cells"), .obj (s.length + P.length))] : List (Key × D)) = kv0
  have hmerge : mergeD kv0 = kv0 := by rw [← hkv]; rfl
  have E1 : sAsg (gDisp [((PySem.Str.ofString "design"), gVar 0), ((PySem.Str.ofString "program"), gVar 1), ((PySem.Str.ofString "done"), gLc [3] (gItems (gVar 1)) (dName 3) (gYes) (gRepM (gLst (gaCons (gC (.bl false)) (gaNil))) (gF (f1 fLen) (gaCons (gVar 3) (gaNil))))), ((PySem.Str.ofString "cells"), gLstM (gaCons (gC (.int 0)) (gaCons (gC (.int 0)) (gaCons (gC (.int 0)) (gaNil)))))]) (dName 2) (envB ds P) s =
      .ok (.nx [some (.tup (ds.map .str)), some (encP P), some (.obj (s.length + P.length + 1)), none]) (s1 ++ [.lst [.int 0, .int 0, .int 0], .dic kv0]) := by
    simp [-ap_lc, A1, hmerge, l1, hkv]
  generalize hs2 : s1 ++ [IO.lst [.int 0, .int 0, .int 0], .dic kv0] = s2 at E1
  have l2 : s2.length = s.length + P.length + 2 := by rw [← hs2]; simp [l1]
  have A2 : gLc [3] (gItems (gVar 1)) (dName 3) (gYes) (gDic0) [some (.tup (ds.map .str)), some (encP P), some (.obj (s.length + P.length + 1)), none] s2 = .ok (.lst ((List.range P.length).map fun i => .obj (s.length + P.length + 2 + i))) (s2 ++ P.map fun _ => IO.dic []) := by
    have := lcAlloc (t := dName 3) (ge := gDic0) (ρ := [some (.tup (ds.map .str)), some (encP P), some (.obj (s.length + P.length + 1)), none]) coreD (fun _ => IO.dic []) P s2 fun cs hcs s'' => ⟨[some (.tup (ds.map .str)), some (encP P), some (.obj (s.length + P.length + 1)), some (coreD cs)], rfl, rfl⟩
    simp only [ap_lc, it [some (.tup (ds.map .str)), some (encP P), some (.obj (s.length + P.length + 1)), none] s2 rfl, R.bd_ok, ap_fitL, List.length_map, decide_eq_true hP, if_true, ap_wipe1, ap_wipe0]
    rw [show ([some (.tup (ds.map .str)), some (encP P), some (.obj (s.length + P.length + 1)), none] : J.Env).set 3 none = [some (.tup (ds.map .str)), some (encP P), some (.obj (s.length + P.length + 1)), none] from rfl, this, l2]
    rfl
  generalize hs3 : s2 ++ P.map (fun _ => IO.dic []) = s3 at A2
  have l3 : s3.length = s.length + 2 * P.length + 2 := by rw [← hs3]; simp [l2]; omega
  have A3 : gRepM (gLst (gaCons (gC (.int 99)) (gaNil))) (gF (f1 fLen) (gaCons (gVar 1) (gaNil))) [some (.tup (ds.map .str)), some (encP P), some (.obj (s.length + P.length + 1)), none] s3 = .ok (.obj (s.length + 2 * P.length + 2)) (s3 ++ [.lst (List.replicate P.length (.int 99))]) := by
    rw [repM_ok (.int 99) P.length (by omega) _ _ _ (by simp [encP]), l3]
  generalize hs4 : s3 ++ [IO.lst (List.replicate P.length (.int 99))] = s4 at A3
  have d4 : s4[s.length + P.length + 1]? = some (.dic kv0) := by
    rw [← hs4, ← hs3, ← hs2, List.append_assoc, List.append_assoc, List.getElem?_append_right (by omega), l1, show s.length + P.length + 1 - (s.length + P.length) = 0 + 1 by omega]
    simp
  have p1 : ∀ x, putKD kv0 (.inr (PySem.Str.ofString "took")) x = kv0 ++ [(.inr (PySem.Str.ofString "took"), x)] := fun x => by rw [← hkv]; rfl
  have p2 : ∀ x y, putKD (kv0 ++ [(.inr (PySem.Str.ofString "took"), x)]) (.inr (PySem.Str.ofString "ends")) y = kv0 ++ [(.inr (PySem.Str.ofString "took"), x), (.inr (PySem.Str.ofString "ends"), y)] := fun x y => by rw [← hkv]; rfl
  have kl : kv0.length = 4 := by rw [← hkv]; rfl
  have d5 : ∀ u, (s4.set (s.length + P.length + 1) u)[s.length + P.length + 1]? = some u := fun u => List.getElem?_set_self (List.getElem?_eq_some_iff.mp d4).1
  have fin : s4.set (s.length + P.length + 1) (.dic (kv0 ++ [(.inr (PySem.Str.ofString "took"), .lst ((List.range P.length).map fun i => .obj (s.length + P.length + 2 + i))), (.inr (PySem.Str.ofString "ends"), .obj (s.length + 2 * P.length + 2))])) = lawS s ds P := by
    rw [← hs4, ← hs3, ← hs2, List.append_assoc, List.append_assoc, List.set_append_right _ _ (by omega), l1, show s.length + P.length + 1 - (s.length + P.length) = 0 + 1 by omega, ← hs1]
    simp [lawS, ← hkv, lawFs]
  have E2 : sAsg2 (gTup (gaCons (gLc [3] (gItems (gVar 1)) (dName 3) (gYes) (gDic0)) (gaCons (gRepM (gLst (gaCons (gC (.int 99)) (gaNil))) (gF (f1 fLen) (gaCons (gVar 1) (gaNil)))) (gaNil)))) (d2Tup 2 (ds2Cons (d2Put (gVar 2) (gC (.str (PySem.Str.ofString "took")))) (ds2Cons (d2Put (gVar 2) (gC (.str (PySem.Str.ofString "ends")))) (ds2Nil)))) [some (.tup (ds.map .str)), some (encP P), some (.obj (s.length + P.length + 1)), none] s2 =
      .ok (.nx [some (.tup (ds.map .str)), some (encP P), some (.obj (s.length + P.length + 1)), none]) (lawS s ds P) := by
    have q1 := dicO d4
    have q2 := fun kvs => dicO (d5 (.dic kvs))
    simp [-ap_lc, A2, A3, q1, q2, p1, p2, kl, fin]
  show (sSeq _ _ (envB ds P) s).bind _ = _
  rw [seq_ok E1, seq_ok E2]
  rfl
end
end G


set_option Elab.async false
set_option linter.all false
set_option maxRecDepth 100000
set_option maxHeartbeats 4000000
namespace G
open PySem PySem.Spec L2 J
theorem alike_str (s : S) (n : Nat) (x : Str) (hx : PyData.strOk x = true) : F_law_alike (n + 1) [.str x, .str x] s = .ok (.bl true) s := by
  simp [F_law_alike, b_law_alike, isD, eqD_str _ _ _ hx hx]
theorem alike_int (s : S) (n : Nat) (x : Int) : F_law_alike (n + 1) [.int x, .int x] s = .ok (.bl true) s := by
  simp [F_law_alike, b_law_alike, isD]
theorem alike_bl (s : S) (n : Nat) (x : Bool) : F_law_alike (n + 1) [.bl x, .bl x] s = .ok (.bl true) s := by
  simp [F_law_alike, b_law_alike, isD]
theorem alike_non (s : S) (n : Nat) : F_law_alike (n + 1) [.non, .non] s = .ok (.bl true) s := by
  simp [F_law_alike, b_law_alike, isD]
theorem alike_tup (s : S) (n : Nat) (ds : List D) (hl : ds.length ≤ 1000000) (h : ∀ d ∈ ds, F_law_alike n [d, d] s = .ok (.bl true) s) : F_law_alike (n + 1) [.tup ds, .tup ds] s = .ok (.bl true) s := by
  have hk : okR (ds.length : Int) = true := by simp [okR]; omega
  have hk2 : (rangeD 0 (ds.length : Int)).length ≤ 16777216 := by simp [rangeD]; omega
  simp [F_law_alike, b_law_alike, hk, hk2]
  rw [lcLoop_pure (fun _ => false) id _ fun x hx => by
    simp only [rangeD, List.mem_map, List.mem_range] at hx
    obtain ⟨k, hk, rfl⟩ := hx
    have hk2 : k < ds.length := by omega
    have e0 : atI ds (k : Int) = some ds[k] := atI_nat _ _ hk2
    exact ⟨[some (.tup ds), some (.tup ds), some (.int (0 + (k : Int)))], by simp, by simp [e0, h _ (List.getElem_mem hk2)], fun z => by cases z⟩]
  rw [List.filter_eq_nil_iff.mpr fun _ _ => by simp]
  simp [eq_nil]
end G


set_option Elab.async false
set_option linter.all false
set_option maxRecDepth 100000
set_option maxHeartbeats 4000000
namespace G
open PySem PySem.Spec L2 J
def wrF (z : D) (hd : Ex → S → R D) (r : R D) : R D := match r with
  | .ok _ s1 => .ok z s1
  | .err e s1 => (match hd e s1 with | .ok d s2 => .ok d s2 | _ => .no)
  | .no => .no
@[simp] theorem ap_wrong (z : D) (hd : Ex → S → R D) (gl : GE) (ρ : J.Env) (s : S) : gWrong z hd gl ρ s = wrF z hd (gl ρ s) := id rfl
@[simp] theorem wrF_nm (s : S) : wrF (.bl false) hd_law_not_made (.err ⟨0, none⟩ s) = .ok (.bl true) s := id rfl
theorem over_events {d : Des} {P : Prog} {t : St} (ok : StOk P t) (h : overP t = true) : eventsP d P t = [] := by
  rw [List.eq_nil_iff_forall_not_mem]
  intro e he
  have hc := mem_events.mp he
  rw [overP_eq ok, List.all_eq_true] at h
  have ho := h e.1 (List.mem_range.mpr hc.c)
  have hk := hc.ok
  simp only [canC, Bool.and_eq_true, Bool.not_eq_true', decide_eq_true_eq] at hk
  obtain ⟨⟨⟨h1, h2⟩, _⟩, _⟩ := hk
  have hlen : e.2 < (coAt t e.1).done.length := by rw [(ok.co e.1 hc.c).ld]; exact hc.p
  have hm : (coAt t e.1).done[e.2] ∈ (coAt t e.1).done.take ((coAt t e.1).ends + 1) := by
    have : e.2 < ((coAt t e.1).done.take ((coAt t e.1).ends + 1)).length := by rw [List.length_take]; omega
    have h3 := List.getElem_mem this
    rwa [List.getElem_take] at h3
  unfold overC at ho
  rw [List.all_eq_true] at ho
  have := ho _ hm
  simp only [id] at this
  rw [Co.dn, List.getElem?_eq_getElem hlen, this] at h1
  cases h1
theorem RowS.app {ns : List Int} {t s : S} (h : RowS ns t s) (v : S) : RowS ns (t ++ v) (s ++ v) := by
  obtain ⟨i, a, b, h1, h2, rfl⟩ := h
  exact ⟨i, a, b, h1, h2, rfl⟩
theorem RowS.same {ns : List Int} {t s s' : S} (h : RowS ns t s) (h' : RowS ns t s') : ∀ k, 1 ≤ k → s'[k]? = s[k]? := fun k hk => by
  obtain ⟨i, a, b, _, _, rfl⟩ := h
  obtain ⟨i', a', b', _, _, rfl⟩ := h'
  obtain ⟨j, rfl⟩ : ∃ j, k = j + 1 := ⟨k - 1, by omega⟩
  rfl
theorem RowS.fr {ns : List Int} {t s s' : S} (h : RowS ns t s) (e : s'[0]? = s[0]?) : ∃ t', RowS ns t' s' := by
  obtain ⟨i, a, b, h1, h2, rfl⟩ := h
  cases s' with
  | nil => cases e
  | cons u t' =>
    have : u = rowL ns i a b := by simpa using e
    subst this
    exact ⟨t', i, a, b, h1, h2, rfl⟩
theorem alike_ev (s : S) (n : Nat) (e : Nat × Nat) : F_law_alike (n + 2) [evD e, evD e] s = .ok (.bl true) s :=
  alike_tup s (n + 1) _ (by simp) fun d hd => by
    have : d = .int (e.1 : Int) ∨ d = .int (e.2 : Int) := by simpa using hd
    rcases this with rfl | rfl <;> exact alike_int s n _
theorem alike_evs (s : S) (n : Nat) (es : List (Nat × Nat)) (hl : es.length ≤ 1000000) : F_law_alike (n + 3) [.tup (es.map evD), .tup (es.map evD)] s = .ok (.bl true) s :=
  alike_tup s (n + 2) _ (by simpa using hl) fun d hd => by
    obtain ⟨e, _, rfl⟩ := List.mem_map.mp hd
    exact alike_ev s n e
theorem alike_out (s : S) {P : Prog} {t : St} (po : ProgOk P) (ok : StOk P t) : F_law_alike 4 [outD P t, outD P t] s = .ok (.bl true) s :=
  alike_tup s 3 _ (by simp) fun d hd => by
    have : d = .tup ((outP P t).1.map fun q => .tup [.int q.1, .int q.2]) ∨ d = .tup ((outP P t).2.map .int) := by simpa using hd
    rcases this with rfl | rfl
    · refine alike_tup s 2 _ ?_ fun d hd => ?_
      · have := po.m; simp [outP]; omega
      · obtain ⟨e, _, rfl⟩ := List.mem_map.mp hd
        refine alike_tup s 1 _ (by simp) fun d hd => ?_
        have : d = .int e.1 ∨ d = .int e.2 := by simpa using hd
        rcases this with rfl | rfl <;> exact alike_int s 0 _
    · refine alike_tup s 2 _ ?_ fun d hd => ?_
      · have := ok.l3; simp [outP]; omega
      · obtain ⟨e, _, rfl⟩ := List.mem_map.mp hd
        exact alike_int s 1 _
def evPy (e : Nat × Nat) : PyData := .tuple [.int (e.1 : Int), .int (e.2 : Int)]
theorem evs_toPys : ∀ es : List (Nat × Nat), D.toPys (es.map evD) = some (es.map evPy)
  | [] => rfl
  | e :: es => by simp [D.toPys, D.toPy, evs_toPys es, evD, evPy]
theorem evs_shaped (es : List (Nat × Nat)) : SeqAt.shaped (.list (es.map evPy)) = true := by
  have h1 : ∀ es : List (Nat × Nat), PyData.canLayAll0 (es.map evPy) = true := fun es => by
    induction es with
    | nil => simp [PyData.canLayAll0]
    | cons n ns ih => simp [PyData.canLayAll0, PyData.canLay0, evPy] at ih ⊢; exact ih
  have h2 : ∀ es : List (Nat × Nat), PyData.depthAll (es.map evPy) ≤ 1 := fun es => by
    induction es with
    | nil => simp [PyData.depthAll]
    | cons n ns ih => simp [PyData.depthAll, PyData.depth, evPy] at ih ⊢; omega
  simp only [SeqAt.shaped, Bool.and_eq_true, decide_eq_true_eq]
  refine ⟨by simpa [PyData.canLay0] using h1 es, ?_⟩
  have := h2 es
  simp only [PyData.depth]
  omega
theorem evs_nil (s : S) (es : List (Nat × Nat)) : eqD s (.lst (es.map evD)) (.lst []) = some es.isEmpty := by
  have h0 : SeqAt.shaped (.list []) = true := by decide +kernel
  simp only [eqD, deref, D.toPy, D.toPys, evs_toPys, Option.map_some, evs_shaped, h0, Bool.and_self, if_true]
  cases es <;> simp [PyData.eqv, PyData.eqvAll]
abbrev envL (ns : List Int) (q : Nat) (x3 : Option D) (ds : List Str) (P : Prog) (row : List (Nat × Nat)) (x7 x8 : Option D) : J.Env :=
  [some (.frz (ns.map D.int)), some (.obj 0), some (.obj q), x3, some (.tup (ds.map .str)), some (encP P), some (rowD row), x7, x8]
def b_lp : GS := (sSeq (sAsg (gCall 1 (F_law_events) (gaCons (gVar 2) (gaNil))) (dName 7)) (sSeq (sIf (gNot (gB (gCall 2 (F_law_alike 4) (gaCons (gCall 3 (F_events_behind) (gaCons (gVar 4) (gaCons (gVar 5) (gaCons (gVar 6) (gaNil))))) (gaCons (gF (f1 fTuple) (gaCons (gVar 7) (gaNil))) (gaNil)))))) (sRet (gC (.bl false))) (sNext)) (sSeq (sIf (gNot (gB (gCall 2 (F_law_alike 4) (gaCons (gCall 3 (F_has_ended) (gaCons (gVar 4) (gaCons (gVar 5) (gaCons (gVar 6) (gaNil))))) (gaCons (gCall 1 (F_law_over) (gaCons (gVar 2) (gaNil))) (gaNil)))))) (sRet (gC (.bl false))) (sNext)) (sSeq (sIf (gAnd (gB (gCall 1 (F_law_over) (gaCons (gVar 2) (gaNil)))) (gOr (gB (gOp2 fNe (gVar 7) (gLst (gaNil)))) (gNot (gB (gCall 2 (F_law_alike 4) (gaCons (gCall 3 (F_told_by) (gaCons (gVar 4) (gaCons (gVar 5) (gaCons (gVar 6) (gaNil))))) (gaCons (gCall 1 (F_law_outcome) (gaCons (gVar 2) (gaNil))) (gaNil)))))))) (sRet (gC (.bl false))) (sNext)) (sSeq (sIf (gAnd (gNot (gB (gCall 1 (F_law_over) (gaCons (gVar 2) (gaNil))))) (gNot (gB (gWrong (.bl false) hd_law_not_made (gCall 3 (F_told_by) (gaCons (gVar 4) (gaCons (gVar 5) (gaCons (gVar 6) (gaNil))))))))) (sRet (gC (.bl false))) (sNext)) (sIf (gB (gOp2 fNe (gVar 7) (gLst (gaNil)))) (sSeq (sAsg (gCall 2 (F_law_pick) (gaCons (gVar 1) (gaCons (gVar 7) (gaNil)))) (dName 8)) (sSeq (sExpr (gCall 2 (F_law_do) (gaCons (gVar 2) (gaCons (gVar 8) (gaNil))))) (sAsg (gOp2 fAdd (gVar 6) (gTup (gaCons (gVar 8) (gaNil)))) (dName 6)))) (sNext)))))))
theorem events_len {d : Des} {P : Prog} {t : St} (po : ProgOk P) : (eventsP d P t).length ≤ 3000 := by
  have := eventsK_len po d t P.length (Nat.le_refl _)
  have m := po.m
  have e : eventsP d P t = eventsK d P t P.length := rfl
  rw [e]; omega
theorem one_turn {ns : List Int} {ds : List Str} {P : Prog} (hd : ds.Sublist names) (hP : PrOk P) {s : S} {row : List (Nat × Nat)} {tl : S} (hrow : RowOk (desOf ds) P (st0 P) row) (hlen : row.length ≤ 10) (hl : LawAt s 1 ds P (runRow P (st0 P) row)) (hr : RowS ns tl s) (hw : 4 + 2 * P.length ≤ s.length) (x3 x7 x8 : Option D) :
    ∃ row' x7' x8' s' tl', b_lp (envL ns (1 + P.length + 1) x3 ds P row x7 x8) s = .ok (.nx (envL ns (1 + P.length + 1) x3 ds P row' x7' x8')) s' ∧ RowOk (desOf ds) P (st0 P) row' ∧ row'.length ≤ row.length + 1 ∧ LawAt s' 1 ds P (runRow P (st0 P) row') ∧ RowS ns tl' s' ∧ 4 + 2 * P.length ≤ s'.length := by
  have po := hP.po
  have e1 := levents_ok hl.toLawW
  obtain ⟨v1, e2⟩ := events_behind_ok (s := s) hd hP hrow hlen
  have e3 := alike_evs (s ++ v1) 1 (eventsP (desOf ds) P (runRow P (st0 P) row)) (by have := events_len (d := desOf ds) (t := runRow P (st0 P) row) po; omega)
  obtain ⟨v2, e4⟩ := has_ended_ok (s := s ++ v1) hd hP hrow hlen
  have hl2 := (hl.app v1).app v2
  have e5 := lover_ok hl2.toLawW
  generalize hs2 : (s ++ v1) ++ v2 = s2 at e4 hl2 e5
  have e6 := alike_bl s2 3 (overP (runRow P (st0 P) row))
  have en := evs_nil s2 (eventsP (desOf ds) P (runRow P (st0 P) row))
  obtain ⟨v3, e7⟩ := told_by_ok (s := s2) hd hP hrow hlen
  have r2 : RowS ns ((tl ++ v1) ++ v2) s2 := by rw [← hs2]; exact (hr.app v1).app v2
  have w2 : 4 + 2 * P.length ≤ s2.length := by rw [← hs2]; simp; omega
  have hl3 := hl2.app v3
  have r3 := r2.app v3
  have w3 : 4 + 2 * P.length ≤ (s2 ++ v3).length := by simp; omega
  generalize hs3 : s2 ++ v3 = s3 at e7 hl3 r3 w3
  cases ho : overP (runRow P (st0 P) row) with
  | true =>
    rw [ho] at e4 e5 e6 e7
    simp only [if_true] at e7
    have hev := over_events (d := desOf ds) hl.ok ho
    rw [hev] at e1 e2 e3 en
    obtain ⟨v4, e8⟩ := loutcome_ok hl3 (by omega)
    have hl4 := hl3.app v4
    have e9 := alike_out (s3 ++ v4) po hl.ok
    have e10 := lover_ok hl4.toLawW
    rw [ho] at e10
    have en4 := evs_nil (s3 ++ v4) []
    simp only [List.map_nil] at e1 e2 e3 en en4
    refine ⟨row, some (.lst []), x8, s3 ++ v4, _, ?_, hrow, by omega, hl4, r3.app v4, by simp; omega⟩
    simp [b_lp, e1, e2, e3, e4, e5, e6, en, e7, e8, e9, e10, en4]
  | false =>
    rw [ho] at e4 e5 e6 e7
    simp only [Bool.false_eq_true, if_false] at e7
    have e10 := lover_ok hl3.toLawW
    rw [ho] at e10
    have en3 := evs_nil s3 (eventsP (desOf ds) P (runRow P (st0 P) row))
    cases hn : (eventsP (desOf ds) P (runRow P (st0 P) row)).isEmpty with
    | true =>
      rw [hn] at en3 en
      refine ⟨row, some (.lst ((eventsP (desOf ds) P (runRow P (st0 P) row)).map evD)), x8, s3, _, ?_, hrow, by omega, hl3, r3, w3⟩
      simp [b_lp, e1, e2, e3, e4, e5, e6, en, e7, e10, en3]
    | false =>
      rw [hn] at en3 en
      have hne : 0 < (eventsP (desOf ds) P (runRow P (st0 P) row)).length := by
        cases h : eventsP (desOf ds) P (runRow P (st0 P) row) with
        | nil => rw [h] at hn; cases hn
        | cons _ _ => simp
      have hlt := events_len (d := desOf ds) (t := runRow P (st0 P) row) po
      generalize hE : eventsP (desOf ds) P (runRow P (st0 P) row) = E at *
      -- the draw
      obtain ⟨r, s4, q1, q2, q3, q4⟩ := taken_ok (E.length : Int) (by omega) (by omega) r3
      obtain ⟨k, rfl⟩ := Int.eq_ofNat_of_zero_le q2
      have hk : k < E.length := by omega
      have pk : F_law_pick [.obj 0, .lst (E.map evD)] s3 = .ok (evD E[k]) s4 := by
        have := atI_map evD E k hk
        simp [F_law_pick, b_law_pick, q1, this]
      have hc : CanE (desOf ds) P (runRow P (st0 P) row) E[k] := mem_events.mp (hE ▸ List.getElem_mem hk)
      have hl4 : LawAt s4 1 ds P (runRow P (st0 P) row) := hl3.ext fun j h1 _ => r3.same q4 j h1
      have hnd : (coAt (runRow P (st0 P) row) E[k].1).dn E[k].2 = false := by
        have := hc.ok
        simp only [canC, Bool.and_eq_true, Bool.not_eq_true'] at this
        exact this.1.1.1
      obtain ⟨s5, d1, d2, d3⟩ := ldo_ok hl4 hc.c hc.p hnd
      obtain ⟨t5, r5⟩ := q4.fr (d3.2 0 (.inl (by omega)))
      have w5 : 4 + 2 * P.length ≤ s5.length := by
        have h1 := (List.getElem?_eq_some_iff.mp d2.en).1
        omega
      have d1' : F_law_do [.obj (1 + P.length + 1), evD E[k]] s4 = .ok .non s5 := d1
      have ha : ∀ s, fAdd s (rowD row) (.tup [evD E[k]]) = some (rowD (row ++ [E[k]])) := fun s => by
        have : row.length + 1 ≤ 16777216 := by omega
        simp [fAdd, rowD, this]
      refine ⟨row ++ [E[k]], some (.lst (E.map evD)), some (evD E[k]), s5, t5, ?_, hrow.snoc hc, by simp, by rw [runRow_snoc]; exact d2, r5, w5⟩
      simp [b_lp, e1, e2, e3, e4, e5, e6, en, e7, e10, en3, pk, d1', ha]
theorem plain (ns : List Int) (h : ns.length ≤ 63) : ∃ s', F_law [.frz (ns.map D.int)] [] = .ok (.bl true) s' := by
  have r0 : RowS ns [] (rowL ns 0 14243 0 :: []) := ⟨0, 14243, 0, by decide, by decide, rfl⟩
  obtain ⟨ds, s1, e1, hd, r1⟩ := design_ok r0
  obtain ⟨P, s2, e2, hP, _, r2⟩ := program_ok 10 (by omega) r1
  have po := hP.po
  have l2 : s2.length = 1 := by obtain ⟨_, _, _, _, _, rfl⟩ := r2; rfl
  have e3 := lbegin_ok (s := s2) (ds := ds) po
  have l50 : ∀ cs ∈ P, cs.length ≤ 50 := fun cs hc => by have := (hP.c cs hc).len; omega
  have a3 := lawS_at (s := s2) hd po l50
  rw [l2] at e3 a3
  have r3 : ∃ t3, RowS ns t3 (lawS s2 ds P) := ⟨_, r2.app _⟩
  obtain ⟨t3, r3⟩ := r3
  have w3 : 4 + 2 * P.length ≤ (lawS s2 ds P).length := by rw [lawS_len, l2]; omega
  obtain ⟨ρ', s', e4, row, x3, x7, x8, tl, rfl, _⟩ := forNat (t := dName 3) (b := b_lp) 11 (fun k ρ s => ∃ row x3 x7 x8 tl, ρ = envL ns (1 + P.length + 1) x3 ds P row x7 x8 ∧ RowOk (desOf ds) P (st0 P) row ∧ row.length ≤ k ∧ LawAt s 1 ds P (runRow P (st0 P) row) ∧ RowS ns tl s ∧ 4 + 2 * P.length ≤ s.length)
    (envL ns (1 + P.length + 1) none ds P [] none none) (lawS s2 ds P) ⟨[], none, none, none, t3, rfl, trivial, Nat.le_refl _, a3, r3, w3⟩ fun k hk ρ s ⟨row, x3, x7, x8, tl, eρ, g1, g2, g3, g4, g5⟩ => by
    subst eρ
    obtain ⟨row', x7', x8', s', tl', f1, f2, f3, f4, f5, f6⟩ := one_turn hd hP g1 (by omega) g3 g4 g5 (some (.int (k : Int))) x7 x8
    exact ⟨_, _, s', rfl, f1, row', some (.int (k : Int)), x7', x8', tl', rfl, f2, by omega, f4, f5, f6⟩
  refine ⟨s', ?_⟩
  unfold b_lp at e4
  have e1' : F_law_design [.obj 0] [IO.lst [.frz (ns.map D.int), .int 0, .int 14243, .int 0]] = _ := e1
  have e2' : F_law_program [.obj 0, .int 10] s1 = .ok (encP P) s2 := e2
  have hk : okR 11 = true := by decide
  have e4' : forLoop (dName 3) _ (rangeD 0 11) _ _ = _ := e4
  have er : rowD [] = .tup [] := rfl
  simp only [envL, er] at e4'
  simp [F_law, b_law, e1', e2', e3, hk, e4']
end G


set_option Elab.async false
set_option linter.all false
set_option maxRecDepth 100000
set_option maxHeartbeats 4000000
/-! J31: the head's Hook, with the statics among what is seen. -/
namespace J
open PySem PySem.Spec PyProof.Rows L2
/-- what the module's names reach in n steps, each step from the last one's alone -/
def asF (g : Addr → Option Obj) : Nat → List Addr → List Addr
  | 0, fr => fr
  | n + 1, fr => fr ++ asF g n (fr.flatMap fun a => match g a with
    | some o => He.refsD o
    | none => [])
abbrev seeS (n : Nat) (g : Addr → Option Obj) : PySem.W.Frag := He.frT g (cStatics :: asF g n [mainGlobals])
def obsS (n : Nat) (fa : List He.Fa) (fn : List He.DefD) (tf : List He.Defn) (ex : PySem.W.Frag → Bool) (g : Addr → Option Obj) : He.AlX := (He.obsT fa fn [] (seeS n g), ex (seeS n g) && He.tabsB g tf (seeS n g))
theorem saysS_of {n : Nat} {fa : List He.Fa} {fn : List He.DefD} {tf : List He.Defn} {ex : PySem.W.Frag → Bool} {w : World} {h : Heap} (e : obsS n fa fn tf ex h.get? = He.valX fn [] w) : He.SaysX fa fn [] tf ex w h (seeS n h.get?) := by
  have e2 : (ex (seeS n h.get?) && He.tabsB h.get? tf (seeS n h.get?)) = true := congrArg Prod.snd e
  obtain ⟨x1, x2⟩ := Bool.and_eq_true_iff.mp e2
  have one : ∀ p ∈ tf, PySem.W.codeHdIn (seeS n h.get?) (He.cT (seeS n h.get?) p).1 (He.cT (seeS n h.get?) p).2 = true ∧ ∃ o, h.get? (He.cT (seeS n h.get?) p).2 = some o ∧ He.emptyTab o = true := fun p hp => by
    obtain ⟨y1, y2⟩ := Bool.and_eq_true_iff.mp (List.all_eq_true.mp x2 p hp)
    cases q : h.get? (He.cT (seeS n h.get?) p).2 with
    | none => rw [q] at y2; cases y2
    | some o => rw [q] at y2; exact ⟨y1, o, rfl, y2⟩
  exact ⟨congrArg Prod.fst e, x1, fun p hp => (one p hp).1, fun p hp => let ⟨_, _, a, b⟩ := one p hp; He.frT_none a b, fun p hp => let ⟨_, _, a, b⟩ := one p hp; a.trans (congrArg some (He.emptyTab_eq b))⟩
def hookS (n : Nat) (fa : List He.Fa) (fn : List He.DefD) (tf : List He.Defn) (ex : PySem.W.Frag → Bool) : PySem.W.Hook where
  α := He.AlX
  obs := fun s => obsS n fa fn tf ex s.heap.get?
  val := fun w => He.valX fn [] w
  says := fun w h => ∃ K : PySem.W.Frag, K.In h ∧ He.SaysX fa fn [] tf ex w h K
  of := fun _ _ e => ⟨_, He.frT_in, saysS_of e⟩
  keeps := fun _ _ _ ⟨K, hK, c⟩ k => ⟨K, PySem.W.Frag.In.keeps hK k, c.t, c.more, c.hd, c.out, fun p hp => k _ _ (c.empty p hp)⟩
theorem obsS_eq {n : Nat} {fa : List He.Fa} {fn : List He.DefD} {tf : List He.Defn} {ex : PySem.W.Frag → Bool} {g : Addr → Option Obj} {s : Shared} (h : ∀ a, g a = s.heap.get? a) : obsS n fa fn tf ex g = (hookS n fa fn tf ex).obs s := (funext h : g = s.heap.get?) ▸ rfl
end J

set_option Elab.async false
set_option linter.all false
set_option maxRecDepth 100000
set_option maxHeartbeats 0
namespace G
open PySem PySem.Spec PyProof.Rows L2 J
def d42 : He.DefD := ⟨("Run", some "elders"), "elders", "Run.elders", defArgs (mst 35 1), defBody (mst 35 1), defScope (mst 35 1), [], []⟩
def d43 : He.DefD := ⟨("Run", some "__init__"), "__init__", "Run.__init__", defArgs (mst 35 0), defBody (mst 35 0), defScope (mst 35 0), [], []⟩
def d44 : He.DefD := ⟨("Run", some "word"), "word", "Run.word", defArgs (mst 35 3), defBody (mst 35 3), defScope (mst 35 3), [], []⟩
def d45 : He.DefD := ⟨("Run", some "can"), "can", "Run.can", defArgs (mst 35 4), defBody (mst 35 4), defScope (mst 35 4), [], []⟩
def d46 : He.DefD := ⟨("Run", some "events"), "events", "Run.events", defArgs (mst 35 5), defBody (mst 35 5), defScope (mst 35 5), [], []⟩
def d47 : He.DefD := ⟨("Run", some "has_ended"), "has_ended", "Run.has_ended", defArgs (mst 35 6), defBody (mst 35 6), defScope (mst 35 6), [], []⟩
def d48 : He.DefD := ⟨("Run", some "written"), "written", "Run.written", defArgs (mst 35 9), defBody (mst 35 9), defScope (mst 35 9), [], []⟩
def d49 : He.DefD := ⟨("Run", some "seen"), "seen", "Run.seen", defArgs (mst 35 10), defBody (mst 35 10), defScope (mst 35 10), [], []⟩
def d50 : He.DefD := ⟨("Run", some "do"), "do", "Run.do", defArgs (mst 35 7), defBody (mst 35 7), defScope (mst 35 7), [], []⟩
def d51 : He.DefD := ⟨("Run", some "outcome"), "outcome", "Run.outcome", defArgs (mst 35 11), defBody (mst 35 11), defScope (mst 35 11), [], []⟩
def d0 : He.DefD := ⟨("_wall", none), "_wall", "_wall", defArgs (top 0), defBody (top 0), defScope (top 0), [], []⟩
def d1 : He.DefD := ⟨("is_integer", none), "is_integer", "is_integer", defArgs (top 2), defBody (top 2), defScope (top 2), [], []⟩
def d2 : He.DefD := ⟨("is_in", none), "is_in", "is_in", defArgs (top 3), defBody (top 3), defScope (top 3), [], []⟩
def d3 : He.DefD := ⟨("is_list", none), "is_list", "is_list", defArgs (top 4), defBody (top 4), defScope (top 4), [], []⟩
def d4 : He.DefD := ⟨("is_instruction", none), "is_instruction", "is_instruction", defArgs (top 19), defBody (top 19), defScope (top 19), [], []⟩
def d5 : He.DefD := ⟨("is_core", none), "is_core", "is_core", defArgs (top 20), defBody (top 20), defScope (top 20), [], []⟩
def d6 : He.DefD := ⟨("need_program", none), "need_program", "need_program", defArgs (top 21), defBody (top 21), defScope (top 21), [], []⟩
def d7 : He.DefD := ⟨("cell_of", none), "cell_of", "cell_of", defArgs (top 22), defBody (top 22), defScope (top 22), [], []⟩
def d8 : He.DefD := ⟨("asked_of", none), "asked_of", "asked_of", defArgs (top 23), defBody (top 23), defScope (top 23), [], []⟩
def d9 : He.DefD := ⟨("last_read", none), "last_read", "last_read", defArgs (top 24), defBody (top 24), defScope (top 24), [], []⟩
def d10 : He.DefD := ⟨("last_writing", none), "last_writing", "last_writing", defArgs (top 25), defBody (top 25), defScope (top 25), [], []⟩
def d11 : He.DefD := ⟨("is_design", none), "is_design", "is_design", defArgs (top 28), defBody (top 28), defScope (top 28), [], []⟩
def d12 : He.DefD := ⟨("need_design", none), "need_design", "need_design", defArgs (top 29), defBody (top 29), defScope (top 29), [], []⟩
def d13 : He.DefD := ⟨("letter_of", none), "letter_of", "letter_of", defArgs (top 30), defBody (top 30), defScope (top 30), [], []⟩
def d14 : He.DefD := ⟨("asks_read", none), "asks_read", "asks_read", defArgs (top 31), defBody (top 31), defScope (top 31), [], []⟩
def d15 : He.DefD := ⟨("own_read", none), "own_read", "own_read", defArgs (top 32), defBody (top 32), defScope (top 32), [], []⟩
def d16 : He.DefD := ⟨("keeps", none), "keeps", "keeps", defArgs (top 33), defBody (top 33), defScope (top 33), [], []⟩
def d17 : He.DefD := ⟨("need_run", none), "need_run", "need_run", defArgs (top 36), defBody (top 36), defScope (top 36), [], []⟩
def d18 : He.DefD := ⟨("is_event", none), "is_event", "is_event", defArgs (top 37), defBody (top 37), defScope (top 37), [], []⟩
def d19 : He.DefD := ⟨("events_behind", none), "events_behind", "events_behind", defArgs (top 38), defBody (top 38), defScope (top 38), [], []⟩
def d20 : He.DefD := ⟨("has_ended", none), "has_ended", "has_ended", defArgs (top 39), defBody (top 39), defScope (top 39), [], []⟩
def d21 : He.DefD := ⟨("told_by", none), "told_by", "told_by", defArgs (top 40), defBody (top 40), defScope (top 40), [], []⟩
def d22 : He.DefD := ⟨("_law_taken", none), "_law_taken", "_law_taken", defArgs (top 42), defBody (top 42), defScope (top 42), [], []⟩
def d23 : He.DefD := ⟨("_law_pick", none), "_law_pick", "_law_pick", defArgs (top 43), defBody (top 43), defScope (top 43), [], []⟩
def d24 : He.DefD := ⟨("_law_alike", none), "_law_alike", "_law_alike", defArgs (top 44), defBody (top 44), defScope (top 44), [], []⟩
def d25 : He.DefD := ⟨("_law_instruction", none), "_law_instruction", "_law_instruction", defArgs (top 45), defBody (top 45), defScope (top 45), [], []⟩
def d26 : He.DefD := ⟨("_law_program", none), "_law_program", "_law_program", defArgs (top 46), defBody (top 46), defScope (top 46), [], []⟩
def d27 : He.DefD := ⟨("_law_design", none), "_law_design", "_law_design", defArgs (top 47), defBody (top 47), defScope (top 47), [], []⟩
def d28 : He.DefD := ⟨("_law_letter", none), "_law_letter", "_law_letter", defArgs (top 48), defBody (top 48), defScope (top 48), [], []⟩
def d29 : He.DefD := ⟨("_law_cell", none), "_law_cell", "_law_cell", defArgs (top 49), defBody (top 49), defScope (top 49), [], []⟩
def d30 : He.DefD := ⟨("_law_last", none), "_law_last", "_law_last", defArgs (top 50), defBody (top 50), defScope (top 50), [], []⟩
def d31 : He.DefD := ⟨("_law_must", none), "_law_must", "_law_must", defArgs (top 51), defBody (top 51), defScope (top 51), [], []⟩
def d32 : He.DefD := ⟨("_law_begin", none), "_law_begin", "_law_begin", defArgs (top 52), defBody (top 52), defScope (top 52), [], []⟩
def d33 : He.DefD := ⟨("_law_word", none), "_law_word", "_law_word", defArgs (top 53), defBody (top 53), defScope (top 53), [], []⟩
def d34 : He.DefD := ⟨("_law_written", none), "_law_written", "_law_written", defArgs (top 54), defBody (top 54), defScope (top 54), [], []⟩
def d35 : He.DefD := ⟨("_law_can", none), "_law_can", "_law_can", defArgs (top 55), defBody (top 55), defScope (top 55), [], []⟩
def d36 : He.DefD := ⟨("_law_events", none), "_law_events", "_law_events", defArgs (top 56), defBody (top 56), defScope (top 56), [], []⟩
def d37 : He.DefD := ⟨("_law_do", none), "_law_do", "_law_do", defArgs (top 57), defBody (top 57), defScope (top 57), [], []⟩
def d38 : He.DefD := ⟨("_law_over", none), "_law_over", "_law_over", defArgs (top 58), defBody (top 58), defScope (top 58), [], []⟩
def d39 : He.DefD := ⟨("_law_outcome", none), "_law_outcome", "_law_outcome", defArgs (top 59), defBody (top 59), defScope (top 59), [], []⟩
def d40 : He.DefD := ⟨("_law_not_made", none), "_law_not_made", "_law_not_made", defArgs (top 60), defBody (top 60), defScope (top 60), [], []⟩
def d41 : He.DefD := ⟨("law", none), "law", "law", defArgs (top 61), defBody (top 61), defScope (top 61), [], []⟩
def hfn : List He.DefD := ([d0, d1, d2, d3, d4, d5, d6, d7, d8, d9, d10, d11, d12, d13, d14, d15, d16, d17, d18, d19, d20, d21, d22, d23, d24, d25, d26, d27, d28, d29] : List He.DefD) ++ ([d30, d31, d32, d33, d34, d35, d36, d37, d38, d39, d40, d41, d42, d43, d44, d45, d46, d47, d48, d49, d50, d51] : List He.DefD)
def hfa : List He.Fa := ([.free "all", .free "any", .free "bool", .free "int", .free "isinstance", .free "len", .free "list", .free "min", .free "range", .free "sorted", .free "str", .free "sum", .free "tuple", .glo "_wall", .glo "is_integer", .glo "is_in", .glo "is_list", .glo "is_instruction", .glo "is_core", .glo "need_program", .glo "cell_of", .glo "asked_of", .glo "last_read", .glo "last_writing", .glo "is_design", .glo "need_design", .glo "letter_of", .glo "asks_read", .glo "own_read", .glo "keeps"] : List He.Fa) ++ ([.glo "need_run", .glo "is_event", .glo "events_behind", .glo "has_ended", .glo "told_by", .glo "_law_taken", .glo "_law_pick", .glo "_law_alike", .glo "_law_instruction", .glo "_law_program", .glo "_law_design", .glo "_law_letter", .glo "_law_cell", .glo "_law_last", .glo "_law_must", .glo "_law_begin", .glo "_law_word", .glo "_law_written", .glo "_law_can", .glo "_law_events", .glo "_law_do", .glo "_law_over", .glo "_law_outcome", .glo "_law_not_made", .glo "law", .glo "Run", .cls "Run", .mkr "Run", .noat "Run" "ahead", .noat "Run" "cells"] : List He.Fa) ++ ([.noat "Run" "design", .noat "Run" "done", .noat "Run" "ends", .noat "Run" "program", .noat "Run" "taken", .meth "Run" "elders", .meth "Run" "word", .meth "Run" "can", .meth "Run" "events", .meth "Run" "has_ended", .meth "Run" "written", .meth "Run" "seen", .meth "Run" "do", .meth "Run" "outcome", .glo "NotMade", .exc "NotMade", .glo "PairError", .exm "NotMade" "PairError" true] : List He.Fa)
def hex (K : PySem.W.Frag) : Bool := (constB K "REGISTERS" c_REGISTERS) && ((constB K "CELLS" c_CELLS) && ((constB K "WORDS" c_WORDS) && ((constB K "MOST_CORES" c_MOST_CORES) && ((constB K "MOST_CORE" c_MOST_CORE) && ((constB K "MOST_PROGRAM" c_MOST_PROGRAM) && ((constB K "WRITING" c_WRITING) && ((constB K "NAMES" c_NAMES) && ((excCB K (He.ga K "NotMade")) && ((kitB2 K "NotMade" "NotMade" true) && (true))))))))))
abbrev R : PySem.W.OpenRow := PySem.W.OpenLaw.row PySem.Challenge.rw_pairskept_k03_whole_rows
abbrev hk : PySem.W.Hook := hookS 4 hfa hfn [("law", none)] hex
def ob (s : PySem.W.SharedT) : He.AlX := obsS 4 hfa hfn [("law", none)] hex (HandSHeadRun.getT s)
theorem ob_eq (s : PySem.W.SharedT) : ob s = hk.obs s.abs := obsS_eq (HandSHeadRun.getT_eq s)
def loose : List PySem.Str := (["_wall", "is_integer", "is_in", "is_list", "PairError", "BadProgram", "BadDesign", "BadRow", "NotMade", "REGISTERS", "CELLS", "WORDS", "MOST_CORES", "MOST_CORE", "MOST_PROGRAM", "WRITING", "is_instruction", "is_core", "need_program", "cell_of", "asked_of", "last_read", "last_writing", "NAMES", "is_design", "need_design", "letter_of", "asks_read", "own_read", "keeps"] : List PySem.Str) ++ (["Run", "need_run", "is_event", "events_behind", "has_ended", "told_by", "_law_taken", "_law_pick", "_law_alike", "_law_instruction", "_law_program", "_law_design", "_law_letter", "_law_cell", "_law_last", "_law_must", "_law_begin", "_law_word", "_law_written", "_law_can", "_law_events", "_law_do", "_law_over", "_law_outcome", "_law_not_made"] : List PySem.Str)
theorem run (w : World) : HandSHeadRun.RunEq R (PySem.W.view R.prog [61]) hk ob 8000 loose w := by
  intro os
  kernel_rfl
def ct (K : PySem.W.Frag) (Pt : Addr) : Ct := ⟨fun i => match i with | 0 => He.ga K "NotMade" | 50 => He.ga K "Run" | _ => 0, [(Pt, (("law" : Str) ++ ".<locals>.") ++ "<lambda>")]⟩
theorem fx {w : World} {K : PySem.W.Frag} {h : Heap} {mg : Str → Option Value} {Pt : Addr} (X : K.In h) (Gh : h.Ns mainGlobals mg) (c : He.SaysX hfa hfn [] [("law", none)] hex w h K) : Fx K mg (ct K Pt) := by
  have m := c.more
  simp only [hex, Bool.and_eq_true] at m
  exact {
    bi_all := He.free_ok X Gh (c.t.d.fact 0 (f := .free "all") rfl),
    bi_any := He.free_ok X Gh (c.t.d.fact 1 (f := .free "any") rfl),
    bi_bool := He.free_ok X Gh (c.t.d.fact 2 (f := .free "bool") rfl),
    bi_int := He.free_ok X Gh (c.t.d.fact 3 (f := .free "int") rfl),
    bi_isinstance := He.free_ok X Gh (c.t.d.fact 4 (f := .free "isinstance") rfl),
    bi_len := He.free_ok X Gh (c.t.d.fact 5 (f := .free "len") rfl),
    bi_list := He.free_ok X Gh (c.t.d.fact 6 (f := .free "list") rfl),
    bi_min := He.free_ok X Gh (c.t.d.fact 7 (f := .free "min") rfl),
    bi_range := He.free_ok X Gh (c.t.d.fact 8 (f := .free "range") rfl),
    bi_sorted := He.free_ok X Gh (c.t.d.fact 9 (f := .free "sorted") rfl),
    bi_str := He.free_ok X Gh (c.t.d.fact 10 (f := .free "str") rfl),
    bi_sum := He.free_ok X Gh (c.t.d.fact 11 (f := .free "sum") rfl),
    bi_tuple := He.free_ok X Gh (c.t.d.fact 12 (f := .free "tuple") rfl),
    c_REGISTERS := const_ok X Gh m.1,
    c_CELLS := const_ok X Gh m.2.1,
    c_WORDS := const_ok X Gh m.2.2.1,
    c_MOST_CORES := const_ok X Gh m.2.2.2.1,
    c_MOST_CORE := const_ok X Gh m.2.2.2.2.1,
    c_MOST_PROGRAM := const_ok X Gh m.2.2.2.2.2.1,
    c_WRITING := const_ok X Gh m.2.2.2.2.2.2.1,
    c_NAMES := const_ok X Gh m.2.2.2.2.2.2.2.1,
    x_NotMade := excJ_ok X Gh (c.t.d.fact 75 (f := .exc "NotMade") rfl) (c.t.d.fact 74 (f := .glo "NotMade") rfl) rfl,
    xb := ⟨_, He.glo_ok X Gh (c.t.d.fact 76 (f := .glo "PairError") rfl), fun i hi => by
      simp only [List.mem_cons, List.not_mem_nil, or_false] at hi
      rcases hi with rfl
      · exact He.exm_ok (c.t.d.fact 77 (f := .exm "NotMade" "PairError" true) rfl)⟩,
    xc := fun i hi => by
      simp only [List.mem_cons, List.not_mem_nil, or_false] at hi
      rcases hi with rfl
      · exact excCB_ok m.2.2.2.2.2.2.2.2.1,
    xk := fun i j hi hj => by
      simp only [List.mem_cons, List.not_mem_nil, or_false] at hi hj
      rcases hi with rfl <;> rcases hj with rfl
      · exact of_decide_eq_true m.2.2.2.2.2.2.2.2.2.1,
    k_Run := He.cls_ok (c.t.d.fact 56 (f := .cls "Run") rfl),
    n_Run_ahead := He.noat_ok (c.t.d.fact 58 (f := .noat "Run" "ahead") rfl),
    n_Run_cells := He.noat_ok (c.t.d.fact 59 (f := .noat "Run" "cells") rfl),
    n_Run_design := He.noat_ok (c.t.d.fact 60 (f := .noat "Run" "design") rfl),
    n_Run_done := He.noat_ok (c.t.d.fact 61 (f := .noat "Run" "done") rfl),
    n_Run_ends := He.noat_ok (c.t.d.fact 62 (f := .noat "Run" "ends") rfl),
    n_Run_program := He.noat_ok (c.t.d.fact 63 (f := .noat "Run" "program") rfl),
    n_Run_taken := He.noat_ok (c.t.d.fact 64 (f := .noat "Run" "taken") rfl),
    m_Run_elders := ⟨_, (c.t.d.def_ 42 (d := d42) rfl).choose, He.meth_ok (c.t.d.fact 65 (f := .meth "Run" "elders") rfl), (c.t.d.def_ 42 (d := d42) rfl).choose_spec⟩,
    m_Run___init__ := ⟨_, (c.t.d.def_ 43 (d := d43) rfl).choose, He.glo_ok X Gh (c.t.d.fact 55 (f := .glo "Run") rfl), He.mkr_ok (c.t.d.fact 57 (f := .mkr "Run") rfl), (c.t.d.def_ 43 (d := d43) rfl).choose_spec⟩,
    m_Run_word := ⟨_, (c.t.d.def_ 44 (d := d44) rfl).choose, He.meth_ok (c.t.d.fact 66 (f := .meth "Run" "word") rfl), (c.t.d.def_ 44 (d := d44) rfl).choose_spec⟩,
    m_Run_can := ⟨_, (c.t.d.def_ 45 (d := d45) rfl).choose, He.meth_ok (c.t.d.fact 67 (f := .meth "Run" "can") rfl), (c.t.d.def_ 45 (d := d45) rfl).choose_spec⟩,
    m_Run_events := ⟨_, (c.t.d.def_ 46 (d := d46) rfl).choose, He.meth_ok (c.t.d.fact 68 (f := .meth "Run" "events") rfl), (c.t.d.def_ 46 (d := d46) rfl).choose_spec⟩,
    m_Run_has_ended := ⟨_, (c.t.d.def_ 47 (d := d47) rfl).choose, He.meth_ok (c.t.d.fact 69 (f := .meth "Run" "has_ended") rfl), (c.t.d.def_ 47 (d := d47) rfl).choose_spec⟩,
    m_Run_written := ⟨_, (c.t.d.def_ 48 (d := d48) rfl).choose, He.meth_ok (c.t.d.fact 70 (f := .meth "Run" "written") rfl), (c.t.d.def_ 48 (d := d48) rfl).choose_spec⟩,
    m_Run_seen := ⟨_, (c.t.d.def_ 49 (d := d49) rfl).choose, He.meth_ok (c.t.d.fact 71 (f := .meth "Run" "seen") rfl), (c.t.d.def_ 49 (d := d49) rfl).choose_spec⟩,
    m_Run_do := ⟨_, (c.t.d.def_ 50 (d := d50) rfl).choose, He.meth_ok (c.t.d.fact 72 (f := .meth "Run" "do") rfl), (c.t.d.def_ 50 (d := d50) rfl).choose_spec⟩,
    m_Run_outcome := ⟨_, (c.t.d.def_ 51 (d := d51) rfl).choose, He.meth_ok (c.t.d.fact 73 (f := .meth "Run" "outcome") rfl), (c.t.d.def_ 51 (d := d51) rfl).choose_spec⟩,
    d_wall := ⟨_, (c.t.d.def_ 0 (d := d0) rfl).choose, He.glo_ok X Gh (c.t.d.fact 13 (f := .glo "_wall") rfl), (c.t.d.def_ 0 (d := d0) rfl).choose_spec⟩,
    d_is_integer := ⟨_, (c.t.d.def_ 1 (d := d1) rfl).choose, He.glo_ok X Gh (c.t.d.fact 14 (f := .glo "is_integer") rfl), (c.t.d.def_ 1 (d := d1) rfl).choose_spec⟩,
    d_is_in := ⟨_, (c.t.d.def_ 2 (d := d2) rfl).choose, He.glo_ok X Gh (c.t.d.fact 15 (f := .glo "is_in") rfl), (c.t.d.def_ 2 (d := d2) rfl).choose_spec⟩,
    d_is_list := ⟨_, (c.t.d.def_ 3 (d := d3) rfl).choose, He.glo_ok X Gh (c.t.d.fact 16 (f := .glo "is_list") rfl), (c.t.d.def_ 3 (d := d3) rfl).choose_spec⟩,
    d_is_instruction := ⟨_, (c.t.d.def_ 4 (d := d4) rfl).choose, He.glo_ok X Gh (c.t.d.fact 17 (f := .glo "is_instruction") rfl), (c.t.d.def_ 4 (d := d4) rfl).choose_spec⟩,
    d_is_core := ⟨_, (c.t.d.def_ 5 (d := d5) rfl).choose, He.glo_ok X Gh (c.t.d.fact 18 (f := .glo "is_core") rfl), (c.t.d.def_ 5 (d := d5) rfl).choose_spec⟩,
    d_need_program := ⟨_, (c.t.d.def_ 6 (d := d6) rfl).choose, He.glo_ok X Gh (c.t.d.fact 19 (f := .glo "need_program") rfl), (c.t.d.def_ 6 (d := d6) rfl).choose_spec⟩,
    d_cell_of := ⟨_, (c.t.d.def_ 7 (d := d7) rfl).choose, He.glo_ok X Gh (c.t.d.fact 20 (f := .glo "cell_of") rfl), (c.t.d.def_ 7 (d := d7) rfl).choose_spec⟩,
    d_asked_of := ⟨_, (c.t.d.def_ 8 (d := d8) rfl).choose, He.glo_ok X Gh (c.t.d.fact 21 (f := .glo "asked_of") rfl), (c.t.d.def_ 8 (d := d8) rfl).choose_spec⟩,
    d_last_read := ⟨_, (c.t.d.def_ 9 (d := d9) rfl).choose, He.glo_ok X Gh (c.t.d.fact 22 (f := .glo "last_read") rfl), (c.t.d.def_ 9 (d := d9) rfl).choose_spec⟩,
    d_last_writing := ⟨_, (c.t.d.def_ 10 (d := d10) rfl).choose, He.glo_ok X Gh (c.t.d.fact 23 (f := .glo "last_writing") rfl), (c.t.d.def_ 10 (d := d10) rfl).choose_spec⟩,
    d_is_design := ⟨_, (c.t.d.def_ 11 (d := d11) rfl).choose, He.glo_ok X Gh (c.t.d.fact 24 (f := .glo "is_design") rfl), (c.t.d.def_ 11 (d := d11) rfl).choose_spec⟩,
    d_need_design := ⟨_, (c.t.d.def_ 12 (d := d12) rfl).choose, He.glo_ok X Gh (c.t.d.fact 25 (f := .glo "need_design") rfl), (c.t.d.def_ 12 (d := d12) rfl).choose_spec⟩,
    d_letter_of := ⟨_, (c.t.d.def_ 13 (d := d13) rfl).choose, He.glo_ok X Gh (c.t.d.fact 26 (f := .glo "letter_of") rfl), (c.t.d.def_ 13 (d := d13) rfl).choose_spec⟩,
    d_asks_read := ⟨_, (c.t.d.def_ 14 (d := d14) rfl).choose, He.glo_ok X Gh (c.t.d.fact 27 (f := .glo "asks_read") rfl), (c.t.d.def_ 14 (d := d14) rfl).choose_spec⟩,
    d_own_read := ⟨_, (c.t.d.def_ 15 (d := d15) rfl).choose, He.glo_ok X Gh (c.t.d.fact 28 (f := .glo "own_read") rfl), (c.t.d.def_ 15 (d := d15) rfl).choose_spec⟩,
    d_keeps := ⟨_, (c.t.d.def_ 16 (d := d16) rfl).choose, He.glo_ok X Gh (c.t.d.fact 29 (f := .glo "keeps") rfl), (c.t.d.def_ 16 (d := d16) rfl).choose_spec⟩,
    d_need_run := ⟨_, (c.t.d.def_ 17 (d := d17) rfl).choose, He.glo_ok X Gh (c.t.d.fact 30 (f := .glo "need_run") rfl), (c.t.d.def_ 17 (d := d17) rfl).choose_spec⟩,
    d_is_event := ⟨_, (c.t.d.def_ 18 (d := d18) rfl).choose, He.glo_ok X Gh (c.t.d.fact 31 (f := .glo "is_event") rfl), (c.t.d.def_ 18 (d := d18) rfl).choose_spec⟩,
    d_events_behind := ⟨_, (c.t.d.def_ 19 (d := d19) rfl).choose, He.glo_ok X Gh (c.t.d.fact 32 (f := .glo "events_behind") rfl), (c.t.d.def_ 19 (d := d19) rfl).choose_spec⟩,
    d_has_ended := ⟨_, (c.t.d.def_ 20 (d := d20) rfl).choose, He.glo_ok X Gh (c.t.d.fact 33 (f := .glo "has_ended") rfl), (c.t.d.def_ 20 (d := d20) rfl).choose_spec⟩,
    d_told_by := ⟨_, (c.t.d.def_ 21 (d := d21) rfl).choose, He.glo_ok X Gh (c.t.d.fact 34 (f := .glo "told_by") rfl), (c.t.d.def_ 21 (d := d21) rfl).choose_spec⟩,
    d_law_taken := ⟨_, (c.t.d.def_ 22 (d := d22) rfl).choose, He.glo_ok X Gh (c.t.d.fact 35 (f := .glo "_law_taken") rfl), (c.t.d.def_ 22 (d := d22) rfl).choose_spec⟩,
    d_law_pick := ⟨_, (c.t.d.def_ 23 (d := d23) rfl).choose, He.glo_ok X Gh (c.t.d.fact 36 (f := .glo "_law_pick") rfl), (c.t.d.def_ 23 (d := d23) rfl).choose_spec⟩,
    d_law_alike := ⟨_, (c.t.d.def_ 24 (d := d24) rfl).choose, He.glo_ok X Gh (c.t.d.fact 37 (f := .glo "_law_alike") rfl), (c.t.d.def_ 24 (d := d24) rfl).choose_spec⟩,
    d_law_instruction := ⟨_, (c.t.d.def_ 25 (d := d25) rfl).choose, He.glo_ok X Gh (c.t.d.fact 38 (f := .glo "_law_instruction") rfl), (c.t.d.def_ 25 (d := d25) rfl).choose_spec⟩,
    d_law_program := ⟨_, (c.t.d.def_ 26 (d := d26) rfl).choose, He.glo_ok X Gh (c.t.d.fact 39 (f := .glo "_law_program") rfl), (c.t.d.def_ 26 (d := d26) rfl).choose_spec⟩,
    d_law_design := ⟨_, (c.t.d.def_ 27 (d := d27) rfl).choose, He.glo_ok X Gh (c.t.d.fact 40 (f := .glo "_law_design") rfl), (c.t.d.def_ 27 (d := d27) rfl).choose_spec⟩,
    d_law_letter := ⟨_, (c.t.d.def_ 28 (d := d28) rfl).choose, He.glo_ok X Gh (c.t.d.fact 41 (f := .glo "_law_letter") rfl), (c.t.d.def_ 28 (d := d28) rfl).choose_spec⟩,
    d_law_cell := ⟨_, (c.t.d.def_ 29 (d := d29) rfl).choose, He.glo_ok X Gh (c.t.d.fact 42 (f := .glo "_law_cell") rfl), (c.t.d.def_ 29 (d := d29) rfl).choose_spec⟩,
    d_law_last := ⟨_, (c.t.d.def_ 30 (d := d30) rfl).choose, He.glo_ok X Gh (c.t.d.fact 43 (f := .glo "_law_last") rfl), (c.t.d.def_ 30 (d := d30) rfl).choose_spec⟩,
    d_law_must := ⟨_, (c.t.d.def_ 31 (d := d31) rfl).choose, He.glo_ok X Gh (c.t.d.fact 44 (f := .glo "_law_must") rfl), (c.t.d.def_ 31 (d := d31) rfl).choose_spec⟩,
    d_law_begin := ⟨_, (c.t.d.def_ 32 (d := d32) rfl).choose, He.glo_ok X Gh (c.t.d.fact 45 (f := .glo "_law_begin") rfl), (c.t.d.def_ 32 (d := d32) rfl).choose_spec⟩,
    d_law_word := ⟨_, (c.t.d.def_ 33 (d := d33) rfl).choose, He.glo_ok X Gh (c.t.d.fact 46 (f := .glo "_law_word") rfl), (c.t.d.def_ 33 (d := d33) rfl).choose_spec⟩,
    d_law_written := ⟨_, (c.t.d.def_ 34 (d := d34) rfl).choose, He.glo_ok X Gh (c.t.d.fact 47 (f := .glo "_law_written") rfl), (c.t.d.def_ 34 (d := d34) rfl).choose_spec⟩,
    d_law_can := ⟨_, (c.t.d.def_ 35 (d := d35) rfl).choose, He.glo_ok X Gh (c.t.d.fact 48 (f := .glo "_law_can") rfl), (c.t.d.def_ 35 (d := d35) rfl).choose_spec⟩,
    d_law_events := ⟨_, (c.t.d.def_ 36 (d := d36) rfl).choose, He.glo_ok X Gh (c.t.d.fact 49 (f := .glo "_law_events") rfl), (c.t.d.def_ 36 (d := d36) rfl).choose_spec⟩,
    d_law_do := ⟨_, (c.t.d.def_ 37 (d := d37) rfl).choose, He.glo_ok X Gh (c.t.d.fact 50 (f := .glo "_law_do") rfl), (c.t.d.def_ 37 (d := d37) rfl).choose_spec⟩,
    d_law_over := ⟨_, (c.t.d.def_ 38 (d := d38) rfl).choose, He.glo_ok X Gh (c.t.d.fact 51 (f := .glo "_law_over") rfl), (c.t.d.def_ 38 (d := d38) rfl).choose_spec⟩,
    d_law_outcome := ⟨_, (c.t.d.def_ 39 (d := d39) rfl).choose, He.glo_ok X Gh (c.t.d.fact 52 (f := .glo "_law_outcome") rfl), (c.t.d.def_ 39 (d := d39) rfl).choose_spec⟩,
    d_law_not_made := ⟨_, (c.t.d.def_ 40 (d := d40) rfl).choose, He.glo_ok X Gh (c.t.d.fact 53 (f := .glo "_law_not_made") rfl), (c.t.d.def_ 40 (d := d40) rfl).choose_spec⟩ }
end G
open PySem PySem.W PySem.Calls PyProof.Rows
set_option maxRecDepth 100000 in
set_option maxHeartbeats 0 in
theorem PySem.Challenge.cw_pairskept_k03_whole_rows_holds : PySem.Challenge.rw_pairskept_k03_whole_rows.Holds := by
  w_on; o_law
  refine HandSHeadRun.head_any (r := OpenLaw.row PySem.Challenge.rw_pairskept_k03_whole_rows) (q := view (OpenLaw.row PySem.Challenge.rw_pairskept_k03_whole_rows).prog [61]) (H := G.hk) (ob := G.ob) (M := 8000) (loose := G.loose) (d := HandSHeadRun.topDef (OpenLaw.row PySem.Challenge.rw_pairskept_k03_whole_rows).prog 61) (kwd := []) G.ob_eq
    (by kernel_rfl) (fun s => by kernel_rfl) G.run (by kernel_rfl) (by kernel_rfl) (by kernel_rfl) (by rfl) (by first | assumption | decide +kernel) (by decide +kernel) ⟨rfl, rfl, rfl, rfl, rfl, by decide +kernel⟩ ?hw ?hc
  case hw => w_witness2
  case hc =>
    refine LamX.walk_ofTsE (l := PySem.Challenge.rw_pairskept_k03_whole_rows) (n := 63) (k := 11) (x := "_law_script") (CX := fun w => L2.CX (PySem.Challenge.rw_pairskept_k03_whole_rows).prog w) rfl (by decide) (by kernel_rfl) ⟨rfl, by decide, by decide⟩ ?F (fun _ _ _ _ _ z => J.pass_none z)
    intro w mg fa h Y Gh hmg0
    obtain ⟨K, KX, c⟩ := Y
    have hmg : mg ("law" : PySem.Str) = some (.ref fa) := by
      have e : (HandSHeadRun.topDef (OpenLaw.row PySem.Challenge.rw_pairskept_k03_whole_rows).prog 61).name = ("law" : PySem.Str) := by kernel_rfl
      rw [← e]
      exact hmg0
    have e := hmg.symm.trans (He.glo_ok KX Gh (c.t.d.fact 54 (f := .glo "law") rfl))
    cases e
    obtain ⟨fd, F⟩ := c.t.d.def_ 41 (d := G.d41) rfl
    have hcT : (("law" : PySem.Str), (none : Option PySem.Str)) ∈ ([("law", none)] : List He.Defn) := List.mem_cons_self
    refine ⟨K, KX, fd, [He.cT K ("law", none)], J.spJ K (G.ct K (He.cT K ("law", none)).2) 1 G.F_law, fun p hp => ?_, fun p hp => ?_, fun p hp => ?_, fun s v => (F.bindsA (ps := ["_law_script"]) fun _ _ _ _ _ _ us hl => match us, hl with | [_], _ => rfl) s [v] rfl, fun H a ns hl _ hT hS => ?_, fun base kb nb hb => ?_⟩
    · rw [List.mem_singleton.mp hp]; exact c.empty _ hcT
    · rw [List.mem_singleton.mp hp]; exact c.out _ hcT
    · rw [List.mem_singleton.mp hp]; exact PySem.W.codeHd_of_K KX (c.hd _ hcT)
    · exact J.spJ_law (fun p hp => by
        have ep : p = ((He.cT K ("law", none)).2, (("law" : PySem.Str) ++ ".<locals>.") ++ "<lambda>") := List.mem_singleton.mp hp
        rw [ep]; exact hT _ List.mem_cons_self) hS (G.plain ns hl)
    · exact G.j_law (G.fx KX Gh c) F rfl rfl (hb _ List.mem_cons_self) rfl

