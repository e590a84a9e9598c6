import PyProof.Rows.All
import Wide.All
import OpenK.AllK
import Wide.FinOn
import HandS.ForMost
import HandS.Exc
import HandS.ExcOwn
import HandS.WordsExc
import HandS.IsInst
import HandS.TupAny
import HandS.TupMul
import HandS.TupLe
import HandS.Lambda
import HandS.Deep
import HandS.ExcIs
import HandS.HeadHook4
import HandS.HeadEnd
import HandS.HeadWalk
import HandS.Style
import HandS.RaiseMore
import HandS.Iter
import HandS.Strs
import HandS.SetFor
import HandS.Set
import PySem.Challenge.RW_pairskept_k09_whole_instructions
import HandS.Head0
import HandS.Head1
import HandS.Head2
set_option Elab.async false
set_option linter.all false
set_option maxRecDepth 100000
set_option maxHeartbeats 4000000
/-! J0: data, mutable objects by number, how they lie in the layer's heap. -/
namespace J
open PySem PySem.Spec L2

/-- a value -/
inductive D where
  | non | bl (b : Bool) | int (i : Int) | str (x : Str) | ty (n : String) | tup (ds : List D) | lst (ds : List D) | frz (ds : List D) | obj (n : Nat) | raw (a : Addr)

/-- a mutable object: a list, a dict with int and text keys, an instance -/
inductive IO where
  | lst (ds : List D) | dic (kvs : List (Key × D)) | ins (c : Nat) (fs : List (Str × D))

abbrev S := List IO
abbrev Env := List (Option D)
/-- an exception: its class, a field -/
structure Ex where
  cls : Nat
  arg : Option (Str × D) := none
inductive R (α : Type) where
  | ok (a : α) (s : S) | err (e : Ex) (s : S) | no
def R.bind {α β : Type} (r : R α) (k : α → S → R β) : R β := match r with
  | .ok a s => k a s
  | .err e s => .err e s
  | .no => .no
inductive Fl where
  | nx (ρ : Env) | rt (d : D) | bk (ρ : Env) | ct (ρ : Env)
abbrev GE := Env → S → R D
abbrev GT := Env → S → R Bool
abbrev GA := Env → S → R (List D)
abbrev GS := Env → S → R Fl

/-- the own classes by number; the tables of code objects of defs that make lambdas -/
structure Ct where
  c : Nat → Addr
  T : List (Addr × Str)
/-- the mutable objects' addresses by number; all addresses whose lists may change -/
structure Wd where
  ι : List Addr
  M : List Addr

/-- a tuple stands at a: in the heap, or in the written part -/
def TupAt (K : PySem.W.Frag) (H : Hp) (a : Addr) (vs : List V) : Prop := H a = some (.tup vs) ∨
  ∃ (o : Obj) (its : Array Value) (n : Nat), K.lookup a = some o ∧ o.cls = .type "tuple" ∧ o.data = .seq its n ∧ its.size ≤ sizeLine ∧ Vals vs its.toList
theorem TupAt.sq {K : PySem.W.Frag} {H : Hp} {a : Addr} {vs : List V} (h : TupAt K H a vs) : SqT K H a vs := h.elim (fun h => SqT.of h) .inr

/-- a list that is never changed stands at a: locked, or in the written part -/
def FrzAt (K : PySem.W.Frag) (H : Hp) (a : Addr) (vs : List V) : Prop := (∃ o, H a = some (.frz o (.lst vs))) ∨
  ∃ (o : Obj) (its : Array Value) (n : Nat), K.lookup a = some o ∧ o.cls = .type "list" ∧ o.dict = none ∧ o.data = .seq its n ∧ its.size ≤ sizeLine ∧ Vals vs its.toList
theorem FrzAt.sq {K : PySem.W.Frag} {H : Hp} {a : Addr} {vs : List V} (h : FrzAt K H a vs) : SqL K H a vs := h.elim (fun ⟨o, h⟩ => .inl (.inr ⟨o, h⟩)) .inr

mutual
inductive Rep (K : PySem.W.Frag) (ι : Wd) (H : Hp) : D → V → Prop
  | non : Rep K ι H .non .non
  | bl (b : Bool) : Rep K ι H (.bl b) (.bl b)
  | int (i : Int) : Rep K ι H (.int i) (.int i)
  | str (x : Str) : Rep K ι H (.str x) (.str x)
  | ty (n : String) : Rep K ι H (.ty n) (.ty n)
  | tup {a : Addr} {vs : List V} {ds : List D} : TupAt K H a vs → Reps K ι H ds vs → Rep K ι H (.tup ds) (.ref a)
  | lst {a : Addr} {vs : List V} {ds : List D} : H a = some (.lst vs) → a ∉ ι.M → Reps K ι H ds vs → Rep K ι H (.lst ds) (.ref a)
  | frz {a : Addr} {vs : List V} {ds : List D} : FrzAt K H a vs → Reps K ι H ds vs → Rep K ι H (.frz ds) (.ref a)
  | frz2 {a : Addr} {vs : List V} {ds : List D} : H a = some (.lst vs) → a ∉ ι.M → Reps K ι H ds vs → Rep K ι H (.frz ds) (.ref a)
  | obj {a : Addr} {n : Nat} : ι.ι[n]? = some a → Rep K ι H (.obj n) (.ref a)
  | raw (a : Addr) : Rep K ι H (.raw a) (.ref a)
inductive Reps (K : PySem.W.Frag) (ι : Wd) (H : Hp) : List D → List V → Prop
  | nil : Reps K ι H [] []
  | cons {d : D} {ds : List D} {v : V} {vs : List V} : Rep K ι H d v → Reps K ι H ds vs → Reps K ι H (d :: ds) (v :: vs)
end

/-- not a table of code objects -/
def NoTab (o : HO) : Prop := ∀ ps, o ≠ .tbl ps
theorem noTab_lst {xs : List V} : NoTab (.lst xs) := fun _ z => by cases z
/-- what a value's form leans on is kept -/
structure Ke (ι : Wd) (H : Hp) (ι' : Wd) (H' : Hp) : Prop where
  pre : ι.ι <+: ι'.ι
  keep : ∀ a o, H a = some o → NoTab o → a ∉ ι.M → H' a = some o ∧ a ∉ ι'.M
  tup : ∀ a xs, H a = some (.tup xs) → H' a = some (.tup xs)
  frz : ∀ a o u, H a = some (.frz o u) → H' a = some (.frz o u)
/-- all but the mutable objects is kept -/
structure Le (ι : Wd) (H : Hp) (ι' : Wd) (H' : Hp) : Prop extends Ke ι H ι' H' where
  stay : ∀ a o, H a = some o → NoTab o → a ∉ ι.ι → H' a = some o ∧ a ∉ ι'.ι
  sub : ∀ a ∈ ι.M, a ∈ ι'.M

theorem Ke.refl {ι : Wd} {H : Hp} : Ke ι H ι H := ⟨List.prefix_rfl, fun _ _ h _ n => ⟨h, n⟩, fun _ _ h => h, fun _ _ _ h => h⟩
theorem Le.refl {ι : Wd} {H : Hp} : Le ι H ι H := ⟨.refl, fun _ _ h _ n => ⟨h, n⟩, fun _ h => h⟩
theorem Ke.trans {ι ι1 ι2 : Wd} {H H1 H2 : Hp} (a : Ke ι H ι1 H1) (b : Ke ι1 H1 ι2 H2) : Ke ι H ι2 H2 :=
  ⟨a.pre.trans b.pre, fun c o h t n => let q := a.keep c o h t n; b.keep c o q.1 t q.2, fun c xs h => b.tup c xs (a.tup c xs h), fun c o u h => b.frz c o u (a.frz c o u h)⟩
theorem Le.trans {ι ι1 ι2 : Wd} {H H1 H2 : Hp} (a : Le ι H ι1 H1) (b : Le ι1 H1 ι2 H2) : Le ι H ι2 H2 :=
  ⟨a.toKe.trans b.toKe, fun c o h t n => let q := a.stay c o h t n; b.stay c o q.1 t q.2, fun c h => b.sub c (a.sub c h)⟩
theorem Ke.get {ι ι' : Wd} {H H' : Hp} (l : Ke ι H ι' H') {n : Nat} {a : Addr} (h : ι.ι[n]? = some a) : ι'.ι[n]? = some a := by
  obtain ⟨t, e⟩ := l.pre
  rw [← e, List.getElem?_append_left (List.getElem?_eq_some_iff.mp h).1]; exact h
theorem Ke.tupAt {K : PySem.W.Frag} {ι ι' : Wd} {H H' : Hp} {a : Addr} {vs : List V} (l : Ke ι H ι' H') (h : TupAt K H a vs) : TupAt K H' a vs := h.elim (fun h => .inl (l.tup _ _ h)) .inr

theorem Ke.frzAt {K : PySem.W.Frag} {ι ι' : Wd} {H H' : Hp} {a : Addr} {vs : List V} (l : Ke ι H ι' H') (h : FrzAt K H a vs) : FrzAt K H' a vs := h.elim (fun ⟨o, h⟩ => .inl ⟨o, l.frz _ _ _ h⟩) .inr

mutual
theorem Rep.monoK {K : PySem.W.Frag} {ι ι' : Wd} {H H' : Hp} (l : Ke ι H ι' H') : ∀ {d : D} {v : V}, Rep K ι H d v → Rep K ι' H' d v
  | _, _, .non => .non
  | _, _, .bl b => .bl b
  | _, _, .int i => .int i
  | _, _, .str x => .str x
  | _, _, .ty n => .ty n
  | _, _, .tup h r => .tup (l.tupAt h) (Reps.monoK l r)
  | _, _, .lst h n r => .lst (l.keep _ _ h noTab_lst n).1 (l.keep _ _ h noTab_lst n).2 (Reps.monoK l r)
  | _, _, .frz h r => .frz (l.frzAt h) (Reps.monoK l r)
  | _, _, .frz2 h n r => .frz2 (l.keep _ _ h noTab_lst n).1 (l.keep _ _ h noTab_lst n).2 (Reps.monoK l r)
  | _, _, .obj h => .obj (l.get h)
  | _, _, .raw a => .raw a
theorem Reps.monoK {K : PySem.W.Frag} {ι ι' : Wd} {H H' : Hp} (l : Ke ι H ι' H') : ∀ {ds : List D} {vs : List V}, Reps K ι H ds vs → Reps K ι' H' ds vs
  | _, _, .nil => .nil
  | _, _, .cons r t => .cons (Rep.monoK l r) (Reps.monoK l t)
end
theorem Rep.mono {K : PySem.W.Frag} {ι ι' : Wd} {H H' : Hp} {d : D} {v : V} (r : Rep K ι H d v) (l : Le ι H ι' H') : Rep K ι' H' d v := Rep.monoK l.toKe r
theorem Reps.mono {K : PySem.W.Frag} {ι ι' : Wd} {H H' : Hp} {d : List D} {v : List V} (r : Reps K ι H d v) (l : Le ι H ι' H') : Reps K ι' H' d v := Reps.monoK l.toKe r
section
variable {K : PySem.W.Frag} {ι : Wd} {H : Hp}
theorem Reps.length : ∀ {ds : List D} {vs : List V}, Reps K ι H ds vs → ds.length = vs.length
  | _, _, .nil => rfl
  | _, _, .cons _ t => congrArg (· + 1) (Reps.length t)
theorem Reps.get : ∀ {ds : List D} {vs : List V} {i : Nat} {d : D}, Reps K ι H ds vs → ds[i]? = some d → ∃ v, vs[i]? = some v ∧ Rep K ι H d v
  | _, _, _, _, .nil, e => by simp at e
  | _, _, 0, _, .cons r _, e => by simp at e; subst e; exact ⟨_, rfl, r⟩
  | _, _, i + 1, _, .cons _ t, e => by
    obtain ⟨v, h1, h2⟩ := Reps.get (i := i) t (by simpa using e)
    exact ⟨v, by simpa using h1, h2⟩
theorem Reps.getV : ∀ {ds : List D} {vs : List V} {i : Nat} {v : V}, Reps K ι H ds vs → vs[i]? = some v → ∃ d, ds[i]? = some d ∧ Rep K ι H d v
  | _, _, _, _, .nil, e => by simp at e
  | _, _, 0, _, .cons r _, e => by simp at e; subst e; exact ⟨_, rfl, r⟩
  | _, _, i + 1, _, .cons _ t, e => by
    obtain ⟨v, h1, h2⟩ := Reps.getV (i := i) t (by simpa using e)
    exact ⟨v, by simpa using h1, h2⟩
theorem Reps.append : ∀ {ds es : List D} {vs ws : List V}, Reps K ι H ds vs → Reps K ι H es ws → Reps K ι H (ds ++ es) (vs ++ ws)
  | _, _, _, _, .nil, s => s
  | _, _, _, _, .cons r t, s => .cons r (Reps.append t s)
theorem Reps.take : ∀ {ds : List D} {vs : List V} (n : Nat), Reps K ι H ds vs → Reps K ι H (ds.take n) (vs.take n)
  | _, _, 0, _ => .nil
  | _, _, _ + 1, .nil => .nil
  | _, _, n + 1, .cons r t => .cons r (Reps.take n t)
theorem Reps.drop : ∀ {ds : List D} {vs : List V} (n : Nat), Reps K ι H ds vs → Reps K ι H (ds.drop n) (vs.drop n)
  | _, _, 0, r => r
  | _, _, _ + 1, .nil => .nil
  | _, _, n + 1, .cons _ t => Reps.drop n t
theorem Reps.set {d : D} {v : V} (r : Rep K ι H d v) : ∀ {ds : List D} {vs : List V} (i : Nat), Reps K ι H ds vs → Reps K ι H (ds.set i d) (vs.set i v)
  | _, _, _, .nil => .nil
  | _, _, 0, .cons _ t => .cons r t
  | _, _, i + 1, .cons q t => .cons q (Reps.set r i t)
theorem Reps.rep {d : D} {v : V} (r : Rep K ι H d v) : ∀ n : Nat, Reps K ι H (List.replicate n d) (List.replicate n v)
  | 0 => .nil
  | n + 1 => .cons r (Reps.rep r n)
theorem Reps.flat {ds : List D} {vs : List V} (r : Reps K ι H ds vs) : ∀ k : Nat, Reps K ι H (List.replicate k ds).flatten (List.replicate k vs).flatten
  | 0 => .nil
  | k + 1 => by rw [List.replicate_succ, List.replicate_succ, List.flatten_cons, List.flatten_cons]; exact r.append (Reps.flat r k)
theorem Reps.ints : ∀ {ns : List Int} {vs : List V}, Reps K ι H (ns.map D.int) vs → vs = ns.map V.int
  | [], _, h => by cases h; rfl
  | n :: ns, _, h => by
    cases h with
    | cons r t => cases r; rw [Reps.ints t]; rfl
theorem Reps.bls : ∀ {ns : List Bool} {vs : List V}, Reps K ι H (ns.map D.bl) vs → vs = ns.map V.bl
  | [], _, h => by cases h; rfl
  | n :: ns, _, h => by
    cases h with
    | cons r t => cases r; rw [Reps.bls t]; rfl
theorem Reps.strs : ∀ {ns : List Str} {vs : List V}, Reps K ι H (ns.map D.str) vs → vs = ns.map V.str
  | [], _, h => by cases h; rfl
  | n :: ns, _, h => by
    cases h with
    | cons r t => cases r; rw [Reps.strs t]; rfl
end

/-- what may change -/
def MutJ : HO → Prop
  | .lst _ => True
  | .dK _ => True
  | .ins _ _ _ => True
  | _ => False
theorem MutJ.mut {o : HO} (h : MutJ o) : Mut (some o) := by
  cases o <;> first | trivial | exact h.elim
theorem MutJ.noTab {o : HO} (h : MutJ o) : NoTab o := fun ps z => by rw [z] at h; exact h
theorem MutJ.noExt {o : HO} (h : MutJ o) (φ : Heap → Prop) : o ≠ .ext φ := fun z => by rw [z] at h; exact h
/-- the tables of code objects stand -/
def TabsJ (T : List (Addr × Str)) (ι : Wd) (H : Hp) : Prop := ∀ p ∈ T, ∃ ps : Array Value, H p.1 = some (.tbl ps) ∧ p.1 ∉ ι.M ∧ TriplesOk ps.toList ∧ ∀ (pos : Pos) (cv : Value), codeAmong pos ps.toList = some cv → ∃ c, cv = .ref c ∧ H c = some (LamX.CodeO c p.2) ∧ c ∉ ι.M
theorem TabsJ.keep {T : List (Addr × Str)} {ι ι' : Wd} {H H' : Hp} (t : TabsJ T ι H) (k : ∀ a o, H a = some o → a ∉ ι.M → H' a = some o ∧ a ∉ ι'.M) : TabsJ T ι' H' := fun p hp => by
  obtain ⟨ps, h1, h2, h3, h4⟩ := t p hp
  refine ⟨ps, (k _ _ h1 h2).1, (k _ _ h1 h2).2, h3, fun pos cv hc => ?_⟩
  obtain ⟨c, e, h5, h6⟩ := h4 pos cv hc
  exact ⟨c, e, (k _ _ h5 h6).1, (k _ _ h5 h6).2⟩
theorem TabsJ.tabs {T : List (Addr × Str)} {ι : Wd} {H : Hp} (t : TabsJ T ι H) : LamX.Tabs T H := fun p hp => by
  obtain ⟨ps, h1, h2, h3, h4⟩ := t p hp
  exact ⟨ps, h1, h3, fun pos cv hc => let ⟨c, e, h5, _⟩ := h4 pos cv hc; ⟨c, e, h5⟩⟩
/-- keyed values, pair by pair -/
def RepF {κ : Type} (K : PySem.W.Frag) (ι : Wd) (H : Hp) : List (κ × D) → List (κ × V) → Prop := Paired fun p q => p.1 = q.1 ∧ Rep K ι H p.2 q.2
def RepO (K : PySem.W.Frag) (ca : Ct) (ι : Wd) (H : Hp) (a : Addr) : IO → Prop
  | .lst ds => ∃ vs, H a = some (.lst vs) ∧ Reps K ι H ds vs
  | .dic kvs => ∃ ws, H a = some (.dK ws) ∧ RepF K ι H kvs ws
  | .ins c fs => ∃ dx ws, H a = some (.ins (ca.c c) dx ws) ∧ RepF K ι H fs ws
theorem RepF.monoK {κ : Type} {K : PySem.W.Frag} {ι ι' : Wd} {H H' : Hp} (l : Ke ι H ι' H') {xs : List (κ × D)} {ys : List (κ × V)} (r : RepF K ι H xs ys) : RepF K ι' H' xs ys :=
  Paired.mapP r fun _ _ q => ⟨q.1, Rep.monoK l q.2⟩
theorem RepF.mono {κ : Type} {K : PySem.W.Frag} {ι ι' : Wd} {H H' : Hp} (l : Le ι H ι' H') {xs : List (κ × D)} {ys : List (κ × V)} (r : RepF K ι H xs ys) : RepF K ι' H' xs ys := RepF.monoK l.toKe r
structure Sim (K : PySem.W.Frag) (ca : Ct) (ι : Wd) (s : S) (H : Hp) : Prop where
  len : ι.ι.length = s.length
  nd : ι.ι.Nodup
  sub : ∀ a ∈ ι.ι, a ∈ ι.M
  tr : ∀ a ∈ ι.M, ∃ o, H a = some o ∧ MutJ o
  tab : TabsJ ca.T ι H
  ob : ∀ (n : Nat) (a : Addr) (o : IO), ι.ι[n]? = some a → s[n]? = some o → RepO K ca ι H a o
/-- the names' values -/
structure RelS (K : PySem.W.Frag) (ι : Wd) (H : Hp) (ρ : Env) (σ : L2.St) : Prop where
  len : ρ.length = σ.length
  at_ : ∀ (i : Nat) (d : D), ρ[i]? = some (some d) → ∃ v, σ[i]? = some (some v) ∧ Rep K ι H d v
def RepX (K : PySem.W.Frag) (ca : Ct) (ι : Wd) (H : Hp) (e : Ex) (cv : Value) (d : Option Addr) : Prop :=
  cv = .ref (ca.c e.cls) ∧ (e.arg = none → d = none) ∧ ∀ f x, e.arg = some (f, x) → ∃ dd fs v, d = some dd ∧ H dd = some (.xd fs) ∧ fs.lookup f = some v ∧ Rep K ι H x v
section
variable {K : PySem.W.Frag} {ca : Ct} {ι ι' : Wd} {H H' : Hp} {ρ : Env} {σ : L2.St} {s : S}
theorem RelS.mono (r : RelS K ι H ρ σ) (l : Le ι H ι' H') : RelS K ι' H' ρ σ := ⟨r.len, fun i d h => let ⟨v, a, b⟩ := r.at_ i d h; ⟨v, a, b.mono l⟩⟩
theorem RelS.set (r : RelS K ι H ρ σ) {d : D} {v : V} (q : Rep K ι H d v) (i : Nat) : RelS K ι H (ρ.set i (some d)) (σ.set i (some v)) := by
  refine ⟨by simp [r.len], fun j e h => ?_⟩
  by_cases hj : i = j
  · subst hj
    have hl : i < ρ.length := by
      have := (List.getElem?_eq_some_iff.mp h).1
      simpa using this
    rw [List.getElem?_set_self hl] at h
    cases h
    exact ⟨v, List.getElem?_set_self (by rw [← r.len]; exact hl), q⟩
  · rw [List.getElem?_set_ne hj] at h
    rw [List.getElem?_set_ne hj]
    exact r.at_ j e h
theorem RelS.wipe (r : RelS K ι H ρ σ) : ∀ vs : List Nat, RelS K ι H (vs.foldr (fun v l => l.set v none) ρ) (L2.wipe σ vs)
  | [] => r
  | v :: vs => by
    have q := RelS.wipe r vs
    refine ⟨by simp [L2.wipe, q.len], fun j e h => ?_⟩
    simp only [List.foldr_cons] at h
    unfold L2.wipe
    by_cases hj : v = j
    · subst hj
      rw [List.getElem?_set] at h
      simp at h
    · rw [List.getElem?_set_ne hj] at h
      rw [List.getElem?_set_ne hj]
      exact q.at_ j e h
theorem RepO.monoK (l : Ke ι H ι' H') {a : Addr} {u : IO} (e : H' a = H a) (q : RepO K ca ι H a u) : RepO K ca ι' H' a u := by
  cases u with
  | lst ds => obtain ⟨vs, h, r⟩ := q; exact ⟨vs, by rw [e]; exact h, Reps.monoK l r⟩
  | dic kvs => obtain ⟨vs, h, r⟩ := q; exact ⟨vs, by rw [e]; exact h, RepF.monoK l r⟩
  | ins c fs => obtain ⟨dx, ws, h, r⟩ := q; exact ⟨dx, ws, by rw [e]; exact h, RepF.monoK l r⟩
theorem RepO.mono (l : Le ι H ι' H') {a : Addr} {u : IO} (q : RepO K ca ι H a u) (e : H' a = H a) : RepO K ca ι' H' a u := RepO.monoK l.toKe e q
theorem Sim.tracked (m : Sim K ca ι s H) {a : Addr} (h : a ∈ ι.ι) : ∃ o, H a = some o ∧ MutJ o := m.tr a (m.sub a h)
theorem Sim.ne (m : Sim K ca ι s H) {p : Addr} (h : H p = none) : p ∉ ι.M := fun hp => by
  obtain ⟨o, q, _⟩ := m.tr p hp
  rw [h] at q; cases q
/-- a new object -/
theorem Le.new {p : Addr} {o : HO} (h : H p = none) : Le ι H ι (upd H p o) :=
  ⟨⟨List.prefix_rfl, fun a u q _ n => ⟨by rw [upd_ne (ne_of_none q h)]; exact q, n⟩, fun a xs q => by rw [upd_ne (ne_of_none q h)]; exact q, fun a xs u q => by rw [upd_ne (ne_of_none q h)]; exact q⟩,
    fun a u q _ n => ⟨by rw [upd_ne (ne_of_none q h)]; exact q, n⟩, fun _ h => h⟩
/-- a heap that changed nowhere but at what may change, apart from the objects by number -/
theorem Sim.grow (m : Sim K ca ι s H) (l : Le ι H ι H') (k : ∀ a ∈ ι.M, H' a = H a) (kt : ∀ a o, H a = some o → a ∉ ι.M → H' a = some o) : Sim K ca ι s H' :=
  ⟨m.len, m.nd, m.sub, fun a h => by rw [k a h]; exact m.tr a h, m.tab.keep fun a o h n => ⟨kt a o h n, n⟩, fun n a u hn hs => (m.ob n a u hn hs).mono l (k a (m.sub a (List.mem_of_getElem? hn)))⟩
/-- a new object that is never changed -/
theorem Sim.new (m : Sim K ca ι s H) {p : Addr} {o : HO} (h : H p = none) : Le ι H ι (upd H p o) ∧ Sim K ca ι s (upd H p o) :=
  ⟨Le.new h, m.grow (Le.new h) (fun a ha => upd_ne fun z => m.ne h (z ▸ ha)) fun a u q _ => by rw [upd_ne (ne_of_none q h)]; exact q⟩
/-- a new mutable object -/
theorem Sim.alloc (m : Sim K ca ι s H) {p : Addr} {o : HO} {u : IO} (h : H p = none) (mu : MutJ o) (hr : Le ι H ⟨ι.ι ++ [p], p :: ι.M⟩ (upd H p o) → RepO K ca ⟨ι.ι ++ [p], p :: ι.M⟩ (upd H p o) p u) :
    Le ι H ⟨ι.ι ++ [p], p :: ι.M⟩ (upd H p o) ∧ Sim K ca ⟨ι.ι ++ [p], p :: ι.M⟩ (s ++ [u]) (upd H p o) := by
  have l : Le ι H ⟨ι.ι ++ [p], p :: ι.M⟩ (upd H p o) := ⟨⟨List.prefix_append _ _, fun a x q _ n => ⟨by rw [upd_ne (ne_of_none q h)]; exact q, fun z => by
      rcases List.mem_cons.mp z with z | z
      · exact ne_of_none q h z
      · exact n z⟩, fun a xs q => by rw [upd_ne (ne_of_none q h)]; exact q, fun a xs u q => by rw [upd_ne (ne_of_none q h)]; exact q⟩,
    fun a x q _ n => ⟨by rw [upd_ne (ne_of_none q h)]; exact q, fun z => by
      rcases List.mem_append.mp z with z | z
      · exact n z
      · exact ne_of_none q h (by simpa using z)⟩, fun a ha => List.mem_cons_of_mem _ ha⟩
  refine ⟨l, by simp [m.len], ?_, fun a ha => ?_, fun a ha => ?_, m.tab.keep fun a x q n => ⟨by rw [upd_ne (ne_of_none q h)]; exact q, fun z => by
      rcases List.mem_cons.mp z with z | z
      · exact ne_of_none q h z
      · exact n z⟩, fun n a x hn hs => ?_⟩
  · refine List.nodup_append.mpr ⟨m.nd, by simp, fun a ha b hb => ?_⟩
    have : b = p := by simpa using hb
    subst this
    exact fun z => m.ne h (z ▸ m.sub a ha)
  · rcases List.mem_append.mp ha with z | z
    · exact List.mem_cons_of_mem _ (m.sub a z)
    · rw [show a = p by simpa using z]; exact List.mem_cons_self
  · rcases List.mem_cons.mp ha with z | z
    · subst z; exact ⟨o, upd_same, mu⟩
    · rw [upd_ne (show a ≠ p from fun e => m.ne h (by rw [← e]; exact z))]; exact m.tr a z
  · by_cases hlt : n < ι.ι.length
    · have hn' : ι.ι[n]? = some a := by rw [← hn]; exact (List.getElem?_append_left hlt).symm
      rw [List.getElem?_append_left (by rw [← m.len]; exact hlt)] at hs
      exact (m.ob n a x hn' hs).mono l (upd_ne fun z => m.ne h (z ▸ m.sub a (List.mem_of_getElem? hn')))
    · have hn2 : n = ι.ι.length := by
        have := (List.getElem?_eq_some_iff.mp hn).1
        simp at this; omega
      subst hn2
      have hn' : some p = some a := by rw [← hn]; simp
      rw [List.getElem?_append_right (by rw [m.len]; exact Nat.le_refl _)] at hs
      simp [m.len] at hs
      cases hn'
      subst hs
      exact hr l
/-- what may change is changed -/
theorem Ke.write (m : Sim K ca ι s H) {a : Addr} {o : HO} (ha : a ∈ ι.M) : Ke ι H ι (upd H a o) := by
  obtain ⟨x, hx, mu⟩ := m.tr a ha
  exact ⟨List.prefix_rfl, fun b y q _ nb => ⟨by rw [upd_ne (fun z : b = a => nb (by rw [z]; exact ha))]; exact q, nb⟩, fun b xs q => by
      rw [upd_ne (fun z : b = a => by rw [z, hx] at q; cases q; exact mu)]; exact q, fun b ob y q => by
      rw [upd_ne (fun z : b = a => by rw [z, hx] at q; cases q; exact mu)]; exact q⟩
theorem Le.write (m : Sim K ca ι s H) {a : Addr} {o : HO} (ha : a ∈ ι.ι) : Le ι H ι (upd H a o) :=
  ⟨Ke.write m (m.sub a ha), fun b y q _ nb => ⟨by rw [upd_ne (fun z : b = a => nb (by rw [z]; exact ha))]; exact q, nb⟩, fun _ h => h⟩
theorem Sim.idx (m : Sim K ca ι s H) {n j : Nat} {a : Addr} (hn : ι.ι[n]? = some a) (hj : ι.ι[j]? = some a) : n = j := by
  obtain ⟨h1, e1⟩ := List.getElem?_eq_some_iff.mp hn
  obtain ⟨h2, e2⟩ := List.getElem?_eq_some_iff.mp hj
  exact (List.getElem_inj m.nd).mp (e1.trans e2.symm)
/-- a mutable object is changed -/
theorem Sim.write (m : Sim K ca ι s H) {n : Nat} {a : Addr} {o : HO} {u : IO} (hn : ι.ι[n]? = some a) (mu : MutJ o) (hr : Le ι H ι (upd H a o) → RepO K ca ι (upd H a o) a u) :
    Le ι H ι (upd H a o) ∧ Sim K ca ι (s.set n u) (upd H a o) := by
  have l : Le ι H ι (upd H a o) := Le.write m (List.mem_of_getElem? hn)
  refine ⟨l, by simp [m.len], m.nd, m.sub, fun b hb => ?_, m.tab.keep fun b y q nb => ⟨by rw [upd_ne (fun z : b = a => nb (by rw [z]; exact m.sub a (List.mem_of_getElem? hn)))]; exact q, nb⟩, fun j b y hj hs => ?_⟩
  · by_cases e : b = a
    · subst e; exact ⟨o, upd_same, mu⟩
    · rw [upd_ne e]; exact m.tr b hb
  · by_cases e : n = j
    · subst e
      rw [hn] at hj; cases hj
      have hl : n < s.length := by rw [← m.len]; exact (List.getElem?_eq_some_iff.mp hn).1
      rw [List.getElem?_set_self hl] at hs
      cases hs
      exact hr l
    · rw [List.getElem?_set_ne e] at hs
      exact (m.ob j b y hj hs).mono l (upd_ne fun z => e (m.idx hn (z ▸ hj)))
/-- a list that is being filled (not by number) is changed -/
theorem Sim.fill (m : Sim K ca ι s H) {a : Addr} {o : HO} (ha : a ∈ ι.M) (hn : a ∉ ι.ι) (mu : MutJ o) : Ke ι H ι (upd H a o) ∧ Sim K ca ι s (upd H a o) := by
  have l : Ke ι H ι (upd H a o) := Ke.write m ha
  refine ⟨l, m.len, m.nd, m.sub, fun b hb => ?_, m.tab.keep fun b y q nb => ⟨by rw [upd_ne (fun z : b = a => nb (by rw [z]; exact ha))]; exact q, nb⟩, fun j b y hj hs => ?_⟩
  · by_cases e : b = a
    · subst e; exact ⟨o, upd_same, mu⟩
    · rw [upd_ne e]; exact m.tr b hb
  · exact (m.ob j b y hj hs).monoK l (upd_ne fun z => hn (z ▸ List.mem_of_getElem? hj))
/-- a list to be filled comes -/
theorem Sim.open (m : Sim K ca ι s H) {p : Addr} {o : HO} (h : H p = none) (mu : MutJ o) : Le ι H ⟨ι.ι, p :: ι.M⟩ (upd H p o) ∧ Sim K ca ⟨ι.ι, p :: ι.M⟩ s (upd H p o) := by
  have l : Le ι H ⟨ι.ι, p :: ι.M⟩ (upd H p o) := ⟨⟨List.prefix_rfl, fun a x q _ n => ⟨by rw [upd_ne (ne_of_none q h)]; exact q, fun z => by
      rcases List.mem_cons.mp z with z | z
      · exact ne_of_none q h z
      · exact n z⟩, fun a xs q => by rw [upd_ne (ne_of_none q h)]; exact q, fun a xs u q => by rw [upd_ne (ne_of_none q h)]; exact q⟩,
    fun a x q _ n => ⟨by rw [upd_ne (ne_of_none q h)]; exact q, n⟩, fun a ha => List.mem_cons_of_mem _ ha⟩
  refine ⟨l, m.len, m.nd, fun a ha => List.mem_cons_of_mem _ (m.sub a ha), fun a ha => ?_, m.tab.keep fun a x q n => ⟨by rw [upd_ne (ne_of_none q h)]; exact q, fun z => by
      rcases List.mem_cons.mp z with z | z
      · exact ne_of_none q h z
      · exact n z⟩, fun n a x hn hs => ?_⟩
  · rcases List.mem_cons.mp ha with z | z
    · subst z; exact ⟨o, upd_same, mu⟩
    · rw [upd_ne (show a ≠ p from fun e => m.ne h (by rw [← e]; exact z))]; exact m.tr a z
  · exact (m.ob n a x hn hs).mono l (upd_ne fun z => m.ne h (z ▸ m.sub a (List.mem_of_getElem? hn)))
/-- it is filled: from now on it never changes -/
theorem Sim.shut (m : Sim K ca ι s H) {p : Addr} (hn : p ∉ ι.ι) : Ke ι H ⟨ι.ι, ι.M.filter (· ≠ p)⟩ H ∧ Sim K ca ⟨ι.ι, ι.M.filter (· ≠ p)⟩ s H := by
  have l : Ke ι H ⟨ι.ι, ι.M.filter (· ≠ p)⟩ H := ⟨List.prefix_rfl, fun a o h _ n => ⟨h, fun z => n (List.mem_filter.mp z).1⟩, fun _ _ h => h, fun _ _ _ h => h⟩
  refine ⟨l, m.len, m.nd, fun a ha => List.mem_filter.mpr ⟨m.sub a ha, ?_⟩, fun a ha => m.tr a (List.mem_filter.mp ha).1, m.tab.keep fun a o h n => ⟨h, fun z => n (List.mem_filter.mp z).1⟩, fun n a x hn hs => (m.ob n a x hn hs).monoK l rfl⟩
  simp only [ne_eq, decide_not, Bool.not_eq_true', decide_eq_false_iff_not]
  exact fun z => hn (z ▸ ha)
end

/-! ### readings of mirrors -/
def PostE (K : PySem.W.Frag) (ca : Ct) (ι : Wd) (H : Hp) (r : R D) (Q : VK) (E : XK) : Prop := match r with
  | .ok d s' => ∀ ι' v H', Le ι H ι' H' → Sim K ca ι' s' H' → Rep K ι' H' d v → Q v H'
  | .err e s' => ∀ ι' cv dd H', Le ι H ι' H' → Sim K ca ι' s' H' → RepX K ca ι' H' e cv dd → E cv dd H'
  | .no => False
def tG (K : PySem.W.Frag) (ca : Ct) (W : WX) (g : GE) : TE := fun σ H Q => ∃ ι ρ s, RelS K ι H ρ σ ∧ Sim K ca ι s H ∧ PostE K ca ι H (g ρ s) Q (fun cv dd H' => W cv dd σ H')
def PostT (K : PySem.W.Frag) (ca : Ct) (ι : Wd) (H : Hp) (r : R Bool) (Q : Bool → Hp → Prop) (E : XK) : Prop := match r with
  | .ok b s' => ∀ ι' H', Le ι H ι' H' → Sim K ca ι' s' H' → Q b H'
  | .err e s' => ∀ ι' cv dd H', Le ι H ι' H' → Sim K ca ι' s' H' → RepX K ca ι' H' e cv dd → E cv dd H'
  | .no => False
def tT (K : PySem.W.Frag) (ca : Ct) (W : WX) (g : GT) : TT := fun σ H Q => ∃ ι ρ s, RelS K ι H ρ σ ∧ Sim K ca ι s H ∧ PostT K ca ι H (g ρ s) Q (fun cv dd H' => W cv dd σ H')
def PostA (K : PySem.W.Frag) (ca : Ct) (ι : Wd) (H : Hp) (r : R (List D)) (Q : List V → Hp → Prop) (E : XK) : Prop := match r with
  | .ok ds s' => ∀ ι' vs H', Le ι H ι' H' → Sim K ca ι' s' H' → Reps K ι' H' ds vs → Q vs H'
  | .err e s' => ∀ ι' cv dd H', Le ι H ι' H' → Sim K ca ι' s' H' → RepX K ca ι' H' e cv dd → E cv dd H'
  | .no => False
def tA (K : PySem.W.Frag) (ca : Ct) (W : WX) (g : GA) : TA := fun σ H Q => ∃ ι ρ s, RelS K ι H ρ σ ∧ Sim K ca ι s H ∧ PostA K ca ι H (g ρ s) Q (fun cv dd H' => W cv dd σ H')
def PostS (K : PySem.W.Frag) (ca : Ct) (ι : Wd) (H : Hp) (W : WX) (r : R Fl) (D : Ends) : Prop := match r with
  | .ok (.nx ρ') s' => ∀ ι' σ' H', Le ι H ι' H' → Sim K ca ι' s' H' → RelS K ι' H' ρ' σ' → D.nx σ' H'
  | .ok (.bk ρ') s' => ∀ ι' σ' H', Le ι H ι' H' → Sim K ca ι' s' H' → RelS K ι' H' ρ' σ' → D.bk σ' H'
  | .ok (.ct ρ') s' => ∀ ι' σ' H', Le ι H ι' H' → Sim K ca ι' s' H' → RelS K ι' H' ρ' σ' → D.ct σ' H'
  | .ok (.rt d) s' => ∀ ι' v H', Le ι H ι' H' → Sim K ca ι' s' H' → Rep K ι' H' d v → D.rt v H'
  | .err e s' => ∀ ι' cv dd H' σ', Le ι H ι' H' → Sim K ca ι' s' H' → RepX K ca ι' H' e cv dd → W cv dd σ' H'
  | .no => False
def tS (K : PySem.W.Frag) (ca : Ct) (W : WX) (g : GS) : TS := fun D σ H => ∃ ι ρ s, RelS K ι H ρ σ ∧ Sim K ca ι s H ∧ PostS K ca ι H W (g ρ s) D

section
variable {K : PySem.W.Frag} {ca : Ct} {ι ι' : Wd} {H H' : Hp} {r : R D} {Q Q' : VK} {E E' : XK}
theorem PostE.mono (p : PostE K ca ι H r Q E) (l : Le ι H ι' H') : PostE K ca ι' H' r Q E := by
  cases r with
  | ok d s => exact fun ι2 v H2 l2 m q => p ι2 v H2 (l.trans l2) m q
  | err e s => exact fun ι2 cv dd H2 l2 m q => p ι2 cv dd H2 (l.trans l2) m q
  | no => exact p
theorem PostT.mono {r : R Bool} {Q : Bool → Hp → Prop} (p : PostT K ca ι H r Q E) (l : Le ι H ι' H') : PostT K ca ι' H' r Q E := by
  cases r with
  | ok d s => exact fun ι2 H2 l2 m => p ι2 H2 (l.trans l2) m
  | err e s => exact fun ι2 cv dd H2 l2 m q => p ι2 cv dd H2 (l.trans l2) m q
  | no => exact p
theorem PostA.mono {r : R (List D)} {Q : List V → Hp → Prop} (p : PostA K ca ι H r Q E) (l : Le ι H ι' H') : PostA K ca ι' H' r Q E := by
  cases r with
  | ok d s => exact fun ι2 v H2 l2 m q => p ι2 v H2 (l.trans l2) m q
  | err e s => exact fun ι2 cv dd H2 l2 m q => p ι2 cv dd H2 (l.trans l2) m q
  | no => exact p
theorem PostS.mono {W : WX} {r : R Fl} {D : Ends} (p : PostS K ca ι H W r D) (l : Le ι H ι' H') : PostS K ca ι' H' W r D := by
  cases r with
  | ok f s => cases f with
    | nx ρ => exact fun ι2 v H2 l2 m q => p ι2 v H2 (l.trans l2) m q
    | bk ρ => exact fun ι2 v H2 l2 m q => p ι2 v H2 (l.trans l2) m q
    | ct ρ => exact fun ι2 v H2 l2 m q => p ι2 v H2 (l.trans l2) m q
    | rt d => exact fun ι2 v H2 l2 m q => p ι2 v H2 (l.trans l2) m q
  | err e s => exact fun ι2 cv dd H2 σ' l2 m q => p ι2 cv dd H2 σ' (l.trans l2) m q
  | no => exact p
end
end J


set_option Elab.async false
set_option linter.all false
set_option maxRecDepth 100000
set_option maxHeartbeats 4000000
/-! J1: operations on data; the judgements; names, constants, operators, comparisons, tests, displays. -/
namespace J
open PySem PySem.Spec L2

/-! ### operations on data -/
mutual
def D.toPy : D → Option PyData
  | .non => some .none
  | .bl b => some (.bool b)
  | .int i => some (.int i)
  | .str x => some (.str x)
  | .tup ds => (D.toPys ds).map PyData.tuple
  | .lst ds => (D.toPys ds).map PyData.list
  | .frz ds => (D.toPys ds).map PyData.list
  | .ty _ => none
  | .obj _ => none
  | .raw _ => none
def D.toPys : List D → Option (List PyData)
  | [] => some []
  | d :: ds => match D.toPy d, D.toPys ds with
    | some p, some ps => some (p :: ps)
    | _, _ => none
end
/-- the items of a list (of a mutable one: as they stand) -/
def itemsL (s : S) : D → Option (List D)
  | .lst ds => some ds
  | .frz ds => some ds
  | .obj n => match s[n]? with | some (.lst ds) => some ds | _ => none
  | _ => none
def itemsT : D → Option (List D)
  | .tup ds => some ds
  | _ => none
/-- a mutable list as a value for reading -/
def deref (s : S) : D → D
  | .obj n => match s[n]? with | some (.lst ds) => .lst ds | _ => .obj n
  | d => d
def eqD (s : S) (x y : D) : Option Bool := match (deref s x).toPy, (deref s y).toPy with
  | some a, some b => if SeqAt.shaped a && SeqAt.shaped b then some (PyData.eqv a b) else none
  | _, _ => none
def fEq (s : S) (x y : D) : Option D := (eqD s x y).map .bl
def fNe (s : S) (x y : D) : Option D := (eqD s x y).map fun b => .bl !b
def fitL (n : Nat) : Bool := n ≤ 16777216
def fAdd (_ : S) : D → D → Option D
  | .int i, .int j => some (.int (i + j))
  | .str x, .str y => if fitL (x.length + y.length) then some (.str (x ++ y)) else none
  | .tup x, .tup y => if fitL (x.length + y.length) then some (.tup (x ++ y)) else none
  | .lst x, .lst y => if fitL (x.length + y.length) then some (.lst (x ++ y)) else none
  | _, _ => none
def fSub (_ : S) : D → D → Option D
  | .int i, .int j => some (.int (i - j))
  | _, _ => none
def small64 (i : Int) : Bool := decide (-(2 ^ 64) < i) && decide (i < 2 ^ 64)
def fMul (_ : S) : D → D → Option D
  | .int i, .int j => if small64 i || small64 j then some (.int (i * j)) else none
  | .lst x, .int j => if decide (-(2 ^ 63) ≤ j) && decide (j < 2 ^ 63) && fitL (x.length * j.toNat) then some (.lst (List.replicate j.toNat x).flatten) else none
  | .tup x, .int j => if !x.isEmpty && decide (2 ≤ j) && decide (j ≤ 1000) && decide (x.length ≤ 1000) then some (.tup (List.replicate j.toNat x).flatten) else none
  | _, _ => none
def fDiv (_ : S) : D → D → Option D
  | .int i, .int j => if decide (0 < j) && decide (j < 1073741824) then some (.int (i / j)) else none
  | _, _ => none
def fMod (_ : S) : D → D → Option D
  | .int i, .int j => if decide (0 < j) then some (.int (i % j)) else none
  | _, _ => none
def fPow (_ : S) : D → D → Option D
  | .int i, .int j => if decide (0 ≤ j) && decide (j ≤ 1000000) && decide (i.natAbs < 2 ^ 64) then some (.int (i ^ j.toNat)) else none
  | _, _ => none
def fLt (_ : S) : D → D → Option D
  | .int i, .int j => some (.bl (decide (i < j)))
  | .str i, .str j => some (.bl (decide (i.cps.toList < j.cps.toList)))
  | _, _ => none
def fLe (_ : S) : D → D → Option D
  | .int i, .int j => some (.bl (decide (i ≤ j)))
  | _, _ => none
def fGt (_ : S) : D → D → Option D
  | .int i, .int j => some (.bl (decide (j < i)))
  | _, _ => none
def fGe (_ : S) : D → D → Option D
  | .int i, .int j => some (.bl (decide (j ≤ i)))
  | _, _ => none
/-- x is y, y None, True or False -/
def isD : D → D → Option Bool
  | .non, .non => some true
  | .bl a, .bl b => some (decide (a = b))
  | _, .non => some false
  | _, _ => none
def fIs (_ : S) (x y : D) : Option D := (isD x y).map .bl
def fIsN (_ : S) (x y : D) : Option D := (isD x y).map fun b => .bl !b
/-- x in y -/
def inD (s : S) (x y : D) : Option Bool := match y with
  | .str j => match x with | .str i => some (!(Builtin.Str.occurrences j i 0 j.length 1).isEmpty) | _ => none
  | .tup ds => match D.toPy x, D.toPys ds with
    | some p, some ps => if SeqAt.shaped p && SeqAt.shaped (.tuple ps) then some (ps.any fun z => PyData.eqv z p) else none
    | _, _ => none
  | y => match itemsL s y with
    | some ds => match D.toPy x, D.toPys ds with
      | some p, some ps => if SeqAt.shaped p && SeqAt.shaped (.list ps) then some (ps.any fun z => PyData.eqv z p) else none
      | _, _ => none
    | none => none
def fIn (s : S) (x y : D) : Option D := (inD s x y).map .bl
def fNotIn (s : S) (x y : D) : Option D := (inD s x y).map fun b => .bl !b
/-- x[i] -/
def fIdx (s : S) (x i : D) : Option D := match i with
  | .int i => match x with
    | .str z => if fitL z.length then (atI z.cps.toList i).map fun c => .str ⟨#[c]⟩ else none
    | .tup ds => atI ds i
    | x => (itemsL s x).bind fun ds => atI ds i
  | _ => none
def fLen (s : S) (x : D) : Option D := match x with
  | .str z => if fitL z.length then some (.int z.length) else none
  | .tup ds => some (.int ds.length)
  | x => (itemsL s x).map fun ds => .int ds.length

/-! ### data in the heap -/
section
variable {K : PySem.W.Frag} {ca : Ct} {ι ι' : Wd} {H H' : Hp} {s : S}
theorem Sim.items (m : Sim K ca ι s H) {d : D} {v : V} {ds : List D} (r : Rep K ι H d v) (h : itemsL s d = some ds) : ∃ a vs, v = .ref a ∧ SqL K H a vs ∧ Reps K ι H ds vs := by
  cases r with
  | lst h1 h2 h3 => cases h; exact ⟨_, _, rfl, SqL.of h1, h3⟩
  | frz h1 h3 => cases h; exact ⟨_, _, rfl, h1.sq, h3⟩
  | frz2 h1 h2 h3 => cases h; exact ⟨_, _, rfl, SqL.of h1, h3⟩
  | @obj a n h1 =>
    simp only [itemsL] at h
    split at h
    · rename_i e
      cases h
      obtain ⟨vs, h2, h3⟩ := m.ob n a _ h1 e
      exact ⟨_, _, rfl, SqL.of h2, h3⟩
    · cases h
  | _ => cases h
theorem Rep.tupOf {ds : List D} {v : V} (r : Rep K ι H (.tup ds) v) : ∃ a vs, v = .ref a ∧ TupAt K H a vs ∧ Reps K ι H ds vs := by
  cases r with
  | tup h r => exact ⟨_, _, rfl, h, r⟩
mutual
theorem Rep.dp : ∀ {d : D} {v : V} {p : PyData}, Rep K ι H d v → d.toPy = some p → Dp K H v p
  | _, _, _, .non, h => by cases h; exact .non
  | _, _, _, .bl b, h => by cases h; exact .bl b
  | _, _, _, .int i, h => by cases h; exact .int i
  | _, _, _, .str x, h => by cases h; exact .str x
  | _, _, _, .ty _, h => by simp [D.toPy] at h
  | _, _, _, .obj _, h => by simp [D.toPy] at h
  | _, _, _, .raw _, h => by simp [D.toPy] at h
  | _, _, _, .tup h1 r, h => by
    simp only [D.toPy, Option.map_eq_some_iff] at h
    obtain ⟨ps, e, rfl⟩ := h
    exact .tup h1.sq (Reps.dp r e)
  | _, _, _, .lst h1 _ r, h => by
    simp only [D.toPy, Option.map_eq_some_iff] at h
    obtain ⟨ps, e, rfl⟩ := h
    exact .lst (SqL.of h1) (Reps.dp r e)
  | _, _, _, .frz h1 r, h => by
    simp only [D.toPy, Option.map_eq_some_iff] at h
    obtain ⟨ps, e, rfl⟩ := h
    exact .lst h1.sq (Reps.dp r e)
  | _, _, _, .frz2 h1 _ r, h => by
    simp only [D.toPy, Option.map_eq_some_iff] at h
    obtain ⟨ps, e, rfl⟩ := h
    exact .lst (SqL.of h1) (Reps.dp r e)
theorem Reps.dp : ∀ {ds : List D} {vs : List V} {ps : List PyData}, Reps K ι H ds vs → D.toPys ds = some ps → DpAll K H vs ps
  | _, _, _, .nil, h => by cases h; exact .nil
  | _, _, _, .cons r t, h => by
    simp only [D.toPys] at h
    split at h
    · rename_i e1 e2
      cases h
      exact .cons (Rep.dp r e1) (Reps.dp t e2)
    · cases h
end
theorem Sim.dp (m : Sim K ca ι s H) {d : D} {v : V} {p : PyData} (r : Rep K ι H d v) (h : (deref s d).toPy = some p) : Dp K H v p := by
  cases r with
  | @obj a n h1 =>
    simp only [deref] at h
    split at h
    · rename_i ds e
      obtain ⟨vs, h2, h3⟩ := m.ob n a _ h1 e
      simp only [D.toPy, Option.map_eq_some_iff] at h
      obtain ⟨ps, e, rfl⟩ := h
      exact .lst (SqL.of h2) (Reps.dp h3 e)
    · simp [D.toPy] at h
  | non => exact Rep.dp (ι := ι) .non h
  | bl b => exact Rep.dp (ι := ι) (.bl b) h
  | int i => exact Rep.dp (ι := ι) (.int i) h
  | str x => exact Rep.dp (ι := ι) (.str x) h
  | ty n => simp [deref, D.toPy] at h
  | raw n => simp [deref, D.toPy] at h
  | tup a b => exact Rep.dp (.tup a b) h
  | lst a b c => exact Rep.dp (.lst a b c) h
  | frz a b => exact Rep.dp (.frz a b) h
  | frz2 a b c => exact Rep.dp (.frz2 a b c) h
end
theorem fitL_le {n : Nat} (h : fitL n = true) : n ≤ sizeLine := by
  rw [sizeLine_eq]
  simpa [fitL] using h

/-! ### two values to one -/
def OpJ (K : PySem.W.Frag) (ca : Ct) (r : R2) (f : S → D → D → Option D) : Prop :=
  ∀ (ι : Wd) (s : S) (H : Hp) (d e : D) (v u : V) (x : D) (Q : VK), Sim K ca ι s H → Rep K ι H d v → Rep K ι H e u → f s d e = some x →
    (∀ ι' v' H', Le ι H ι' H' → Sim K ca ι' s H' → Rep K ι' H' x v' → Q v' H') → r v u H Q
section
variable {X : Cx} {ca : Ct}
theorem OpR.imp {f : Value → Value → Sem Value} {r r' : R2} (h : OpR X f r) (i : ∀ x y H Q, r' x y H Q → r x y H Q) : OpR X f r' := fun pins s σ H x y v u Q I rx ry q => h pins s σ H x y v u Q I rx ry (i _ _ _ _ q)

/-- the reading: some mirror value, and what follows of it -/
def rJ (K : PySem.W.Frag) (ca : Ct) (f : S → D → D → Option D) : R2 := fun v u H Q => ∃ ι s d e x, Sim K ca ι s H ∧ Rep K ι H d v ∧ Rep K ι H e u ∧ f s d e = some x ∧
  ∀ ι' v' H', Le ι H ι' H' → Sim K ca ι' s H' → Rep K ι' H' x v' → Q v' H'
theorem oj_add : OpR X (binaryOp .Add) (rJ X.K ca fAdd) := by
  refine OpR.imp (((op_add.or op_add_str).or op_catA).or op_cat) fun v u H Q ⟨ι, s, d, e, x, m, rd, re, hf, q⟩ => ?_
  cases rd <;> cases re <;> simp only [fAdd] at hf <;> first | cases hf | skip
  · exact .inl (.inl (.inl ⟨_, _, rfl, rfl, q _ _ _ .refl m (.int _)⟩))
  · split at hf
    · rename_i hl
      cases hf
      exact .inl (.inl (.inr ⟨_, _, rfl, rfl, fitL_le hl, q _ _ _ .refl m (.str _)⟩))
    · cases hf
  · rename_i a vs ds h1 h2 b ws es h3 h4 _
    split at hf
    · rename_i hl
      cases hf
      refine .inl (.inr ⟨_, _, _, _, rfl, rfl, h1.sq, h3.sq, by rw [← h2.length, ← h4.length]; exact fitL_le hl, fun e => ?_, fun _ e => ?_, fun _ _ p hp => ?_⟩)
      · subst e
        cases h2
        exact q _ _ _ .refl m (.tup h3 h4)
      · subst e
        cases h4
        rw [List.append_nil] at q
        exact q _ _ _ .refl m (.tup h1 h2)
      · obtain ⟨l, m'⟩ := m.new (o := .tup (vs ++ ws)) hp
        exact q _ _ _ l m' (.tup (.inl upd_same) ((h2.append h4).mono l))
    · cases hf
  · rename_i a vs ds h1 n1 h2 b ws es h3 n3 h4 _
    split at hf
    · rename_i hl
      cases hf
      refine .inr ⟨_, _, _, _, rfl, rfl, h1, h3, by rw [← h2.length, ← h4.length]; exact fitL_le hl, fun p hp => ?_⟩
      obtain ⟨l, m'⟩ := m.new (o := .lst (vs ++ ws)) hp
      exact q _ _ _ l m' (.lst upd_same (m.ne hp) ((h2.append h4).mono l))
    · cases hf
theorem oj_sub : OpR X (binaryOp .Sub) (rJ X.K ca fSub) := by
  refine OpR.imp op_sub fun v u H Q ⟨ι, s, d, e, x, m, rd, re, hf, q⟩ => ?_
  cases rd <;> cases re <;> simp only [fSub] at hf <;> first | cases hf | skip
  exact ⟨_, _, rfl, rfl, q _ _ _ .refl m (.int _)⟩
theorem oj_mul : OpR X (binaryOp .Mult) (rJ X.K ca fMul) := by
  refine OpR.imp ((op_mul.or op_rep).or op_repT) fun v u H Q ⟨ι, s, d, e, x, m, rd, re, hf, q⟩ => ?_
  cases rd <;> cases re <;> simp only [fMul] at hf <;> first | cases hf | skip
  · split at hf
    · rename_i hl
      cases hf
      refine .inl (.inl ⟨_, _, rfl, rfl, ?_, q _ _ _ .refl m (.int _)⟩)
      simp only [small64, Bool.or_eq_true, Bool.and_eq_true, decide_eq_true_eq] at hl
      exact hl
    · cases hf
  · rename_i a vs ds h1 h2 j _
    split at hf
    · rename_i hl
      cases hf
      simp only [Bool.and_eq_true, decide_eq_true_eq, Bool.not_eq_true'] at hl
      obtain ⟨⟨⟨l1, l2⟩, l3⟩, l4⟩ := hl
      refine .inr ⟨_, _, _, rfl, rfl, h1.sq, fun z => ?_, l2, l3, by rw [← h2.length]; exact l4, fun p hp => ?_⟩
      · subst z
        cases h2
        simp at l1
      · obtain ⟨l, m'⟩ := m.new (o := .tup (List.replicate j.toNat vs).flatten) hp
        exact q _ _ _ l m' (.tup (.inl upd_same) ((h2.flat _).mono l))
    · cases hf
  · rename_i a vs ds h1 n1 h2 j _
    split at hf
    · rename_i hl
      cases hf
      simp only [Bool.and_eq_true, decide_eq_true_eq] at hl
      obtain ⟨⟨l1, l2⟩, l3⟩ := hl
      refine .inl (.inr ⟨_, _, _, rfl, rfl, h1, l1, l2, by rw [← h2.length]; exact fitL_le l3, fun p hp => ?_⟩)
      obtain ⟨l, m'⟩ := m.new (o := .lst (List.replicate j.toNat vs).flatten) hp
      exact q _ _ _ l m' (.lst upd_same (m.ne hp) ((h2.flat _).mono l))
    · cases hf
theorem oj_div : OpR X (binaryOp .FloorDiv) (rJ X.K ca fDiv) := by
  refine OpR.imp op_fdiv fun v u H Q ⟨ι, s, d, e, x, m, rd, re, hf, q⟩ => ?_
  cases rd <;> cases re <;> simp only [fDiv] at hf <;> first | cases hf | skip
  split at hf
  · rename_i hl
    cases hf
    simp only [Bool.and_eq_true, decide_eq_true_eq] at hl
    exact ⟨_, _, rfl, rfl, hl, q _ _ _ .refl m (.int _)⟩
  · cases hf
theorem oj_mod : OpR X (binaryOp .Mod) (rJ X.K ca fMod) := by
  refine OpR.imp op_mod fun v u H Q ⟨ι, s, d, e, x, m, rd, re, hf, q⟩ => ?_
  cases rd <;> cases re <;> simp only [fMod] at hf <;> first | cases hf | skip
  split at hf
  · rename_i hl
    cases hf
    simp only [decide_eq_true_eq] at hl
    exact ⟨_, _, rfl, rfl, hl, q _ _ _ .refl m (.int _)⟩
  · cases hf
theorem oj_pow : OpR X (binaryOp .Pow) (rJ X.K ca fPow) := by
  refine OpR.imp op_pow fun v u H Q ⟨ι, s, d, e, x, m, rd, re, hf, q⟩ => ?_
  cases rd <;> cases re <;> simp only [fPow] at hf <;> first | cases hf | skip
  split at hf
  · rename_i hl
    cases hf
    simp only [Bool.and_eq_true, decide_eq_true_eq] at hl
    exact ⟨_, _, rfl, rfl, ⟨hl.1.1, hl.1.2, hl.2⟩, q _ _ _ .refl m (.int _)⟩
  · cases hf
theorem oj_lt : OpR X (compareOp .Lt) (rJ X.K ca fLt) := by
  refine OpR.imp (op_lt.or op_lt_str) fun v u H Q ⟨ι, s, d, e, x, m, rd, re, hf, q⟩ => ?_
  cases rd <;> cases re <;> simp only [fLt] at hf <;> first | cases hf | skip
  · exact .inl ⟨_, _, rfl, rfl, q _ _ _ .refl m (.bl _)⟩
  · exact .inr ⟨_, _, rfl, rfl, q _ _ _ .refl m (.bl _)⟩
theorem oj_le : OpR X (compareOp .LtE) (rJ X.K ca fLe) := by
  refine OpR.imp op_le fun v u H Q ⟨ι, s, d, e, x, m, rd, re, hf, q⟩ => ?_
  cases rd <;> cases re <;> simp only [fLe] at hf <;> first | cases hf | skip
  exact ⟨_, _, rfl, rfl, q _ _ _ .refl m (.bl _)⟩
theorem oj_gt : OpR X (compareOp .Gt) (rJ X.K ca fGt) := by
  refine OpR.imp op_gt fun v u H Q ⟨ι, s, d, e, x, m, rd, re, hf, q⟩ => ?_
  cases rd <;> cases re <;> simp only [fGt] at hf <;> first | cases hf | skip
  exact ⟨_, _, rfl, rfl, q _ _ _ .refl m (.bl _)⟩
theorem oj_ge : OpR X (compareOp .GtE) (rJ X.K ca fGe) := by
  refine OpR.imp op_ge fun v u H Q ⟨ι, s, d, e, x, m, rd, re, hf, q⟩ => ?_
  cases rd <;> cases re <;> simp only [fGe] at hf <;> first | cases hf | skip
  exact ⟨_, _, rfl, rfl, q _ _ _ .refl m (.bl _)⟩
theorem oj_eq (hu : X.A.units + 64 < cLine) : OpR X (compareOp .Eq) (rJ X.K ca fEq) := by
  refine OpR.imp (op_eqD hu) fun v u H Q ⟨ι, s, d, e, x, m, rd, re, hf, q⟩ => ?_
  simp only [fEq, Option.map_eq_some_iff] at hf
  obtain ⟨b, hb, rfl⟩ := hf
  unfold eqD at hb
  split at hb
  · rename_i p1 p2 e1 e2
    split at hb
    · rename_i hs
      cases hb
      simp only [Bool.and_eq_true] at hs
      exact ⟨_, _, m.dp rd e1, m.dp re e2, hs.1, hs.2, q _ _ _ .refl m (.bl _)⟩
    · cases hb
  · cases hb
theorem oj_ne (hu : X.A.units + 64 < cLine) : OpR X (compareOp .NotEq) (rJ X.K ca fNe) := by
  refine OpR.imp (op_neD hu) fun v u H Q ⟨ι, s, d, e, x, m, rd, re, hf, q⟩ => ?_
  simp only [fNe, Option.map_eq_some_iff] at hf
  obtain ⟨b, hb, rfl⟩ := hf
  unfold eqD at hb
  split at hb
  · rename_i p1 p2 e1 e2
    split at hb
    · rename_i hs
      cases hb
      simp only [Bool.and_eq_true] at hs
      exact ⟨_, _, m.dp rd e1, m.dp re e2, hs.1, hs.2, q _ _ _ .refl m (.bl _)⟩
    · cases hb
  · cases hb
theorem isD_none {K : PySem.W.Frag} {ι : Wd} {H : Hp} {d : D} {v : V} {b : Bool} (r : Rep K ι H d v) (h : isD d .non = some b) : decide (v = V.non) = b := by
  cases r <;> simp only [isD] at h <;> cases h <;> rfl
theorem oj_is : OpR X (compareOp .Is) (rJ X.K ca fIs) := by
  refine OpR.imp (op_isN.or op_is_bl) fun v u H Q ⟨ι, s, d, e, x, m, rd, re, hf, q⟩ => ?_
  simp only [fIs, Option.map_eq_some_iff] at hf
  obtain ⟨b, hb, rfl⟩ := hf
  cases re with
  | non => exact .inl ⟨rfl, by rw [isD_none rd hb]; exact q _ _ _ .refl m (.bl _)⟩
  | bl c =>
    cases rd <;> simp only [isD] at hb <;> first | cases hb | skip
    exact .inr ⟨_, _, rfl, rfl, q _ _ _ .refl m (.bl _)⟩
  | _ => cases rd <;> simp only [isD] at hb <;> cases hb
theorem oj_isnot : OpR X (compareOp .IsNot) (rJ X.K ca fIsN) := by
  refine OpR.imp (op_notN.or op_isnot_bl) fun v u H Q ⟨ι, s, d, e, x, m, rd, re, hf, q⟩ => ?_
  simp only [fIsN, Option.map_eq_some_iff] at hf
  obtain ⟨b, hb, rfl⟩ := hf
  cases re with
  | non => exact .inl ⟨rfl, by rw [isD_none rd hb]; exact q _ _ _ .refl m (.bl _)⟩
  | bl c =>
    cases rd <;> simp only [isD] at hb <;> first | cases hb | skip
    exact .inr ⟨_, _, rfl, rfl, q _ _ _ .refl m (.bl _)⟩
  | _ => cases rd <;> simp only [isD] at hb <;> cases hb
/-- x in a tuple of data -/
theorem op_inTD (hu : X.A.units + 65 < cLine) : OpR X (compareOp .In) (fun x y H Q => ∃ d ds, Dp X.K H x d ∧ Dp X.K H y (.tuple ds) ∧ SeqAt.shaped d = true ∧ SeqAt.shaped (.tuple ds) = true ∧ Q (.bl (ds.any fun z => PyData.eqv z d)) H) := by
  intro pins s σ H x y v u Q I rx ry h
  obtain ⟨d, ds, hd, he, sd, se, q⟩ := h
  obtain ⟨as, r1⟩ := Dp.reads I d x v hd rx
  obtain ⟨bs, r2⟩ := Dp.reads I (.tuple ds) y u he ry
  exact SeqAt.in_tuple_reads r2 r1 (SeqAt.canLay_of_shaped se) (SeqAt.canLay_of_shaped sd) (PyProof.Rows.room_in_shaped sd hu) ⟨.bl _, H, I, rfl, q⟩
theorem op_notInTD (hu : X.A.units + 65 < cLine) : OpR X (compareOp .NotIn) (fun x y H Q => ∃ d ds, Dp X.K H x d ∧ Dp X.K H y (.tuple ds) ∧ SeqAt.shaped d = true ∧ SeqAt.shaped (.tuple ds) = true ∧ Q (.bl (!ds.any fun z => PyData.eqv z d)) H) := by
  intro pins s σ H x y v u Q I rx ry h
  obtain ⟨d, ds, hd, he, sd, se, q⟩ := h
  obtain ⟨as, r1⟩ := Dp.reads I d x v hd rx
  obtain ⟨bs, r2⟩ := Dp.reads I (.tuple ds) y u he ry
  exact SeqAt.notIn_tuple_reads r2 r1 (SeqAt.canLay_of_shaped se) (SeqAt.canLay_of_shaped sd) (PyProof.Rows.room_in_shaped sd hu) ⟨.bl _, H, I, rfl, q⟩
theorem inD_cases {K : PySem.W.Frag} {ι : Wd} {H : Hp} {s : S} {x y : D} {v u : V} {b : Bool} (m : Sim K ca ι s H) (rd : Rep K ι H x v) (re : Rep K ι H y u) (h : inD s x y = some b) :
    (∃ i j, v = .str i ∧ u = .str j ∧ b = !(Builtin.Str.occurrences j i 0 j.length 1).isEmpty) ∨
    (∃ d ds, Dp K H v d ∧ Dp K H u (.tuple ds) ∧ SeqAt.shaped d = true ∧ SeqAt.shaped (.tuple ds) = true ∧ b = ds.any fun z => PyData.eqv z d) ∨
    (∃ d ds, Dp K H v d ∧ Dp K H u (.list ds) ∧ SeqAt.shaped d = true ∧ SeqAt.shaped (.list ds) = true ∧ b = ds.any fun z => PyData.eqv z d) := by
  have lists : ∀ {ds : List D}, itemsL s y = some ds → (match D.toPy x, D.toPys ds with
      | some p, some ps => if SeqAt.shaped p && SeqAt.shaped (.list ps) then some (ps.any fun z => PyData.eqv z p) else none
      | _, _ => none) = some b → ∃ d ds, Dp K H v d ∧ Dp K H u (.list ds) ∧ SeqAt.shaped d = true ∧ SeqAt.shaped (.list ds) = true ∧ b = ds.any fun z => PyData.eqv z d := fun {ds} hi hb => by
    obtain ⟨a, vs, rfl, h1, h2⟩ := m.items re hi
    split at hb
    · rename_i p ps e1 e2
      split at hb
      · rename_i hs
        cases hb
        simp only [Bool.and_eq_true] at hs
        exact ⟨_, _, Rep.dp rd e1, .lst h1 (Reps.dp h2 e2), hs.1, hs.2, rfl⟩
      · cases hb
    · cases hb
  cases re with
  | str j =>
    simp only [inD] at h
    cases rd <;> simp only at h <;> cases h
    exact .inl ⟨_, _, rfl, rfl, rfl⟩
  | @tup a vs ds h1 h2 =>
    simp only [inD] at h
    split at h
    · rename_i p ps e1 e2
      split at h
      · rename_i hs
        cases h
        simp only [Bool.and_eq_true] at hs
        exact .inr (.inl ⟨_, _, Rep.dp rd e1, .tup h1.sq (Reps.dp h2 e2), hs.1, hs.2, rfl⟩)
      · cases h
    · cases h
  | non => simp [inD, itemsL] at h
  | bl _ => simp [inD, itemsL] at h
  | int _ => simp [inD, itemsL] at h
  | ty _ => simp [inD, itemsL] at h
  | raw _ => simp [inD, itemsL] at h
  | @lst a vs ds _ _ _ => exact .inr (.inr (lists (ds := ds) rfl h))
  | @frz a vs ds _ _ => exact .inr (.inr (lists (ds := ds) rfl h))
  | @frz2 a vs ds _ _ _ => exact .inr (.inr (lists (ds := ds) rfl h))
  | @obj a n _ =>
    cases e : itemsL s (.obj n) with
    | none => simp only [inD, e] at h; cases h
    | some ds => simp only [inD, e] at h; exact .inr (.inr (lists e h))
theorem oj_in (hu : X.A.units + 65 < cLine) : OpR X (compareOp .In) (rJ X.K ca fIn) := by
  refine OpR.imp (op_in_str.or ((op_inTD hu).or (op_inD hu))) fun v u H Q ⟨ι, s, d, e, x, m, rd, re, hf, q⟩ => ?_
  simp only [fIn, Option.map_eq_some_iff] at hf
  obtain ⟨b, hb, rfl⟩ := hf
  rcases inD_cases m rd re hb with ⟨i, j, rfl, rfl, rfl⟩ | ⟨p, ps, h1, h2, h3, h4, rfl⟩ | ⟨p, ps, h1, h2, h3, h4, rfl⟩
  · exact .inl ⟨_, _, rfl, rfl, q _ _ _ .refl m (.bl _)⟩
  · exact .inr (.inl ⟨_, _, h1, h2, h3, h4, q _ _ _ .refl m (.bl _)⟩)
  · exact .inr (.inr ⟨_, _, h1, h2, h3, h4, q _ _ _ .refl m (.bl _)⟩)
theorem oj_notin (hu : X.A.units + 65 < cLine) : OpR X (compareOp .NotIn) (rJ X.K ca fNotIn) := by
  refine OpR.imp (op_notin_str.or ((op_notInTD hu).or (op_notInD hu))) fun v u H Q ⟨ι, s, d, e, x, m, rd, re, hf, q⟩ => ?_
  simp only [fNotIn, Option.map_eq_some_iff] at hf
  obtain ⟨b, hb, rfl⟩ := hf
  rcases inD_cases m rd re hb with ⟨i, j, rfl, rfl, rfl⟩ | ⟨p, ps, h1, h2, h3, h4, rfl⟩ | ⟨p, ps, h1, h2, h3, h4, rfl⟩
  · exact .inl ⟨_, _, rfl, rfl, q _ _ _ .refl m (.bl _)⟩
  · exact .inr (.inl ⟨_, _, h1, h2, h3, h4, q _ _ _ .refl m (.bl _)⟩)
  · exact .inr (.inr ⟨_, _, h1, h2, h3, h4, q _ _ _ .refl m (.bl _)⟩)
theorem IxR.imp {r r' : R2} (h : IxR X r) (i : ∀ x y H Q, r' x y H Q → r x y H Q) : IxR X r' := fun value slice pins s σ H x y v u Q I rx ry q hs => h value slice pins s σ H x y v u Q I rx ry (i _ _ _ _ q) hs
theorem Reps.atI {K : PySem.W.Frag} {ι : Wd} {H : Hp} {ds : List D} {vs : List V} {i : Int} {d : D} (r : Reps K ι H ds vs) (h : L2.atI ds i = some d) : ∃ v, L2.atI vs i = some v ∧ Rep K ι H d v := by
  unfold L2.atI at h ⊢
  rw [← r.length]
  cases e : ixN ds.length i with
  | none => rw [e] at h; cases h
  | some j =>
    rw [e] at h
    exact r.get h
theorem ij_ix : IxR X (rJ X.K ca fIdx) := by
  refine IxR.imp ix_seq fun v u H Q ⟨ι, s, d, e, x, m, rd, re, hf, q⟩ => ?_
  have lists : ∀ {ds : List D} {i : Int}, u = .int i → itemsL s d = some ds → L2.atI ds i = some x → rIx X.K v u H Q := fun {ds i} hu hi ha => by
    subst hu
    obtain ⟨a, vs, rfl, h1, h2⟩ := m.items rd hi
    obtain ⟨v', h3, h4⟩ := h2.atI ha
    exact .inl ⟨_, _, _, _, rfl, rfl, h1, h3, q _ _ _ .refl m h4⟩
  cases re <;> simp only [fIdx] at hf <;> first | cases hf | skip
  rename_i i
  cases rd with
  | str z =>
    simp only at hf
    split at hf
    · rename_i hl
      simp only [Option.map_eq_some_iff] at hf
      obtain ⟨c, hc, rfl⟩ := hf
      exact .inr (.inr ⟨_, _, _, rfl, rfl, fitL_le hl, hc, q _ _ _ .refl m (.str _)⟩)
    · cases hf
  | @tup a vs ds h1 h2 =>
    obtain ⟨v', h3, h4⟩ := h2.atI hf
    exact .inr (.inl ⟨_, _, _, _, rfl, rfl, h1.sq, h3, q _ _ _ .refl m h4⟩)
  | non => simp [itemsL] at hf
  | bl _ => simp [itemsL] at hf
  | int _ => simp [itemsL] at hf
  | ty _ => simp [itemsL] at hf
  | raw _ => simp [itemsL] at hf
  | @lst a vs ds _ _ _ => exact lists (ds := ds) rfl rfl hf
  | @frz a vs ds _ _ => exact lists (ds := ds) rfl rfl hf
  | @frz2 a vs ds _ _ _ => exact lists (ds := ds) rfl rfl hf
  | @obj a n _ =>
    cases e : itemsL s (.obj n) with
    | none => simp only [e] at hf; cases hf
    | some ds => simp only [e] at hf; exact lists rfl e hf
end
end J


set_option Elab.async false
set_option linter.all false
set_option maxRecDepth 100000
set_option maxHeartbeats 4000000
/-! J2: the judgements; names, constants, operators, comparisons, tests, displays, calls of built-ins. -/
namespace J
open PySem PySem.Spec L2

def R.ofO {α : Type} (o : Option α) (s : S) : R α := match o with | some a => .ok a s | none => .no
@[simp] theorem R.ofO_some {α : Type} (a : α) (s : S) : R.ofO (some a) s = .ok a s := rfl
@[simp] theorem R.ofO_none {α : Type} (s : S) : R.ofO (none : Option α) s = .no := rfl
@[simp] theorem R.bind_ok {α β : Type} (a : α) (s : S) (k : α → S → R β) : (R.ok a s).bind k = k a s := rfl
@[simp] theorem R.bind_err {α β : Type} (e : Ex) (s : S) (k : α → S → R β) : (R.err e s).bind k = .err e s := rfl
@[simp] theorem R.bind_no {α β : Type} (k : α → S → R β) : (R.no : R α).bind k = .no := rfl

def JE (X : Cx) (ca : Ct) (W : WX) (e : Expr) (g : GE) : Prop := PE X e (tG X.K ca W g)
def JT (X : Cx) (ca : Ct) (W : WX) (e : Expr) (g : GT) : Prop := PT X e (tT X.K ca W g)
def JW (X : Cx) (ca : Ct) (W : WX) (e : Expr) (g : GT) : Prop := PW X e (tT X.K ca W g)
def JA (X : Cx) (ca : Ct) (W : WX) (es : List Expr) (g : GA) : Prop := PA X es (tA X.K ca W g)

structure Fam (K : PySem.W.Frag) (ca : Ct) (E : XK) {β : Type} (Φ : Wd → Hp → R β → Prop) : Prop where
  mono : ∀ {ι H ι' H' r}, Φ ι H r → Le ι H ι' H' → Φ ι' H' r
  err : ∀ {ι H e s}, Φ ι H (.err e s) → ∀ ι' cv dd H', Le ι H ι' H' → Sim K ca ι' s H' → RepX K ca ι' H' e cv dd → E cv dd H'
  no : ∀ {ι H}, ¬ Φ ι H .no
section
variable {K : PySem.W.Frag} {ca : Ct} {ι : Wd} {H : Hp} {ρ : Env} {σ : L2.St} {s : S} {W : WX}
theorem famE {E : XK} {Q : VK} : Fam K ca E (fun ι H r => PostE K ca ι H r Q E) := ⟨fun h l => h.mono l, fun h => h, fun h => h⟩
theorem famT {E : XK} {Q : Bool → Hp → Prop} : Fam K ca E (fun ι H r => PostT K ca ι H r Q E) := ⟨fun h l => h.mono l, fun h => h, fun h => h⟩
theorem famA {E : XK} {Q : List V → Hp → Prop} : Fam K ca E (fun ι H r => PostA K ca ι H r Q E) := ⟨fun h l => h.mono l, fun h => h, fun h => h⟩
theorem famS {D : Ends} : Fam K ca (fun cv dd H' => W cv dd σ H') (fun ι H r => PostS K ca ι H W r D) := ⟨fun h l => h.mono l, fun h ι' cv dd H' l m x => h ι' cv dd H' σ l m x, fun h => h⟩
variable {β : Type} {Φ : Wd → Hp → R β → Prop}
theorem bindE {g : GE} {k : D → S → R β} {Rr : VK} (F : Fam K ca (fun cv dd H' => W cv dd σ H') Φ) (hr : RelS K ι H ρ σ) (hm : Sim K ca ι s H) (h : Φ ι H ((g ρ s).bind k))
    (step : ∀ ι' s' d v H', Le ι H ι' H' → RelS K ι' H' ρ σ → Sim K ca ι' s' H' → Rep K ι' H' d v → Φ ι' H' (k d s') → Rr v H') : tG K ca W g σ H Rr := by
  refine ⟨ι, ρ, s, hr, hm, ?_⟩
  cases e : g ρ s with
  | ok d s' =>
    rw [e] at h
    exact fun ι' v H' l m q => step ι' s' d v H' l (hr.mono l) m q (F.mono h l)
  | err x s' =>
    rw [e] at h
    exact F.err h
  | no =>
    rw [e] at h
    exact F.no h
theorem bindT {g : GT} {k : Bool → S → R β} {Rr : Bool → Hp → Prop} (F : Fam K ca (fun cv dd H' => W cv dd σ H') Φ) (hr : RelS K ι H ρ σ) (hm : Sim K ca ι s H) (h : Φ ι H ((g ρ s).bind k))
    (step : ∀ ι' s' b H', Le ι H ι' H' → RelS K ι' H' ρ σ → Sim K ca ι' s' H' → Φ ι' H' (k b s') → Rr b H') : tT K ca W g σ H Rr := by
  refine ⟨ι, ρ, s, hr, hm, ?_⟩
  cases e : g ρ s with
  | ok d s' =>
    rw [e] at h
    exact fun ι' H' l m => step ι' s' d H' l (hr.mono l) m (F.mono h l)
  | err x s' =>
    rw [e] at h
    exact F.err h
  | no =>
    rw [e] at h
    exact F.no h
theorem bindA {g : GA} {k : List D → S → R β} {Rr : List V → Hp → Prop} (F : Fam K ca (fun cv dd H' => W cv dd σ H') Φ) (hr : RelS K ι H ρ σ) (hm : Sim K ca ι s H) (h : Φ ι H ((g ρ s).bind k))
    (step : ∀ ι' s' ds vs H', Le ι H ι' H' → RelS K ι' H' ρ σ → Sim K ca ι' s' H' → Reps K ι' H' ds vs → Φ ι' H' (k ds s') → Rr vs H') : tA K ca W g σ H Rr := by
  refine ⟨ι, ρ, s, hr, hm, ?_⟩
  cases e : g ρ s with
  | ok d s' =>
    rw [e] at h
    exact fun ι' v H' l m q => step ι' s' d v H' l (hr.mono l) m q (F.mono h l)
  | err x s' =>
    rw [e] at h
    exact F.err h
  | no =>
    rw [e] at h
    exact F.no h
end
section
variable {X : Cx} {ca : Ct} {W : WX} {e a b c : Expr} {es : List Expr} {pos : Pos} {g ga gb gc : GE} {t ta tb : GT}
theorem PE.imp {t t' : TE} (h : PE X e t) (i : ∀ σ H Q, t' σ H Q → t σ H Q) : PE X e t' := ⟨fun pins s σ H Q I q => h.run pins s σ H Q I (i _ _ _ q)⟩
theorem PT.imp {t t' : TT} (h : PT X e t) (i : ∀ σ H Q, t' σ H Q → t σ H Q) : PT X e t' := ⟨fun pins s σ H Q I q => h.run pins s σ H Q I (i _ _ _ q)⟩
theorem PW.imp {t t' : TT} (h : PW X e t) (i : ∀ σ H Q, t' σ H Q → t σ H Q) : PW X e t' := ⟨fun wh pins s σ H Q I q => h.run wh pins s σ H Q I (i _ _ _ q)⟩
theorem PA.imp {t t' : TA} (h : PA X es t) (i : ∀ σ H Q, t' σ H Q → t σ H Q) : PA X es t' := ⟨fun p pins s σ H Q I q => h.run p pins s σ H Q I (i _ _ _ q)⟩

/-! ### names, constants -/
def gVar (i : Nat) : GE := fun ρ s => match ρ[i]? with | some (some d) => .ok d s | _ => .no
def gC (d : D) : GE := fun _ s => .ok d s
theorem je_var (i : Nat) {x : Str} (hN : X.N[i]? = some x := by rfl) (hv : Vis X.env.scope x := by first | exact Or.inl rfl | exact Or.inr (Or.inl rfl) | exact Or.inr (Or.inr rfl)) (hd : (x == ("__debug__" : Str)) = false := by decide)
    (hcd : (x == ("__classdict__" : Str)) = false := by decide) : JE X ca W (.Name x pos) (gVar i) := by
  refine PE.imp (pe_var hN hv hd hcd) fun σ H Q ⟨ι, ρ, s, hr, hm, h⟩ => ?_
  unfold gVar at h
  split at h
  · rename_i d e
    obtain ⟨v, h1, h2⟩ := hr.at_ i d e
    exact ⟨v, h1, h ι v H .refl hm h2⟩
  · exact h.elim
theorem je_c {d : D} {v : V} (h : PE X e (tC v)) (r : ∀ ι H, Rep X.K ι H d v) : JE X ca W e (gC d) := PE.imp h fun σ H Q ⟨ι, ρ, s, hr, hm, h⟩ => h ι v H .refl hm (r ι H)
theorem je_int {i j} : JE X ca W (.Constant (.int i) j pos) (gC (.int i)) := je_c pe_int fun _ _ => .int i
theorem je_bl {b j} : JE X ca W (.Constant (.bool b) j pos) (gC (.bl b)) := je_c pe_bl fun _ _ => .bl b
theorem je_non {j} : JE X ca W (.Constant .none j pos) (gC .non) := je_c pe_non fun _ _ => .non
theorem je_str {x j} : JE X ca W (.Constant (.str x) j pos) (gC (.str x)) := je_c pe_str fun _ _ => .str x
/-- a constant of the module -/
theorem je_glob {x : Str} {d : D} {v : V} {u : Value} (hm : X.mg x = some u) (r : RelV v u) (q : ∀ ι H, Rep X.K ι H d v) (hg : Gl X x := by rfl) (hd : (x == ("__debug__" : Str)) = false := by decide) : JE X ca W (.Name x pos) (gC d) := je_c (pe_glob hg hm r hd) q
/-- a built-in class as a value -/
theorem je_ty {x : Str} {n : String} (hm : X.mg x = none) (hv : bootBuiltins x = some (.type n)) (hg : Gl X x := by rfl) (hn : x ≠ "__name__" := by decide) (hd : (x == ("__debug__" : Str)) = false := by decide) : JE X ca W (.Name x pos) (gC (.ty n)) :=
  je_c (v := .ty n) (pe_bltn hg hm hv rfl hn hd) fun _ _ => .ty n

/-! ### operators -/
def gOp2 (f : S → D → D → Option D) (ga gb : GE) : GE := fun ρ s => (ga ρ s).bind fun x s1 => (gb ρ s1).bind fun y s2 => R.ofO (f s2 x y) s2
theorem tG_op2 {f : S → D → D → Option D} {σ : L2.St} {H : Hp} {Q : VK} (h : tG X.K ca W (gOp2 f ga gb) σ H Q) : tOp (rJ X.K ca f) (tG X.K ca W ga) (tG X.K ca W gb) σ H Q := by
  obtain ⟨ι, ρ, s, hr, hm, h⟩ := h
  refine bindE famE hr hm h fun ι1 s1 x v H1 l1 hr1 hm1 rx h1 => bindE famE hr1 hm1 h1 fun ι2 s2 y u H2 l2 hr2 hm2 ry h2 => ?_
  cases e : f s2 x y with
  | none => rw [e] at h2; exact h2.elim
  | some z =>
    rw [e] at h2
    exact ⟨ι2, s2, x, y, z, hm2, rx.mono l2, ry, e, fun ι' v' H' l m r => h2 ι' v' H' l m r⟩
theorem je_op {op : Operator} {f : S → D → D → Option D} (ho : OpR X (binaryOp op) (rJ X.K ca f)) (ha : JE X ca W a ga) (hb : JE X ca W b gb) : JE X ca W (.BinOp a op b pos) (gOp2 f ga gb) := PE.imp (pe_op ho ha hb) fun _ _ _ h => tG_op2 h
theorem je_cmp {op : CmpOp} {f : S → D → D → Option D} (ho : OpR X (compareOp op) (rJ X.K ca f)) (ha : JE X ca W a ga) (hb : JE X ca W b gb) (hm : behindInMarks op b = false := by first | exact nomark _ | rfl) : JE X ca W (.Compare a [op] [b] pos) (gOp2 f ga gb) :=
  PE.imp (pe_cmpR ho ha hb hm) fun _ _ _ h => tG_op2 h
theorem je_ix (ha : JE X ca W a ga) (hb : JE X ca W b gb) (hs : PlainIx b := by exact fun _ _ => rfl) : JE X ca W (.Subscript a b pos) (gOp2 fIdx ga gb) := PE.imp (pe_ix ij_ix ha hb hs) fun _ _ _ h => tG_op2 h
/-- a bool's value -/
def gB (g : GE) : GT := fun ρ s => (g ρ s).bind fun d s1 => match d with | .bl b => .ok b s1 | _ => .no
theorem tT_gB {σ : L2.St} {H : Hp} {Q : Bool → Hp → Prop} (h : tT X.K ca W (gB g) σ H Q) : tG X.K ca W g σ H fun v H' => ∃ k, v = .bl k ∧ Q k H' := by
  obtain ⟨ι, ρ, s, hr, hm, h⟩ := h
  refine bindE famT hr hm h fun ι1 s1 x v H1 l1 hr1 hm1 rx h1 => ?_
  cases rx with
  | bl b => exact ⟨b, rfl, h1 ι1 H1 .refl hm1⟩
  | _ => exact h1.elim
theorem jt_cmp {op : CmpOp} {f : S → D → D → Option D} (ho : OpR X (compareOp op) (rJ X.K ca f)) (ha : JE X ca W a ga) (hb : JE X ca W b gb) (hm : behindInMarks op b = false := by first | exact nomark _ | rfl) : JT X ca W (.Compare a [op] [b] pos) (gB (gOp2 f ga gb)) := by
  refine PT.imp (pt_cmpR ho ha hb hm) fun σ H Q h => ?_
  have h := tT_gB h
  exact tG_op2 h
theorem jt_val (h : JE X ca W e g) (he : ∀ whole, isTrue e X.env whole = (do let v ← whole; standAt e.pos; holding [v] (truthy v)) := by intro _; rfl) : JT X ca W e (gB g) := PT.imp (pt_val h he) fun _ _ _ h => tT_gB h
/-- a < b < c -/
def gChain (f f' : S → D → D → Option D) (ga gb gc : GE) : GE := fun ρ s => (ga ρ s).bind fun x s1 => (gb ρ s1).bind fun y s2 => (R.ofO (f s2 x y) s2).bind fun z s3 => match z with
  | .bl true => (gc ρ s3).bind fun w s4 => R.ofO (f' s4 y w) s4
  | .bl false => .ok (.bl false) s3
  | _ => .no
theorem je_chain {op op' : CmpOp} {f f' : S → D → D → Option D} (ho : OpR X (compareOp op) (rJ X.K ca f)) (ho' : OpR X (compareOp op') (rJ X.K ca f')) (ha : JE X ca W a ga) (hb : JE X ca W b gb) (hc : JE X ca W c gc)
    (h1 : lastMarks [op, op'] [b, c] = false := by rfl) : JE X ca W (.Compare a [op, op'] [b, c] pos) (gChain f f' ga gb gc) := by
  refine PE.imp (pe_chain ho ho' ha hb hc (by exact h1)) fun σ H Q ⟨ι, ρ, s, hr, hm, h⟩ => ?_
  refine bindE famE hr hm h fun ι1 s1 x v H1 l1 hr1 hm1 rx h1 => bindE famE hr1 hm1 h1 fun ι2 s2 y u H2 l2 hr2 hm2 ry h2 => ?_
  cases e : f s2 x y with
  | none => rw [e] at h2; exact h2.elim
  | some z =>
    rw [e] at h2
    refine ⟨ι2, s2, x, y, z, hm2, rx.mono l2, ry, e, fun ι3 v3 H3 l3 m3 r3 => ?_⟩
    have h3 := PostE.mono h2 l3
    cases r3 with
    | bl k =>
      refine ⟨k, rfl, ?_⟩
      cases k with
      | true =>
        rw [if_pos rfl]
        refine bindE famE (hr2.mono l3) m3 h3 fun ι4 s4 w q H4 l4 hr4 hm4 rw' h4 => ?_
        cases e' : f' s4 y w with
        | none => rw [e'] at h4; exact h4.elim
        | some z' =>
          rw [e'] at h4
          exact ⟨ι4, s4, y, w, z', hm4, (ry.mono l3).mono l4, rw', e', fun ι' v' H' l m r => h4 ι' v' H' l m r⟩
      | false =>
        rw [if_neg Bool.false_ne_true]
        exact h3 ι3 _ H3 .refl m3 (.bl false)
    | _ => exact h3.elim

/-! ### tests -/
def gNot (t : GT) : GT := fun ρ s => (t ρ s).bind fun b s1 => .ok (!b) s1
def gAnd (t u : GT) : GT := fun ρ s => (t ρ s).bind fun b s1 => if b then u ρ s1 else .ok false s1
def gOr (t u : GT) : GT := fun ρ s => (t ρ s).bind fun b s1 => if b then .ok true s1 else u ρ s1
def gV (t : GT) : GE := fun ρ s => (t ρ s).bind fun b s1 => .ok (.bl b) s1
def gAndV (ga gb : GE) : GE := fun ρ s => (ga ρ s).bind fun d s1 => match d with | .bl true => gb ρ s1 | .bl false => .ok (.bl false) s1 | _ => .no
def gOrV (ga gb : GE) : GE := fun ρ s => (ga ρ s).bind fun d s1 => match d with | .bl true => .ok (.bl true) s1 | .bl false => gb ρ s1 | _ => .no
def gNotV (ga : GE) : GE := fun ρ s => (ga ρ s).bind fun d s1 => match d with | .bl b => .ok (.bl !b) s1 | _ => .no
def gIf (t : GT) (ga gb : GE) : GE := fun ρ s => (t ρ s).bind fun b s1 => if b then ga ρ s1 else gb ρ s1
theorem jt_not (h : JT X ca W a ta) : JT X ca W (.UnaryOp .Not a pos) (gNot ta) := PT.imp (pt_not h) fun σ H Q ⟨ι, ρ, s, hr, hm, h⟩ => bindT famT hr hm h fun ι1 s1 b H1 l1 hr1 hm1 h1 => h1 ι1 H1 .refl hm1
theorem jw_and1 (h : JT X ca W a ta) : JW X ca W (.BoolOp .And [a] pos) ta := pw_and1 h
theorem jw_or1 (h : JT X ca W a ta) : JW X ca W (.BoolOp .Or [a] pos) ta := pw_or1 h
theorem jw_and (ha : JT X ca W a ta) (hb : JW X ca W (.BoolOp .And (b :: es) pos) tb) : JW X ca W (.BoolOp .And (a :: b :: es) pos) (gAnd ta tb) := by
  refine PW.imp (pw_and ha hb) fun σ H Q ⟨ι, ρ, s, hr, hm, h⟩ => bindT famT hr hm h fun ι1 s1 k H1 l1 hr1 hm1 h1 => ?_
  cases k with
  | true => rw [if_pos rfl]; exact ⟨ι1, ρ, s1, hr1, hm1, h1⟩
  | false => rw [if_neg Bool.false_ne_true]; exact h1 ι1 H1 .refl hm1
theorem jw_or (ha : JT X ca W a ta) (hb : JW X ca W (.BoolOp .Or (b :: es) pos) tb) : JW X ca W (.BoolOp .Or (a :: b :: es) pos) (gOr ta tb) := by
  refine PW.imp (pw_or ha hb) fun σ H Q ⟨ι, ρ, s, hr, hm, h⟩ => bindT famT hr hm h fun ι1 s1 k H1 l1 hr1 hm1 h1 => ?_
  cases k with
  | true => rw [if_pos rfl]; exact h1 ι1 H1 .refl hm1
  | false => rw [if_neg Bool.false_ne_true]; exact ⟨ι1, ρ, s1, hr1, hm1, h1⟩
theorem jw_t (h : JW X ca W e t) : JT X ca W e t := PW.pt h
theorem je_one {op} (h : JE X ca W a g) : JE X ca W (.BoolOp op [a] pos) g := pe_one h
theorem je_and (ha : JE X ca W a ga) (hb : JE X ca W (.BoolOp .And (b :: es) pos) gb) : JE X ca W (.BoolOp .And (a :: b :: es) pos) (gAndV ga gb) := by
  refine PE.imp (pe_and ha hb) fun σ H Q ⟨ι, ρ, s, hr, hm, h⟩ => bindE famE hr hm h fun ι1 s1 d v H1 l1 hr1 hm1 rd h1 => ?_
  cases rd with
  | bl k =>
    refine ⟨k, rfl, ?_⟩
    cases k with
    | true => rw [if_pos rfl]; exact ⟨ι1, ρ, s1, hr1, hm1, h1⟩
    | false => rw [if_neg Bool.false_ne_true]; exact h1 ι1 _ H1 .refl hm1 (.bl false)
  | _ => exact h1.elim
theorem je_or (ha : JE X ca W a ga) (hb : JE X ca W (.BoolOp .Or (b :: es) pos) gb) : JE X ca W (.BoolOp .Or (a :: b :: es) pos) (gOrV ga gb) := by
  refine PE.imp (pe_or ha hb) fun σ H Q ⟨ι, ρ, s, hr, hm, h⟩ => bindE famE hr hm h fun ι1 s1 d v H1 l1 hr1 hm1 rd h1 => ?_
  cases rd with
  | bl k =>
    refine ⟨k, rfl, ?_⟩
    cases k with
    | true => rw [if_pos rfl]; exact h1 ι1 _ H1 .refl hm1 (.bl true)
    | false => rw [if_neg Bool.false_ne_true]; exact ⟨ι1, ρ, s1, hr1, hm1, h1⟩
  | _ => exact h1.elim
theorem je_not (ha : JE X ca W a ga) : JE X ca W (.UnaryOp .Not a pos) (gNotV ga) := by
  refine PE.imp (pe_not ha) fun σ H Q ⟨ι, ρ, s, hr, hm, h⟩ => bindE famE hr hm h fun ι1 s1 d v H1 l1 hr1 hm1 rd h1 => ?_
  cases rd with
  | bl k => exact ⟨k, rfl, h1 ι1 _ H1 .refl hm1 (.bl _)⟩
  | _ => exact h1.elim
theorem je_if (hc : JT X ca W c t) (ha : JE X ca W a ga) (hb : JE X ca W b gb) : JE X ca W (.IfExp c a b pos) (gIf t ga gb) := by
  refine PE.imp (pe_ifExp hc ha hb) fun σ H Q ⟨ι, ρ, s, hr, hm, h⟩ => bindT famE hr hm h fun ι1 s1 k H1 l1 hr1 hm1 h1 => ?_
  cases k with
  | true => rw [if_pos rfl]; exact ⟨ι1, ρ, s1, hr1, hm1, h1⟩
  | false => rw [if_neg Bool.false_ne_true]; exact ⟨ι1, ρ, s1, hr1, hm1, h1⟩
def gNeg (ga : GE) : GE := fun ρ s => (ga ρ s).bind fun d s1 => match d with | .int i => .ok (.int (-i)) s1 | _ => .no
theorem je_neg (ha : JE X ca W a ga) : JE X ca W (.UnaryOp .USub a pos) (gNeg ga) := by
  refine PE.imp (pe_un un_neg ha) fun σ H Q ⟨ι, ρ, s, hr, hm, h⟩ => bindE famE hr hm h fun ι1 s1 d v H1 l1 hr1 hm1 rd h1 => ?_
  cases rd with
  | int k => exact ⟨k, rfl, h1 ι1 _ H1 .refl hm1 (.int _)⟩
  | _ => exact h1.elim

/-! ### arguments, displays -/
def gaNil : GA := fun _ s => .ok [] s
def gaCons (g : GE) (r : GA) : GA := fun ρ s => (g ρ s).bind fun d s1 => (r ρ s1).bind fun ds s2 => .ok (d :: ds) s2
theorem ja_nil : JA X ca W [] gaNil := PA.imp pa_nil fun σ H Q ⟨ι, ρ, s, hr, hm, h⟩ => h ι [] H .refl hm .nil
theorem ja_cons {gr : GA} (h : JE X ca W e g) (hr : JA X ca W es gr) (hs : starEach (e :: es) X.env = (false, eval e X.env) :: starEach es X.env := by rfl) : JA X ca W (e :: es) (gaCons g gr) := by
  refine PA.imp (pa_cons h hr hs) fun σ H Q ⟨ι, ρ, s, hr, hm, h⟩ => bindE famA hr hm h fun ι1 s1 d v H1 l1 hr1 hm1 rd h1 => bindA famA hr1 hm1 h1 fun ι2 s2 ds vs H2 l2 hr2 hm2 rs h2 => ?_
  exact h2 ι2 _ H2 .refl hm2 (.cons (rd.mono l2) rs)
def gTup (g : GA) : GE := fun ρ s => (g ρ s).bind fun ds s1 => if fitL ds.length then .ok (.tup ds) s1 else .no
def gLst (g : GA) : GE := fun ρ s => (g ρ s).bind fun ds s1 => if fitL ds.length then .ok (.lst ds) s1 else .no
/-- a list that may change -/
def gLstM (g : GA) : GE := fun ρ s => (g ρ s).bind fun ds s1 => if fitL ds.length then .ok (.obj s1.length) (s1 ++ [.lst ds]) else .no
theorem je_tup {x1} {gr : GA} (h : JA X ca W es gr) : JE X ca W (.Tuple es x1 pos) (gTup gr) := by
  refine PE.imp (pe_tup h) fun σ H Q ⟨ι, ρ, s, hr, hm, h⟩ => bindA famE hr hm h fun ι1 s1 ds vs H1 l1 hr1 hm1 rs h1 => ?_
  split at h1
  · rename_i hf
    refine ⟨by rw [← rs.length]; exact fitL_le hf, fun p hp => ?_⟩
    obtain ⟨l, m⟩ := hm1.new (o := .tup vs) hp
    exact h1 _ _ _ l m (.tup (.inl upd_same) (rs.mono l))
  · exact h1.elim
theorem je_lst {gr : GA} (h : JA X ca W es gr) : JE X ca W (.List es pos) (gLst gr) := by
  refine PE.imp (pe_lst h) fun σ H Q ⟨ι, ρ, s, hr, hm, h⟩ => bindA famE hr hm h fun ι1 s1 ds vs H1 l1 hr1 hm1 rs h1 => ?_
  split at h1
  · rename_i hf
    refine ⟨by rw [← rs.length]; exact fitL_le hf, fun p hp => ?_⟩
    obtain ⟨l, m⟩ := hm1.new (o := .lst vs) hp
    exact h1 _ _ _ l m (.lst upd_same (hm1.ne hp) (rs.mono l))
  · exact h1.elim
theorem je_lstM {gr : GA} (h : JA X ca W es gr) : JE X ca W (.List es pos) (gLstM gr) := by
  refine PE.imp (pe_lst h) fun σ H Q ⟨ι, ρ, s, hr, hm, h⟩ => bindA famE hr hm h fun ι1 s1 ds vs H1 l1 hr1 hm1 rs h1 => ?_
  split at h1
  · rename_i hf
    refine ⟨by rw [← rs.length]; exact fitL_le hf, fun p hp => ?_⟩
    obtain ⟨l, m⟩ := hm1.alloc (o := .lst vs) (u := .lst ds) hp trivial fun l => ⟨vs, upd_same, rs.mono l⟩
    exact h1 _ _ _ l m (.obj (by simp [← hm1.len]))
  · exact h1.elim

/-! ### built-ins by values -/
def rCJ (K : PySem.W.Frag) (ca : Ct) (f : S → List D → Option D) : List V → Hp → VK → Prop := fun vs H Q => ∃ ι s ds x, Sim K ca ι s H ∧ Reps K ι H ds vs ∧ f s ds = some x ∧
  ∀ ι' v' H', Le ι H ι' H' → Sim K ca ι' s H' → Rep K ι' H' x v' → Q v' H'
theorem CallR.imp {f : Value} {r r' : List V → Hp → VK → Prop} (h : CallR X f r) (i : ∀ vs H Q, r' vs H Q → r vs H Q) : CallR X f r' := fun pins s σ H xs us Q I r q => h pins s σ H xs us Q I r (i _ _ _ q)
def gF (f : S → List D → Option D) (gr : GA) : GE := fun ρ s => (gr ρ s).bind fun ds s1 => R.ofO (f s1 ds) s1
theorem tG_gF {f : S → List D → Option D} {gr : GA} {σ : L2.St} {H : Hp} {Q : VK} (h : tG X.K ca W (gF f gr) σ H Q) : tCB (rCJ X.K ca f) (tA X.K ca W gr) σ H Q := by
  obtain ⟨ι, ρ, s, hr, hm, h⟩ := h
  refine bindA famE hr hm h fun ι1 s1 ds vs H1 l1 hr1 hm1 rs h1 => ?_
  cases e : f s1 ds with
  | none => rw [e] at h1; exact h1.elim
  | some z => rw [e] at h1; exact ⟨ι1, s1, ds, z, hm1, rs, e, fun ι' v' H' l m r => h1 ι' v' H' l m r⟩
theorem je_B {x : Str} {p : Pos} {id : String} {f : S → List D → Option D} {gr : GA} (hc : CallR X (.builtin id) (rCJ X.K ca f)) (hm : X.mg x = none) (hv : bootBuiltins x = some (.builtin id)) (ha : JA X ca W (e :: es) gr) (hg : Gl X x := by rfl) (hn : x ≠ "__name__" := by decide)
    (hdb : (x == ("__debug__" : Str)) = false := by decide) (he : starEach (e :: es) X.env = (false, eval e X.env) :: starEach es X.env := by rfl) (hpl : (backTo pos (starEach es X.env)).any (·.1) = false := by rfl) : JE X ca W (.Call (.Name x p) (e :: es) [] pos) (gF f gr) :=
  PE.imp (pe_callB hc hg hm hv ha hn hdb he hpl) fun _ _ _ h => tG_gF h
theorem je_Ty {x : Str} {p : Pos} {id : String} {f : S → List D → Option D} {gr : GA} (hc : CallR X (.type id) (rCJ X.K ca f)) (hm : X.mg x = none) (hv : bootBuiltins x = some (.type id)) (ha : JA X ca W (e :: es) gr) (hg : Gl X x := by rfl) (hn : x ≠ "__name__" := by decide)
    (hdb : (x == ("__debug__" : Str)) = false := by decide) (he : starEach (e :: es) X.env = (false, eval e X.env) :: starEach es X.env := by rfl) (hpl : (backTo pos (starEach es X.env)).any (·.1) = false := by rfl) : JE X ca W (.Call (.Name x p) (e :: es) [] pos) (gF f gr) :=
  PE.imp (pe_callTy hc hg hm hv ha hn hdb he hpl) fun _ _ _ h => tG_gF h
end
end J


set_option Elab.async false
set_option linter.all false
set_option maxRecDepth 100000
set_option maxHeartbeats 4000000
/-! J3: statements, loops, comprehensions, defs and their calls. -/
namespace J
open PySem PySem.Spec L2
open PyProof.Rows (envOfC)

abbrev W0 : WX := fun _ _ _ _ => False
def JS (X : Cx) (ca : Ct) (W : WX) (st : Stmt) (g : GS) : Prop := PS X st (tS X.K ca W g)
def JSs (X : Cx) (ca : Ct) (W : WX) (st : List Stmt) (g : GS) : Prop := PSs X st (tS X.K ca W g)
/-- a target -/
abbrev TD := D → Env → Option Env
def tgJ (K : PySem.W.Frag) (ca : Ct) (t : TD) : TG := fun v σ H Q => ∃ ι ρ s d ρ', RelS K ι H ρ σ ∧ Sim K ca ι s H ∧ Rep K ι H d v ∧ t d ρ = some ρ' ∧ ∀ ι' σ' H', Le ι H ι' H' → Sim K ca ι' s H' → RelS K ι' H' ρ' σ' → Q σ' H'
def tgsJ (K : PySem.W.Frag) (ca : Ct) (t : List D → Env → Option Env) : TGs := fun vs σ H Q => ∃ ι ρ s ds ρ', RelS K ι H ρ σ ∧ Sim K ca ι s H ∧ Reps K ι H ds vs ∧ t ds ρ = some ρ' ∧ ∀ ι' σ' H', Le ι H ι' H' → Sim K ca ι' s H' → RelS K ι' H' ρ' σ' → Q σ' H'
def JG (X : Cx) (ca : Ct) (tg : Expr) (t : TD) : Prop := PG X tg (tgJ X.K ca t)
def JGs (X : Cx) (ca : Ct) (tgs : List Expr) (t : List D → Env → Option Env) : Prop := PGs X tgs (tgsJ X.K ca t)
theorem PG.imp {X : Cx} {e : Expr} {t t' : TG} (h : PG X e t) (i : ∀ v σ H Q, t' v σ H Q → t v σ H Q) : PG X e t' := ⟨fun pins s σ H v u Q I r q => h.run pins s σ H v u Q I r (i _ _ _ _ q)⟩
theorem PGs.imp {X : Cx} {e : List Expr} {t t' : TGs} (h : PGs X e t) (i : ∀ v σ H Q, t' v σ H Q → t v σ H Q) : PGs X e t' := ⟨fun pins s σ H v u Q I r q => h.run pins s σ H v u Q I r (i _ _ _ _ q)⟩
theorem PS.imp {X : Cx} {e : Stmt} {t t' : TS} (h : PS X e t) (i : ∀ D σ H, t' D σ H → t D σ H) : PS X e t' := ⟨fun pins s σ H D I q => h.run pins s σ H D I (i _ _ _ q)⟩
theorem PSs.imp {X : Cx} {e : List Stmt} {t t' : TS} (h : PSs X e t) (i : ∀ D σ H, t' D σ H → t D σ H) : PSs X e t' := ⟨fun pins s σ H D I q => h.run pins s σ H D I (i _ _ _ q)⟩
theorem PI.imp {X : Cx} {tg e : Expr} {t t' : TI} (h : PI X tg e t) (i : ∀ σ H R, t' σ H R → t σ H R) : PI X tg e t' := ⟨fun pins s σ H R I q => h.run pins s σ H R I (i _ _ _ q)⟩
theorem PI.or {X : Cx} {tg e : Expr} {t t' : TI} (h : PI X tg e t) (h' : PI X tg e t') : PI X tg e (fun σ H R => t σ H R ∨ t' σ H R) := ⟨fun pins s σ H R I q => q.elim (h.run pins s σ H R I) (h'.run pins s σ H R I)⟩
section
variable {X : Cx} {ca : Ct} {W : WX} {e tg : Expr} {es : List Expr} {pos : Pos} {g : GE} {st : Stmt} {sts : List Stmt} {b b' : GS}
def dName (i : Nat) : TD := fun d ρ => some (ρ.set i (some d))
theorem jg_name (i : Nat) {x : Str} (hN : X.N.Nodup) (hi : X.N[i]? = some x := by rfl) (hx : Loc X.env.scope x := by first | exact Or.inl rfl | exact Or.inr rfl) (hf : X.fn x = true ∨ X.env.scope.names.lookup x = some .local := by first | exact .inl rfl | exact .inr rfl) : JG X ca (.Name x pos) (dName i) :=
  PG.imp (pg_name (i := i) hN hi hx hf) fun v σ H Q ⟨ι, ρ, s, d, ρ', hr, hm, rd, e, q⟩ => by
    cases e
    exact q ι _ H .refl hm (hr.set rd i)
def dsNil : List D → Env → Option Env := fun ds ρ => match ds with | [] => some ρ | _ => none
def dsCons (t : TD) (r : List D → Env → Option Env) : List D → Env → Option Env := fun ds ρ => match ds with | d :: ds => (t d ρ).bind (r ds) | _ => none
theorem jgs_nil : JGs X ca [] dsNil := PGs.imp pgs_nil fun v σ H Q ⟨ι, ρ, s, ds, ρ', hr, hm, rs, e, q⟩ => by
  cases rs with
  | nil => cases e; exact ⟨rfl, q ι _ H .refl hm hr⟩
  | cons _ _ => cases e
theorem jgs_cons {t : TD} {r : List D → Env → Option Env} (h1 : JG X ca e t) (h2 : JGs X ca es r) (hs : (assignEach (e :: es) X.env).map (·.2) = assign e X.env :: (assignEach es X.env).map (·.2) := by rfl) : JGs X ca (e :: es) (dsCons t r) :=
  PGs.imp (pgs_cons h1 h2 hs) fun v σ H Q ⟨ι, ρ, s, ds, ρ', hr, hm, rs, e, q⟩ => by
    cases rs with
    | nil => cases e
    | cons rd rs =>
      simp only [dsCons, Option.bind_eq_some_iff] at e
      obtain ⟨ρ1, e1, e2⟩ := e
      exact ⟨_, _, rfl, ι, ρ, s, _, ρ1, hr, hm, rd, e1, fun ι1 σ1 H1 l1 m1 r1 => ⟨ι1, ρ1, s, _, ρ', r1, m1, rs.mono l1, e2, fun ι2 σ2 H2 l2 m2 r2 => q ι2 σ2 H2 (l1.trans l2) m2 r2⟩⟩
def dTup (n : Nat) (t : List D → Env → Option Env) : TD := fun d ρ => match d with | .tup ds => if ds.length = n then t ds ρ else none | _ => none
theorem jg_tup {t : List D → Env → Option Env} {k n : Nat} (hc : X.calm = true) (h : JGs X ca es t) (hn : (assignEach es X.env).length = n := by rfl) (hst : (assignEach es X.env).findIdx? (·.1) = none := by rfl) : JG X ca (.Tuple es k pos) (dTup n t) :=
  PG.imp (pg_tup hc h hn hst) fun v σ H Q ⟨ι, ρ, s, d, ρ', hr, hm, rd, e, q⟩ => by
    cases rd with
    | tup h1 h2 =>
      simp only [dTup] at e
      split at e
      · rename_i hl
        exact ⟨_, _, rfl, h1.sq, by rw [← h2.length]; exact hl, ι, ρ, s, _, ρ', hr, hm, h2, e, q⟩
      · cases e
    | _ => simp [dTup] at e

/-! ### statements -/
def sNext : GS := fun ρ s => .ok (.nx ρ) s
def sSeq (a b : GS) : GS := fun ρ s => (a ρ s).bind fun f s1 => match f with | .nx ρ1 => b ρ1 s1 | f => .ok f s1
def sExpr (g : GE) : GS := fun ρ s => (g ρ s).bind fun _ s1 => .ok (.nx ρ) s1
def sRet (g : GE) : GS := fun ρ s => (g ρ s).bind fun d s1 => .ok (.rt d) s1
def sRetN : GS := fun _ s => .ok (.rt .non) s
def sAsg (g : GE) (t : TD) : GS := fun ρ s => (g ρ s).bind fun d s1 => match t d ρ with | some ρ1 => .ok (.nx ρ1) s1 | none => .no
def sIf (t : GT) (a b : GS) : GS := fun ρ s => (t ρ s).bind fun k s1 => if k then a ρ s1 else b ρ s1
def sBreak : GS := fun ρ s => .ok (.bk ρ) s
def sCont : GS := fun ρ s => .ok (.ct ρ) s
theorem jss_nil : JSs X ca W [] sNext := PSs.imp pss_nil fun D σ H ⟨ι, ρ, s, hr, hm, h⟩ => h ι σ H .refl hm hr
theorem jss_cons (h1 : JS X ca W st b) (h2 : JSs X ca W sts b') : JSs X ca W (st :: sts) (sSeq b b') := PSs.imp (pss_cons h1 h2) fun D σ H ⟨ι, ρ, s, hr, hm, h⟩ => by
  refine ⟨ι, ρ, s, hr, hm, ?_⟩
  unfold sSeq at h
  cases e : b ρ s with
  | ok f s1 =>
    rw [e] at h
    cases f with
    | nx ρ1 => exact fun ι' σ' H' l m r => ⟨ι', ρ1, s1, r, m, PostS.mono h l⟩
    | rt d => exact h
    | bk ρ1 => exact h
    | ct ρ1 => exact h
  | err x s1 => rw [e] at h; exact h
  | no => rw [e] at h; exact h
theorem jss_one (h1 : JS X ca W st b) : JSs X ca W [st] b := pss_one h1
theorem js_pass : JS X ca W (.Pass pos) sNext := PS.imp ps_pass fun D σ H ⟨ι, ρ, s, hr, hm, h⟩ => h ι σ H .refl hm hr
theorem js_break : JS X ca W (.Break pos) sBreak := PS.imp ps_break fun D σ H ⟨ι, ρ, s, hr, hm, h⟩ => h ι σ H .refl hm hr
theorem js_cont : JS X ca W (.Continue pos) sCont := PS.imp ps_continue fun D σ H ⟨ι, ρ, s, hr, hm, h⟩ => h ι σ H .refl hm hr
theorem js_expr (h : JE X ca W e g) (hs : swapsWith e none pos.line X.env = pure false := by rfl) : JS X ca W (.Expr e pos) (sExpr g) := PS.imp (ps_expr h hs) fun D σ H ⟨ι, ρ, s, hr, hm, h⟩ =>
  bindE famS hr hm h fun ι1 s1 d v H1 l1 hr1 hm1 rd h1 => h1 ι1 σ H1 .refl hm1 hr1
theorem js_ret (h : JE X ca W e g) : JS X ca W (.Return (some e) pos) (sRet g) := PS.imp (ps_ret h) fun D σ H ⟨ι, ρ, s, hr, hm, h⟩ =>
  bindE famS hr hm h fun ι1 s1 d v H1 l1 hr1 hm1 rd h1 => h1 ι1 v H1 .refl hm1 rd
theorem js_retN : JS X ca W (.Return none pos) sRetN := PS.imp ps_retN fun D σ H ⟨ι, ρ, s, hr, hm, h⟩ => h ι _ H .refl hm .non
theorem js_set (i : Nat) {x : Str} {pos' : Pos} (hN : X.N.Nodup) (he : JE X ca W e g) (hi : X.N[i]? = some x := by rfl) (hx : Loc X.env.scope x := by first | exact Or.inl rfl | exact Or.inr rfl) (hs : swapsWith e (some (.Name x pos')) pos.line X.env = pure false := by rfl)
    (hf : X.fn x = true ∨ X.env.scope.names.lookup x = some .local := by first | exact .inl rfl | exact .inr rfl) : JS X ca W (.Assign [.Name x pos'] e pos) (sAsg g (dName i)) := PS.imp (ps_set (i := i) hN hi hx he hs hf) fun D σ H ⟨ι, ρ, s, hr, hm, h⟩ =>
  bindE famS hr hm h fun ι1 s1 d v H1 l1 hr1 hm1 rd h1 => h1 ι1 _ H1 .refl hm1 (hr1.set rd i)
theorem js_asg {t : TD} (he : JE X ca W e g) (hg : JG X ca tg t) (hs : swapsWithSole [tg] e pos.line X.env = pure false := by rfl) (hw : swappedStores [tg] e X.env = pure none := by rfl)
    (h1 : (assignEach [tg] X.env).map (·.2) = [assign tg X.env] := by rfl) : JS X ca W (.Assign [tg] e pos) (sAsg g t) := PS.imp (ps_asg he hg hs hw h1) fun D σ H ⟨ι, ρ, s, hr, hm, h⟩ =>
  bindE famS hr hm h fun ι1 s1 d v H1 l1 hr1 hm1 rd h1 => by
    cases e : t d ρ with
    | none => rw [e] at h1; exact h1.elim
    | some ρ' => rw [e] at h1; exact ⟨ι1, ρ, s1, d, ρ', hr1, hm1, rd, e, fun ι' σ' H' l m r => h1 ι' σ' H' l m r⟩
def sPar (i j : Nat) (gr : GA) : GS := fun ρ s => (gr ρ s).bind fun ds s1 => match ds with | [d, e] => .ok (.nx ((ρ.set i (some d)).set j (some e))) s1 | _ => .no
theorem js_par (i j : Nat) {x y : Str} {a c : Expr} {gr : GA} {px py pt : Pos} {kt k2 pt2} (hc : X.calm = true) (hN : X.N.Nodup) (ha : JA X ca W [a, c] gr) (hi : X.N[i]? = some x := by rfl) (hj : X.N[j]? = some y := by rfl) (hij : i ≠ j := by decide)
    (hx : X.env.scope.names.lookup x = some .local := by rfl) (hy : X.env.scope.names.lookup y = some .local := by rfl)
    (hw : swappedStores [.Tuple [.Name x px, .Name y py] kt pt] (.Tuple [a, c] k2 pt2) X.env = pure (some [x, y]) := by rfl)
    (hs : swapsWithSole [.Tuple [.Name x px, .Name y py] kt pt] (.Tuple [a, c] k2 pt2) pos.line X.env = pure false := by rfl) :
    JS X ca W (.Assign [.Tuple [.Name x px, .Name y py] kt pt] (.Tuple [a, c] k2 pt2) pos) (sPar i j gr) := PS.imp (ps_par hc hN hi hj hij hx hy ha hw hs) fun D σ H ⟨ι, ρ, s, hr, hm, h⟩ =>
  bindA famS hr hm h fun ι1 s1 ds vs H1 l1 hr1 hm1 rs h1 => by
    cases rs with
    | nil => exact h1.elim
    | cons r1 rs =>
      cases rs with
      | nil => exact h1.elim
      | cons r2 rs =>
        cases rs with
        | nil => exact ⟨_, _, rfl, h1 ι1 _ H1 .refl hm1 ((hr1.set r1 i).set r2 j)⟩
        | cons _ _ => exact h1.elim
theorem js_if {c : Expr} {t : GT} {sa sb : List Stmt} (hc : JT X ca W c t) (ha : JSs X ca W sa b) (hb : JSs X ca W sb b') : JS X ca W (.If c sa sb pos) (sIf t b b') := PS.imp (ps_if hc ha hb) fun D σ H ⟨ι, ρ, s, hr, hm, h⟩ =>
  bindT famS hr hm h fun ι1 s1 k H1 l1 hr1 hm1 h1 => by
    cases k with
    | true => rw [if_pos rfl]; exact ⟨ι1, ρ, s1, hr1, hm1, h1⟩
    | false => rw [if_neg Bool.false_ne_true]; exact ⟨ι1, ρ, s1, hr1, hm1, h1⟩

/-! ### what is walked -/
/-- the iterator yields these, as long as what stands stands -/
def ItJ (K : PySem.W.Frag) (ι : Wd) (H : Hp) (J : It) (ds : List D) : Prop := ∀ ι' H', Le ι H ι' H' →
  (∀ i d, ds[i]? = some d → J.go i H' ∧ ∀ x H'', J.yld i H' x H'' → H'' = H' ∧ Rep K ι' H' d x) ∧ ∀ i, ds.length ≤ i → J.stop i H'
def PostI (K : PySem.W.Frag) (ca : Ct) (ι : Wd) (H : Hp) (r : R (List D)) (Q : It → Hp → Prop) (E : XK) : Prop := match r with
  | .ok ds s' => ∀ ι' J H', Le ι H ι' H' → Sim K ca ι' s' H' → ItJ K ι' H' J ds → Q J H'
  | .err e s' => ∀ ι' cv dd H', Le ι H ι' H' → Sim K ca ι' s' H' → RepX K ca ι' H' e cv dd → E cv dd H'
  | .no => False
theorem famI {K : PySem.W.Frag} {E : XK} {Q : It → Hp → Prop} : Fam K ca E (fun ι H r => PostI K ca ι H r Q E) := ⟨fun {ι H ι' H' r} h l => by
  cases r with
  | ok d s => exact fun ι2 v H2 l2 m q => h ι2 v H2 (l.trans l2) m q
  | err e s => exact fun ι2 cv dd H2 l2 m q => h ι2 cv dd H2 (l.trans l2) m q
  | no => exact h, fun h => h, fun h => h⟩
def tI (K : PySem.W.Frag) (ca : Ct) (W : WX) (g : GA) : TI := fun σ H R => ∃ ι ρ s, RelS K ι H ρ σ ∧ Sim K ca ι s H ∧ PostI K ca ι H (g ρ s) R (fun cv dd H' => W cv dd σ H')
def JI (X : Cx) (ca : Ct) (W : WX) (tg e : Expr) (g : GA) : Prop := PI X tg e (tI X.K ca W g)
def itemsF : D → Option (List D)
  | .lst ds => some ds
  | .frz ds => some ds
  | .tup ds => some ds
  | _ => none
def gItems (g : GE) : GA := fun ρ s => (g ρ s).bind fun d s1 => R.ofO (itemsF d) s1
theorem itJ_list {K : PySem.W.Frag} {ι : Wd} {H : Hp} {a : Addr} {vs : List V} {ds : List D} (h : ∀ ι' H', Le ι H ι' H' → SqL K H' a vs) (u : ∀ ι' H' ys, Le ι H ι' H' → SqL K H' a ys → ys = vs) (r : Reps K ι H ds vs) : ItJ K ι H (Itl K a) ds := fun ι' H' l =>
  ⟨fun i d hd => let ⟨x, hx, _⟩ := r.get hd; ⟨⟨vs, x, h ι' H' l, hx⟩, fun y H'' ⟨e, q⟩ => ⟨e, by
    have hy := q vs (h ι' H' l)
    obtain ⟨d', h1, h2⟩ := r.getV hy
    rw [hd] at h1; cases h1
    exact h2.mono l⟩⟩, fun i hi => ⟨vs, h ι' H' l, by rw [← r.length]; exact hi⟩⟩
theorem itJ_tup {K : PySem.W.Frag} {ι : Wd} {H : Hp} {a : Addr} {vs : List V} {ds : List D} (h : ∀ ι' H', Le ι H ι' H' → SqT K H' a vs) (r : Reps K ι H ds vs) : ItJ K ι H (Itt K a) ds := fun ι' H' l =>
  ⟨fun i d hd => let ⟨x, hx, _⟩ := r.get hd; ⟨⟨vs, x, h ι' H' l, hx⟩, fun y H'' ⟨e, q⟩ => ⟨e, by
    have hy := q vs (h ι' H' l)
    obtain ⟨d', h1, h2⟩ := r.getV hy
    rw [hd] at h1; cases h1
    exact h2.mono l⟩⟩, fun i hi => ⟨vs, h ι' H' l, by rw [← r.length]; exact hi⟩⟩
theorem ji_seq (h : JE X ca W e g) : JI X ca W tg e (gItems g) := by
  refine PI.imp (PI.or (pi_list h) (pi_tup h)) fun σ H R ⟨ι, ρ, s, hr, hm, h⟩ => ?_
  unfold gItems at h
  cases e : g ρ s with
  | err x s1 =>
    rw [e] at h
    exact .inl ⟨ι, ρ, s, hr, hm, by rw [e]; exact h⟩
  | no => rw [e] at h; exact h.elim
  | ok d s1 =>
    rw [e] at h
    have bnd : ∀ (T : VK), (∀ ι' v H', Le ι H ι' H' → Sim X.K ca ι' s1 H' → Rep X.K ι' H' d v → PostI X.K ca ι' H' (J.R.ofO (itemsF d) s1) R (fun cv dd H' => W cv dd σ H') → T v H') → tG X.K ca W g σ H T := fun T k =>
      ⟨ι, ρ, s, hr, hm, by rw [e]; exact fun ι' v H' l m r => k ι' v H' l m r (famI.mono h l)⟩
    cases d with
    | tup ds =>
      refine .inr (bnd (fun x H1 => ∃ a, x = .ref a ∧ (∃ xs, SqT X.K H1 a xs) ∧ R (Itt X.K a) H1) fun ι' v H' l m r q => ?_)
      obtain ⟨a, vs, rfl, h1, h2⟩ := r.tupOf
      exact ⟨a, rfl, ⟨vs, h1.sq⟩, q ι' _ H' .refl m (itJ_tup (fun _ _ l2 => (l2.toKe.tupAt h1).sq) h2)⟩
    | lst ds =>
      refine .inl (bnd (fun x H1 => ∃ a, x = .ref a ∧ (∃ xs, SqL X.K H1 a xs) ∧ R (Itl X.K a) H1) fun ι' v H' l m r q => ?_)
      cases r with
      | lst h1 hn h2 =>
        refine ⟨_, rfl, ⟨_, SqL.of h1⟩, q ι' _ H' .refl m ?_⟩
        intro ι2 H2 l2
        have h3 := (l2.keep _ _ h1 noTab_lst hn).1
        refine ⟨fun i d hd => let ⟨x, hx, rx⟩ := h2.get hd; ⟨⟨_, x, SqL.of h3, hx⟩, fun y H'' ⟨e, q⟩ => ⟨e, ?_⟩⟩, fun i hi => ⟨_, SqL.of h3, by rw [← h2.length]; exact hi⟩⟩
        have hy := q _ (SqL.of h3)
        rw [hx] at hy; cases hy
        exact rx.mono l2
    | frz ds =>
      refine .inl (bnd (fun x H1 => ∃ a, x = .ref a ∧ (∃ xs, SqL X.K H1 a xs) ∧ R (Itl X.K a) H1) fun ι' v H' l m r q => ?_)
      cases r with
      | frz h1 h2 =>
        refine ⟨_, rfl, ⟨_, h1.sq⟩, q ι' _ H' .refl m ?_⟩
        intro ι2 H2 l2
        have h3 := l2.toKe.frzAt h1
        refine ⟨fun i d hd => let ⟨x, hx, rx⟩ := h2.get hd; ⟨⟨_, x, h3.sq, hx⟩, fun y H'' ⟨e, q⟩ => ⟨e, ?_⟩⟩, fun i hi => ⟨_, h3.sq, by rw [← h2.length]; exact hi⟩⟩
        have hy := q _ h3.sq
        rw [hx] at hy; cases hy
        exact rx.mono l2
      | frz2 h1 hn h2 =>
        refine ⟨_, rfl, ⟨_, SqL.of h1⟩, q ι' _ H' .refl m ?_⟩
        intro ι2 H2 l2
        have h3 := (l2.keep _ _ h1 noTab_lst hn).1
        refine ⟨fun i d hd => let ⟨x, hx, rx⟩ := h2.get hd; ⟨⟨_, x, SqL.of h3, hx⟩, fun y H'' ⟨e, q⟩ => ⟨e, ?_⟩⟩, fun i hi => ⟨_, SqL.of h3, by rw [← h2.length]; exact hi⟩⟩
        have hy := q _ (SqL.of h3)
        rw [hx] at hy; cases hy
        exact rx.mono l2
    | _ => exact h.elim
/-- the ints lo, lo + 1, .. below hi -/
def rangeD (lo hi : Int) : List D := (List.range (hi - lo).toNat).map fun (k : Nat) => D.int (lo + k)
def okR (i : Int) : Bool := decide (-(2 ^ 62) ≤ i) && decide (i < 2 ^ 62)
def gRange1 (gr : GA) : GA := fun ρ s => (gr ρ s).bind fun ds s1 => match ds with | [.int j] => if okR j then .ok (rangeD 0 j) s1 else .no | _ => .no
def gRange2 (gr : GA) : GA := fun ρ s => (gr ρ s).bind fun ds s1 => match ds with | [.int i, .int j] => if okR i && okR j then .ok (rangeD i j) s1 else .no | _ => .no
theorem itJ_range {K : PySem.W.Frag} {ι : Wd} {H : Hp} {lo hi : Int} : ItJ K ι H (Itr lo (hi - lo).toNat) (rangeD lo hi) := by
  intro ι' H' l
  refine ⟨fun i d hd => ?_, fun i h => by
    rw [rangeD, List.length_map, List.length_range] at h; exact h⟩
  · 
    unfold rangeD at hd
    rw [List.getElem?_map] at hd
    by_cases hi' : i < (hi - lo).toNat
    · rw [List.getElem?_range hi'] at hd
      cases hd
      exact ⟨hi', fun y H'' ⟨e, q⟩ => ⟨e, by rw [q]; exact .int _⟩⟩
    · rw [List.getElem?_eq_none (by simpa using hi')] at hd
      cases hd
theorem ji_range1 {a : Expr} {gr : GA} {p : Pos} (hm : X.mg "range" = none) (ha : JA X ca W [a] gr) (hg : Gl X "range" := by rfl) (hs : starEach [a] X.env = [(false, eval a X.env)] := by rfl) : JI X ca W tg (.Call (.Name "range" p) [a] [] pos) (gRange1 gr) := by
  refine PI.imp (pi_range1 hg hm ha hs) fun σ H R ⟨ι, ρ, s, hr, hm, h⟩ => bindA famI hr hm h fun ι1 s1 ds vs H1 l1 hr1 hm1 rs h1 => ?_
  split at h1
  · split at h1
    · rename_i hk
      cases rs with
      | cons r1 rs =>
        cases rs
        cases r1
        simp only [okR, Bool.and_eq_true, decide_eq_true_eq] at hk
        refine ⟨_, rfl, hk.1, hk.2, h1 ι1 _ H1 .refl hm1 ?_⟩
        have := itJ_range (K := X.K) (ι := ι1) (H := H1) (lo := 0) (hi := ‹Int›)
        rwa [Int.sub_zero] at this
    · exact h1.elim
  · exact h1.elim
theorem ji_range2 {a c : Expr} {gr : GA} {p : Pos} (hm : X.mg "range" = none) (ha : JA X ca W [a, c] gr) (hg : Gl X "range" := by rfl) (hs : starEach [a, c] X.env = [(false, eval a X.env), (false, eval c X.env)] := by rfl) (hs2 : starEach [c] X.env = [(false, eval c X.env)] := by rfl) :
    JI X ca W tg (.Call (.Name "range" p) [a, c] [] pos) (gRange2 gr) := by
  refine PI.imp (pi_range2 hg hm ha hs hs2) fun σ H R ⟨ι, ρ, s, hr, hm, h⟩ => bindA famI hr hm h fun ι1 s1 ds vs H1 l1 hr1 hm1 rs h1 => ?_
  split at h1
  · split at h1
    · rename_i hk
      cases rs with
      | cons r1 rs =>
        cases rs with
        | cons r2 rs =>
          cases rs
          cases r1
          cases r2
          simp only [okR, Bool.and_eq_true, decide_eq_true_eq] at hk
          exact ⟨_, _, rfl, ⟨hk.1.1, hk.1.2, hk.2.1, hk.2.2⟩, h1 ι1 _ H1 .refl hm1 itJ_range⟩
    · exact h1.elim
  · exact h1.elim

/-! ### for -/
def forLoop (t : TD) (b : GS) : List D → Env → S → R Fl
  | [], ρ, s => .ok (.nx ρ) s
  | x :: xs, ρ, s => match t x ρ with
    | none => .no
    | some ρ1 => (b ρ1 s).bind fun f s1 => match f with
      | .nx ρ2 => forLoop t b xs ρ2 s1
      | .ct ρ2 => forLoop t b xs ρ2 s1
      | .bk ρ2 => .ok (.nx ρ2) s1
      | .rt d => .ok (.rt d) s1
def sFor (t : TD) (gi : GA) (b : GS) : GS := fun ρ s => (gi ρ s).bind fun ds s1 => forLoop t b ds ρ s1
theorem js_for {iter : Expr} {body : List Stmt} {gi : GA} {t : TD} (hp : PassesOwn (model X.prog X.w) X.A X.env X.xe) (hc : X.calm = true) (hi : JI X ca W tg iter gi) (hg : JG X ca tg t) (hb : JSs X ca W body b) (hs : ∀ x, foldedSetIterable iter X.env x = pure x := by intro _; rfl) :
    JS X ca W (.For tg iter body [] pos) (sFor t gi b) := by
  refine PS.imp (ps_for hp hc hi hg hb hs) fun D σ H ⟨ι, ρ, s, hr, hm, h⟩ => ?_
  refine ⟨ι, ρ, s, hr, hm, ?_⟩
  unfold sFor at h
  cases e : gi ρ s with
  | err x s1 => rw [e] at h; exact fun ι' cv dd H' l m q => h ι' cv dd H' σ l m q
  | no => rw [e] at h; exact h
  | ok ds s1 =>
    rw [e] at h
    intro ι1 J H1 l1 hm1 it
    refine ⟨fun i m σ' H' => m = ds.length - i ∧ ∃ ι' ρ' s', Le ι1 H1 ι' H' ∧ RelS X.K ι' H' ρ' σ' ∧ Sim X.K ca ι' s' H' ∧ PostS X.K ca ι H W (forLoop t b (ds.drop i) ρ' s') D, ⟨_, rfl, ι1, ρ, s1, .refl, hr.mono l1, hm1, h⟩, ?_⟩
    rintro i m σ' H' ⟨rfl, ι', ρ', s', l', hr', hm', h'⟩
    obtain ⟨i1, i2⟩ := it ι' H' l'
    have l0 := l1.trans l'
    by_cases hlt : i < ds.length
    · have hd : ds[i]? = some ds[i] := List.getElem?_eq_getElem hlt
      obtain ⟨g1, g2⟩ := i1 i _ hd
      refine .inr ⟨g1, fun σ2 H2 => ∃ ι2 ρ2 s2, Le ι1 H1 ι2 H2 ∧ RelS X.K ι2 H2 ρ2 σ2 ∧ Sim X.K ca ι2 s2 H2 ∧ PostS X.K ca ι H W (forLoop t b (ds.drop (i + 1)) ρ2 s2) D, fun σ2 H2 w => ⟨_, by omega, rfl, w⟩, fun x H2 y => ?_⟩
      obtain ⟨rfl, rx⟩ := g2 x H2 y
      rw [List.drop_eq_getElem_cons hlt] at h'
      unfold forLoop at h'
      cases e2 : t ds[i] ρ' with
      | none => rw [e2] at h'; exact h'.elim
      | some ρ2 =>
        rw [e2] at h'
        refine ⟨ι', ρ', s', _, ρ2, hr', hm', rx, e2, fun ι3 σ3 H3 l3 m3 r3 => ⟨ι3, ρ2, s', r3, m3, ?_⟩⟩
        simp only at h'
        cases e3 : b ρ2 s' with
        | err x s4 => rw [e3] at h'; exact PostS.mono (show PostS X.K ca ι H W (.err x s4) _ from h') (l0.trans l3)
        | no => rw [e3] at h'; exact h'
        | ok f s4 =>
          rw [e3] at h'
          cases f with
          | nx ρ4 => exact fun ι4 σ4 H4 l4 m4 r4 => ⟨ι4, ρ4, s4, (l'.trans l3).trans l4, r4, m4, h'⟩
          | ct ρ4 => exact fun ι4 σ4 H4 l4 m4 r4 => ⟨ι4, ρ4, s4, (l'.trans l3).trans l4, r4, m4, h'⟩
          | bk ρ4 => exact fun ι4 σ4 H4 l4 m4 r4 => h' ι4 σ4 H4 ((l0.trans l3).trans l4) m4 r4
          | rt d => exact fun ι4 v H4 l4 m4 r4 => h' ι4 v H4 ((l0.trans l3).trans l4) m4 r4
    · refine .inl ⟨i2 i (by omega), ?_⟩
      rw [List.drop_eq_nil_of_le (by omega)] at h'
      exact h' ι' σ' H' l0 hm' hr'

/-! ### list comprehensions -/
def noErr {α : Type} (r : R α) : R α := match r with | .err _ _ => .no | r => r
theorem noErr_ok {α : Type} {r : R α} {a : α} {s : S} (h : noErr r = .ok a s) : r = .ok a s := by
  cases r with
  | ok _ _ => exact h
  | err _ _ => cases h
  | no => cases h
def wipeD (vs : List Nat) (ρ : Env) : Env := vs.foldr (fun v l => l.set v none) ρ
def lcLoop (t : TD) (gt : GT) (ge : GE) (ρ : Env) : List D → S → R (List D)
  | [], s => .ok [] s
  | x :: xs, s => match t x ρ with
    | none => .no
    | some ρ1 => (noErr (gt ρ1 s)).bind fun b s1 => if b then (noErr (ge ρ1 s1)).bind fun y s2 => (lcLoop t gt ge ρ xs s2).bind fun ys s3 => .ok (y :: ys) s3 else lcLoop t gt ge ρ xs s1
def gLc (own : List Nat) (gi : GA) (t : TD) (gt : GT) (ge : GE) : GE := fun ρ s => (gi ρ s).bind fun ds s1 => if fitL ds.length then (lcLoop t gt ge (wipeD own ρ) ds s1).bind fun ys s2 => .ok (.lst ys) s2 else .no
def gYes : GT := fun _ s => .ok true s
def JTs (X : Cx) (ca : Ct) (W : WX) (ifs : List Expr) (g : GT) : Prop := PTs X ifs (tT X.K ca W g)
theorem jts_nil : JTs X ca W [] gYes := ⟨fun pins s σ H Q I ⟨ι, ρ, s', hr, hm, h⟩ => pts_nil.run pins s σ H Q I (h ι H .refl hm)⟩
theorem jts_one {c : Expr} {t : GT} (h : JT X ca W c t) : JTs X ca W [c] t := pts_one h
/-- a comprehension's target, told exactly -/
structure LcT (X : Cx) (own : List Nat) (tg : Expr) (g : TG) (t : TD) : Prop where
  pg : PG X tg g
  to : ∀ {K : PySem.W.Frag} {ι : Wd} {H : Hp} {ρ ρ' : Env} {σ : L2.St} {d : D} {v : V} {Q : L2.St → Hp → Prop}, RelS K ι H (wipeD own ρ) (wipe σ own) → Rep K ι H d v → t d (wipeD own ρ) = some ρ' →
    (∀ σ', RelS K ι H ρ' σ' → wipe σ' own = wipe σ own → Q σ' H) → g v (wipe σ own) H Q
theorem Le.updNone {ι ι' : Wd} {H H' : Hp} {p : Addr} {o : HO} (l : Le ι H ι' H') (h : H p = none) : Le ι H ι' (upd H' p o) :=
  ⟨⟨l.pre, fun a u q t n => ⟨by rw [upd_ne (ne_of_none q h)]; exact (l.keep a u q t n).1, (l.keep a u q t n).2⟩, fun a xs q => by rw [upd_ne (ne_of_none q h)]; exact l.tup a xs q, fun a xs u q => by rw [upd_ne (ne_of_none q h)]; exact l.frz a xs u q⟩,
    fun a u q t n => ⟨by rw [upd_ne (ne_of_none q h)]; exact (l.stay a u q t n).1, (l.stay a u q t n).2⟩, l.sub⟩
theorem Le.shutNone {ι ι' : Wd} {H H' : Hp} {p : Addr} (l : Le ι H ι' H') (h : H p = none) (hp : p ∉ ι.M) : Le ι H ⟨ι'.ι, ι'.M.filter (· ≠ p)⟩ H' :=
  ⟨⟨l.pre, fun a u q t n => ⟨(l.keep a u q t n).1, fun z => (l.keep a u q t n).2 (List.mem_filter.mp z).1⟩, l.tup, l.frz⟩, l.stay, fun a ha => List.mem_filter.mpr ⟨l.sub a ha, by
    simp only [ne_eq, decide_not, Bool.not_eq_true', decide_eq_false_iff_not]
    exact fun z => hp (z ▸ ha)⟩⟩
theorem tG_lc {ca : Ct} {K : PySem.W.Frag} {W : WX} {own : List Nat} {gi : GA} {t : TD} {gt : GT} {ge : GE} {tgt : TG} {σ : L2.St} {H : Hp} {Q : VK}
    (to : ∀ {ι : Wd} {H : Hp} {ρ ρ' : Env} {σ : L2.St} {d : D} {v : V} {Q : L2.St → Hp → Prop}, RelS K ι H (wipeD own ρ) (wipe σ own) → Rep K ι H d v → t d (wipeD own ρ) = some ρ' → (∀ σ', RelS K ι H ρ' σ' → wipe σ' own = wipe σ own → Q σ' H) → tgt v (wipe σ own) H Q)
    (h : tG K ca W (gLc own gi t gt ge) σ H Q) : tLc (tI K ca W gi) tgt (tT K ca W0 gt) (tG K ca W0 ge) own σ H Q := by
  obtain ⟨ι, ρ, s, hr, hm, h⟩ := h
  refine ⟨ι, ρ, s, hr, hm, ?_⟩
  unfold gLc at h
  cases e : gi ρ s with
  | err x s1 => rw [e] at h; exact h
  | no => rw [e] at h; exact h
  | ok ds s1 =>
    rw [e] at h
    intro ι1 J H1 l1 hm1 it Da hDa
    simp only [R.bind_ok] at h
    split at h
    · rename_i hfit
      obtain ⟨lo, mo⟩ := hm1.open (o := .lst []) hDa trivial
      have nι : Da ∉ ι1.ι := fun z => hm1.ne hDa (hm1.sub _ z)
      -- the invariant
      refine ⟨fun i m H' => m = ds.length - i ∧ ∃ ι' s' acc vs, Le ι1 H1 ι' H' ∧ Da ∈ ι'.M ∧ Da ∉ ι'.ι ∧ Sim K ca ι' s' H' ∧ H' Da = some (.lst vs) ∧ Reps K ι' H' acc vs ∧ acc.length ≤ i ∧
        PostE K ca ι H ((lcLoop t gt ge (wipeD own ρ) (ds.drop i) s').bind fun ys s2 => .ok (.lst (acc ++ ys)) s2) Q (fun cv dd H' => W cv dd σ H'), ⟨_, rfl, ⟨ι1.ι, Da :: ι1.M⟩, s1, [], [], lo, List.mem_cons_self, nι, mo, upd_same, .nil, Nat.le_refl _, h⟩, ?_⟩
      rintro i m H' ⟨rfl, ι', s', acc, vs, l', hDM, hDι, hm', hD', hacc, hlen, h'⟩
      obtain ⟨i1, i2⟩ := it ι' H' l'
      have l0 := l1.trans l'
      by_cases hlt : i < ds.length
      · have hd : ds[i]? = some ds[i] := List.getElem?_eq_getElem hlt
        obtain ⟨g1, g2⟩ := i1 i _ hd
        refine .inr ⟨g1, fun H2 => ∃ ι' s' acc vs, Le ι1 H1 ι' H2 ∧ Da ∈ ι'.M ∧ Da ∉ ι'.ι ∧ Sim K ca ι' s' H2 ∧ H2 Da = some (.lst vs) ∧ Reps K ι' H2 acc vs ∧ acc.length ≤ i + 1 ∧
          PostE K ca ι H ((lcLoop t gt ge (wipeD own ρ) (ds.drop (i + 1)) s').bind fun ys s2 => .ok (.lst (acc ++ ys)) s2) Q (fun cv dd H' => W cv dd σ H'), fun H2 w => ⟨_, by omega, rfl, w⟩, fun x H2 y => ?_⟩
        obtain ⟨rfl, rx⟩ := g2 x H2 y
        rw [List.drop_eq_getElem_cons hlt] at h'
        unfold lcLoop at h'
        cases e2 : t ds[i] (wipeD own ρ) with
        | none => rw [e2] at h'; exact h'.elim
        | some ρ2 =>
          rw [e2] at h'
          simp only at h'
          refine to ((hr.mono l0).wipe own) rx e2 fun σ2 hr2 hw2 => ⟨hw2, ι', ρ2, s', hr2, hm', ?_⟩
          cases e3 : gt ρ2 s' with
          | err x s4 => rw [e3] at h'; exact h'.elim
          | no => rw [e3] at h'; exact h'.elim
          | ok k s4 =>
            rw [e3] at h'
            simp only [noErr, R.bind_ok] at h'
            intro ι3 H3 l3 m3
            have d3 := l3.stay _ _ hD' noTab_lst hDι
            cases k with
            | false =>
              rw [if_neg Bool.false_ne_true]
              simp only [Bool.false_eq_true, if_false] at h'
              exact ⟨ι3, s4, acc, vs, l'.trans l3, l3.sub _ hDM, d3.2, m3, d3.1, hacc.mono l3, by omega, h'⟩
            | true =>
              rw [if_pos rfl]
              simp only [if_true] at h'
              refine ⟨ι3, ρ2, s4, hr2.mono l3, m3, ?_⟩
              cases e4 : ge ρ2 s4 with
              | err x s5 => rw [e4] at h'; exact h'.elim
              | no => rw [e4] at h'; exact h'.elim
              | ok y s5 =>
                rw [e4] at h'
                simp only [R.bind_ok] at h'
                intro ι4 v4 H4 l4 m4 r4
                have d4 := l4.stay _ _ d3.1 noTab_lst d3.2
                obtain ⟨kf, mf⟩ := m4.fill (o := .lst (vs ++ [v4])) (l4.sub _ (l3.sub _ hDM)) d4.2 trivial
                have hv : vs.length = acc.length := (hacc.length).symm
                refine ⟨vs, d4.1, ?_, ι4, s5, acc ++ [y], vs ++ [v4], ((l'.trans l3).trans l4).updNone hDa, l4.sub _ (l3.sub _ hDM), d4.2, mf, upd_same, (Reps.monoK kf ((hacc.mono l3).mono l4)).append (.cons (Rep.monoK kf r4) .nil), by simp; omega, ?_⟩
                · have := fitL_le hfit
                  omega
                · cases e5 : lcLoop t gt ge (wipeD own ρ) (ds.drop (i + 1)) s5 with
                  | ok ys s6 => rw [e5] at h'; simpa using h'
                  | err x s6 => rw [e5] at h'; exact h'
                  | no => rw [e5] at h'; exact h'
      · refine .inl ⟨i2 i (by omega), ?_⟩
        rw [List.drop_eq_nil_of_le (by omega)] at h'
        simp only [lcLoop, R.bind_ok, List.append_nil] at h'
        obtain ⟨ls, ms⟩ := hm'.shut (p := Da) hDι
        exact h' _ _ H' (l1.trans (l'.shutNone hDa (hm1.ne hDa))) ms (.lst hD' (fun z => by simpa using (List.mem_filter.mp z).2) (Reps.monoK ls hacc))
    · exact h.elim

theorem je_lc {elt iter : Expr} {ifs : List Expr} {scope : Scope} {i : Nat} {x : Str} {tpos : Pos} {gi : GA} {gt : GT} {ge : GE} (hc : X.calm = true) (hN : X.N.Nodup) (hi : JI X ca W (.Name x tpos) iter gi) (ok : BlkOk X.N X.env.scope scope [(x, i)])
    (hg : ∀ (s : Shared) (H : Hp) (C : Addr) (cl : List (Str × Addr)) (fp : List Addr), PG (X.blk s H scope (compEnvC scope cl C X.env) fp) (.Name x tpos) (gName i))
    (ht : ∀ (s : Shared) (H : Hp) (C : Addr) (cl : List (Str × Addr)) (fp : List Addr), JTs (X.blk s H scope (compEnvC scope cl C X.env) fp) ca W0 ifs gt)
    (he : ∀ (s : Shared) (H : Hp) (C : Addr) (cl : List (Str × Addr)) (fp : List Addr), JE (X.blk s H scope (compEnvC scope cl C X.env) fp) ca W0 elt ge) (hs : ∀ x, foldedSetIterable iter X.env x = pure x := by intro _; rfl) :
    JE X ca W (.ListComp elt [⟨.Name x tpos, iter, ifs, 0⟩] scope pos) (gLc [i] gi (dName i) gt ge) :=
  PE.imp (pe_lc (own := [(x, i)]) (g := gName i) (wi := tI X.K ca W gi) (tt := tT X.K ca W0 gt) (te := tG X.K ca W0 ge) hc hN hi ok hg ht he hs) fun σ H Q h => tG_lc (own := [i]) (fun {ι H ρ ρ' σ d v Q} r rd e k => by
    cases e
    refine k _ (r.set rd i) ?_
    show ((wipe σ [i]).set i (some v)).set i none = (σ.set i none)
    show ((σ.set i none).set i (some v)).set i none = (σ.set i none)
    rw [List.set_set, List.set_set]) h

/-! ### defs -/
def spJ (K : PySem.W.Frag) (ca : Ct) (n : Nat) (F : List D → S → R D) : Sp := fun vs H Q E => ∃ ι ds s, Reps K ι H ds vs ∧ Sim K ca ι s H ∧ ds.length = n ∧ PostE K ca ι H (F ds s) Q E
def runF (n : Nat) (b : GS) : List D → S → R D := fun ds s => (b (ds.map some ++ List.replicate (n - ds.length) none) s).bind fun f s1 => match f with
  | .rt d => .ok d s1
  | .nx _ => .ok .non s1
  | _ => .no
theorem relS_start {K : PySem.W.Frag} {ι : Wd} {H : Hp} {ds : List D} {vs : List V} (N : List Str) (r : Reps K ι H ds vs) : RelS K ι H (ds.map some ++ List.replicate (N.length - ds.length) none) (L2.start N vs) := by
  have hl := r.length
  refine ⟨by simp [L2.start, hl], fun i d h => ?_⟩
  by_cases hi : i < ds.length
  · rw [List.getElem?_append_left (by simpa using hi), List.getElem?_map] at h
    cases e : ds[i]? with
    | none => rw [e] at h; cases h
    | some x =>
      rw [e] at h
      cases h
      obtain ⟨v, h1, h2⟩ := r.get e
      refine ⟨v, ?_, h2⟩
      unfold L2.start
      rw [List.getElem?_append_left (by rw [List.length_map, ← hl]; exact hi), List.getElem?_map, h1]
      rfl
  · rw [List.getElem?_append_right (by simpa using hi), List.getElem?_replicate] at h
    split at h <;> cases h
theorem fnJ {P : Program} {w : World} {K : PySem.W.Frag} {mg : Str → Option Value} {base : Heap} {x qual : Str} {f : Addr} {fd : FuncData} {N ps : List Str} {k : Nat} (F : Fun K x qual st f fd) (Sc : FnScope N ps (defScope st))
    (hb : ∀ (cdv : Value) (A : Around) (outer : List PySem.Env) (s : Shared) (H : Hp) (E : XK), Room k (A.deeper (envOfC qual (defScope st) s.heap.objs.size f cdv)) →
      JSs (cxOf (L2.CX P w) P w K mg base N qual (defScope st) f cdv A outer s H E) ca (fun cls d _ H => E cls d H) (defBody st) b) : FnOk P w K mg base (L2.CX P w) (k + 1) f fd ps (spJ K ca ps.length (runF N.length b)) := by
  refine F.okX Sc (fun vs H Q E ⟨ι, ds, s, hr, hm, hl, h⟩ => by rw [← hr.length, hl]) (fun cdv A outer s H vs Q E hr h => ⟨_, hb cdv A outer s H E hr, ?_⟩)
  obtain ⟨ι, ds, s', hrs, hm, hl, h⟩ := h
  refine ⟨ι, _, s', relS_start N hrs, hm, ?_⟩
  unfold runF at h
  cases e : b (ds.map some ++ List.replicate (N.length - ds.length) none) s' with
  | err y s1 => rw [e] at h; exact fun ι' cv dd H' σ' l m q => h ι' cv dd H' l m q
  | no => rw [e] at h; exact h
  | ok fl s1 =>
    rw [e] at h
    cases fl with
    | rt d => exact h
    | nx ρ => exact fun ι' σ' H' l m r => h ι' .non H' l m .non
    | bk ρ => exact h.elim
    | ct ρ => exact h.elim
/-- a def of the module, by its mirror -/
structure JFn (P : Program) (w : World) (K : PySem.W.Frag) (mg : Str → Option Value) (base : Heap) (ca : Ct) (k : Nat) (x : Str) (n : Nat) (F : List D → S → R D) : Prop where
  ex : ∃ f fd ps, mg x = some (.ref f) ∧ PySem.W.keepIn K (.ref f) = true ∧ Binds K fd ps [] ∧ ps.length = n ∧ FnOk P w K mg base (L2.CX P w) k f fd ps (spJ K ca n F)
theorem JFn.mono {P : Program} {w : World} {K : PySem.W.Frag} {mg : Str → Option Value} {base : Heap} {k j n : Nat} {x : Str} {F : List D → S → R D} (h : JFn P w K mg base ca k x n F) (l : k ≤ j) : JFn P w K mg base ca j x n F := by
  obtain ⟨f, fd, ps, a, b, c, d, e⟩ := h.ex
  exact ⟨f, fd, ps, a, b, c, d, e.mono l⟩
/-- another mirror that says no more -/
theorem JFn.imp {P : Program} {w : World} {K : PySem.W.Frag} {mg : Str → Option Value} {base : Heap} {k n : Nat} {x : Str} {F G : List D → S → R D} (h : JFn P w K mg base ca k x n F) (i : ∀ ds s, ds.length = n → G ds s = .no ∨ G ds s = F ds s) : JFn P w K mg base ca k x n G := by
  obtain ⟨f, fd, ps, a, b, c, d, e⟩ := h.ex
  refine ⟨f, fd, ps, a, b, c, d, e.imp fun vs H Q E ⟨ι, ds, s, hr, hm, hl, p⟩ => ⟨ι, ds, s, hr, hm, hl, ?_⟩⟩
  rcases i ds s hl with z | z
  · rw [z] at p; exact p.elim
  · rw [← z]; exact p
def gCall (n : Nat) (F : List D → S → R D) (gr : GA) : GE := fun ρ s => (gr ρ s).bind fun ds s1 => if ds.length = n then F ds s1 else .no
theorem je_call {x : Str} {p : Pos} {k n : Nat} {F : List D → S → R D} {gr : GA} (h : JFn X.prog X.w X.K X.mg X.base ca k x n F) (hr : Room k X.A) (tk : Takes X W) (ha : JA X ca W (e :: es) gr) (hg : Gl X x := by rfl) (hdb : (x == ("__debug__" : Str)) = false := by decide)
    (he : starEach (e :: es) X.env = (false, eval e X.env) :: starEach es X.env := by rfl) (hpl : (backTo pos (starEach es X.env)).any (·.1) = false := by rfl) : JE X ca W (.Call (.Name x p) (e :: es) [] pos) (gCall n F gr) := by
  obtain ⟨f, fd, ps, hm, hk, hb, hn, F⟩ := h.ex
  refine PE.imp (pe_callS F hr hg hm hk hb (fun σ => passAt tk σ) ha hdb he hpl) fun σ H Q ⟨ι, ρ, s, hrs, hms, h⟩ => bindA famE hrs hms h fun ι1 s1 ds vs H1 l1 hr1 hm1 rs h1 => ?_
  split at h1
  · rename_i hl
    exact ⟨ι1, ds, s1, rs, hm1, hl, h1⟩
  · exact h1.elim
/-- f() -/
theorem pe_callS0 {CX : CXT} {k : Nat} {f : Addr} {fd : FuncData} {ps : List Str} {sp : Sp} {E : L2.St → XK} {x : Str} {p : Pos} (F : FnOk X.prog X.w X.K X.mg X.base CX k f fd ps sp) (hr : Room k X.A) (hg : Gl X x) (hm : X.mg x = some (.ref f)) (hk : PySem.W.keepIn X.K (.ref f) = true) (hb : Binds X.K fd ps []) (hx : ∀ σ, PassesAt CX X σ (E σ))
    (hdb : (x == ("__debug__" : Str)) = false := by decide) : PE X (.Call (.Name x p) [] [] pos) (tCallS sp E tNil) := by
  refine ⟨fun pins s σ H Q I h => ?_⟩
  refine wpAny_Call_Name_kw (ld_glob I hg hm ?_ hdb)
  exact PySem.W.callWith_K0 I.kIn hk (run_fnS (us := []) F hr hb (hx σ) I .nil h)
theorem je_call0 {x : Str} {p : Pos} {k : Nat} {F : List D → S → R D} (h : JFn X.prog X.w X.K X.mg X.base ca k x 0 F) (hr : Room k X.A) (tk : Takes X W) (hg : Gl X x := by rfl) (hdb : (x == ("__debug__" : Str)) = false := by decide) : JE X ca W (.Call (.Name x p) [] [] pos) (gCall 0 F gaNil) := by
  obtain ⟨f, fd, ps, hm, hk, hb, hn, F⟩ := h.ex
  refine PE.imp (pe_callS0 F hr hg hm hk hb (fun σ => passAt tk σ) hdb) fun σ H Q ⟨ι, ρ, s, hrs, hms, h⟩ => ⟨ι, [], s, .nil, hms, rfl, h⟩
end
end J


set_option Elab.async false
set_option linter.all false
set_option maxRecDepth 100000
set_option maxHeartbeats 4000000
/-! J4: built-ins by values; slices; stores into lists. -/
namespace J
open PySem PySem.Spec L2

theorem bt_len : bootBuiltins "len" = some (.builtin "len") := by decide +kernel
theorem bt_isinstance : bootBuiltins "isinstance" = some (.builtin "isinstance") := by decide +kernel
theorem bt_all : bootBuiltins "all" = some (.builtin "all") := by decide +kernel
theorem bt_any : bootBuiltins "any" = some (.builtin "any") := by decide +kernel
theorem bt_sum : bootBuiltins "sum" = some (.builtin "sum") := by decide +kernel
theorem bt_min : bootBuiltins "min" = some (.builtin "min") := by decide +kernel
theorem bt_sorted : bootBuiltins "sorted" = some (.builtin "sorted") := by decide +kernel
theorem bt_int : bootBuiltins "int" = some (.type "int") := by decide +kernel
theorem bt_str : bootBuiltins "str" = some (.type "str") := by decide +kernel
theorem bt_bool : bootBuiltins "bool" = some (.type "bool") := by decide +kernel
theorem bt_tuple : bootBuiltins "tuple" = some (.type "tuple") := by decide +kernel
theorem bt_list : bootBuiltins "list" = some (.type "list") := by decide +kernel
theorem bt_dict : bootBuiltins "dict" = some (.type "dict") := by decide +kernel
theorem bt_set : bootBuiltins "set" = some (.type "set") := by decide +kernel

section
variable {K : PySem.W.Frag} {ca : Ct} {ι ι' : Wd} {H H' : Hp} {s : S}
/-! ### isinstance -/
def tyD (s : S) : D → Option String
  | .non => some "NoneType"
  | .bl _ => some "bool"
  | .int _ => some "int"
  | .str _ => some "str"
  | .tup _ => some "tuple"
  | .lst _ => some "list"
  | .frz _ => some "list"
  | .obj n => match s[n]? with | some (.lst _) => some "list" | some (.dic _) => some "dict" | _ => none
  | .ty _ => none
  | .raw _ => none
def tyKnown : List String := ["NoneType", "bool", "int", "str", "tuple", "list", "dict"]
def isT (t c : String) : Bool := t == c || (t == "bool" && c == "int")
theorem isT_ok : ∀ t ∈ tyKnown, ∀ c ∈ tyKnown, kitB t c = some (isT t c) := by decide +kernel
theorem tyD_known {d : D} {t : String} (h : tyD s d = some t) : t ∈ tyKnown := by
  unfold tyD at h
  split at h
  all_goals first
    | (cases h; decide)
    | (cases h; done)
    | (split at h <;> first | (cases h; decide) | (cases h; done))
theorem Sim.tyx (m : Sim K ca ι s H) {d : D} {v : V} {t : String} (r : Rep K ι H d v) (h : tyD s d = some t) : TyX K H v (.type t) := by
  cases r with
  | non => cases h; exact .base .non
  | bl b => cases h; exact .base (.bl b)
  | int b => cases h; exact .base (.int b)
  | str b => cases h; exact .base (.str b)
  | ty n => cases h
  | raw n => cases h
  | tup h1 h2 =>
    cases h
    rcases h1 with h1 | ⟨o, its, n, h1, h3, _⟩
    · exact .base (.tup h1)
    · exact .kTuple h1 h3
  | lst h1 _ _ => cases h; exact .base (.lst h1)
  | frz h1 _ =>
    cases h
    rcases h1 with ⟨o, h1⟩ | ⟨o, its, n, h1, h3, _⟩
    · exact .base (.frz h1)
    · exact .kList h1 h3
  | frz2 h1 _ _ => cases h; exact .base (.lst h1)
  | @obj a n h1 =>
    simp only [tyD] at h
    split at h
    · rename_i e; cases h
      obtain ⟨vs, h2, _⟩ := m.ob n a _ h1 e
      exact .base (.lst h2)
    · rename_i e; cases h
      obtain ⟨vs, h2, _⟩ := m.ob n a _ h1 e
      exact .base (.dK h2)
    · cases h
def tysD : List D → Option (List String)
  | [] => some []
  | .ty n :: ds => (tysD ds).map (n :: ·)
  | _ :: _ => none
def known (c : String) : Bool := tyKnown.any (· == c)
theorem known_mem {c : String} (h : known c = true) : c ∈ tyKnown := by
  obtain ⟨x, hx, e⟩ := List.any_eq_true.mp h
  rw [← eq_of_beq e]; exact hx
def fIsi (s : S) : List D → Option D
  | [x, .ty c] => (tyD s x).bind fun t => if known c then some (.bl (isT t c)) else none
  | [x, .tup cs] => (tyD s x).bind fun t => (tysD cs).bind fun ns => if ns.all known then some (.bl (ns.any (isT t))) else none
  | _ => none
theorem kitAny_all {t : String} (ht : t ∈ tyKnown) : ∀ {ns : List String}, ns.all known = true → PySem.W.kitAny K (.type t) (ns.map Value.type) = some (ns.any (isT t))
  | [], _ => rfl
  | n :: ns, h => by
    simp only [List.all_cons, Bool.and_eq_true] at h
    refine kitAny_cons (kit_ty (isT_ok t ht n (known_mem h.1))) (fun e => ?_) fun e => ?_
    · rw [List.any_cons, e, Bool.false_or]; exact kitAny_all ht h.2
    · rw [List.any_cons, e, Bool.true_or]
theorem reps_tys : ∀ {ds : List D} {vs : List V} {ns : List String}, Reps K ι H ds vs → tysD ds = some ns → vs = ns.map V.ty
  | _, _, _, .nil, h => by cases h; rfl
  | .ty n :: ds, _, _, .cons r t, h => by
    cases r
    simp only [tysD, Option.map_eq_some_iff] at h
    obtain ⟨ms, e, rfl⟩ := h
    rw [reps_tys t e]; rfl
  | .non :: _, _, _, .cons _ _, h => by cases h
  | .bl _ :: _, _, _, .cons _ _, h => by cases h
  | .int _ :: _, _, _, .cons _ _, h => by cases h
  | .str _ :: _, _, _, .cons _ _, h => by cases h
  | .tup _ :: _, _, _, .cons _ _, h => by cases h
  | .lst _ :: _, _, _, .cons _ _, h => by cases h
  | .frz _ :: _, _, _, .cons _ _, h => by cases h
  | .obj _ :: _, _, _, .cons _ _, h => by cases h
  | .raw _ :: _, _, _, .cons _ _, h => by cases h
theorem clsV_tys : ∀ ns : List String, Paired ClsV (ns.map V.ty) (ns.map Value.type)
  | [] => .nil
  | n :: ns => .cons (.ty n) (clsV_tys ns)
theorem vals_tys : ∀ {ns : List String} {us : List Value}, Vals (ns.map V.ty) us → us = ns.map Value.type
  | [], _, h => by cases h; rfl
  | n :: ns, _, h => by
    cases h with
    | cons r t => cases (show _ = _ from r); rw [vals_tys t]; rfl
end
section
variable {X : Cx} {ca : Ct} {W : WX} {e : Expr} {es : List Expr} {pos : Pos}
theorem cj_isinstance : CallR X (.builtin "isinstance") (rCJ X.K ca fIsi) := by
  refine CallR.imp ((call_isi.or call_isiT).or call_isiK) fun vs H Q ⟨ι, s, ds, x, m, rs, hf, q⟩ => ?_
  unfold fIsi at hf
  split at hf
  · rename_i d c
    cases rs with
    | cons r1 rs =>
      cases rs with
      | cons r2 rs =>
        cases rs
        cases r2
        simp only [Option.bind_eq_some_iff] at hf
        obtain ⟨t, ht, hf⟩ := hf
        split at hf
        · rename_i hk
          cases hf
          exact .inl (.inl ⟨_, _, _, _, _, rfl, .ty c, m.tyx r1 ht, kit_ty (isT_ok t (tyD_known ht) c (known_mem hk)), q _ _ _ .refl m (.bl _)⟩)
        · cases hf
  · rename_i d cs
    cases rs with
    | cons r1 rs =>
      cases rs with
      | cons r2 rs =>
        cases rs
        simp only [Option.bind_eq_some_iff] at hf
        obtain ⟨t, ht, ns, hn, hf⟩ := hf
        split at hf
        · rename_i hk
          cases hf
          cases r2 with
          | tup h1 h2 =>
            have ev := reps_tys h2 hn
            subst ev
            rcases h1 with h1 | ⟨o, its, n, h1, h3, h4, h5, h6⟩
            · exact .inl (.inr ⟨_, _, _, _, _, _, rfl, h1, clsV_tys ns, m.tyx r1 ht, kitAny_all (tyD_known ht) hk, q _ _ _ .refl m (.bl _)⟩)
            · obtain ⟨oc, od, dt, sl⟩ := o
              simp only at h3 h4
              subst h3 h4
              have eu := vals_tys h6
              exact .inr ⟨_, _, od, ns.map Value.type, n, sl, _, _, rfl, by rw [h1, ← eu], m.tyx r1 ht, kitAny_all (tyD_known ht) hk, q _ _ _ .refl m (.bl _)⟩
        · cases hf
  · cases hf

/-! ### len, int, str, all, any, sum, tuple, list, min -/
def f1 (f : S → D → Option D) (s : S) : List D → Option D
  | [x] => f s x
  | _ => none
theorem cj1 {fn : Value} {r : List V → Hp → VK → Prop} {f : S → D → Option D} (h : CallR X fn r)
    (i : ∀ (ι : Wd) (s : S) (H : Hp) (d : D) (v : V) (x : D) (Q : VK), Sim X.K ca ι s H → Rep X.K ι H d v → f s d = some x → (∀ ι' v' H', Le ι H ι' H' → Sim X.K ca ι' s H' → Rep X.K ι' H' x v' → Q v' H') → r [v] H Q) : CallR X fn (rCJ X.K ca (f1 f)) :=
  CallR.imp h fun vs H Q ⟨ι, s, ds, x, m, rs, hf, q⟩ => by
    cases rs with
    | nil => cases hf
    | cons r1 rs =>
      cases rs with
      | nil => exact i ι s H _ _ x Q m r1 hf q
      | cons _ _ => cases hf
theorem cj_len : CallR X (.builtin "len") (rCJ X.K ca (f1 fLen)) := by
  refine cj1 (call_len_seq.or call_len_str) fun ι s H d v x Q m r hf q => ?_
  have lists : ∀ {ds : List D}, itemsL s d = some ds → x = .int ds.length → ∃ p ys, [v] = [V.ref p] ∧ (SqL X.K H p ys ∨ SqT X.K H p ys) ∧ Q (.int ys.length) H := fun {ds} hi e => by
    subst e
    obtain ⟨a, vs, rfl, h1, h2⟩ := m.items r hi
    exact ⟨_, _, rfl, .inl h1, by rw [← h2.length]; exact q _ _ _ .refl m (.int _)⟩
  cases r with
  | str z =>
    simp only [fLen] at hf
    split at hf
    · rename_i hl
      cases hf
      exact .inr ⟨_, rfl, fitL_le hl, q _ _ _ .refl m (.int _)⟩
    · cases hf
  | tup h1 h2 => cases hf; exact .inl ⟨_, _, rfl, .inr h1.sq, by rw [← h2.length]; exact q _ _ _ .refl m (.int _)⟩
  | non => simp [fLen, itemsL] at hf
  | bl _ => simp [fLen, itemsL] at hf
  | int _ => simp [fLen, itemsL] at hf
  | ty _ => simp [fLen, itemsL] at hf
  | raw _ => simp [fLen, itemsL] at hf
  | @lst a vs ds _ _ _ => exact .inl (lists (ds := ds) rfl (by simpa [fLen, itemsL] using hf.symm))
  | @frz a vs ds _ _ => exact .inl (lists (ds := ds) rfl (by simpa [fLen, itemsL] using hf.symm))
  | @frz2 a vs ds _ _ _ => exact .inl (lists (ds := ds) rfl (by simpa [fLen, itemsL] using hf.symm))
  | @obj a n _ =>
    cases e : itemsL s (.obj n) with
    | none => simp [fLen, e] at hf
    | some ds => exact .inl (lists e (by simpa [fLen, e] using hf.symm))
def fInt (_ : S) : D → Option D
  | .int i => some (.int i)
  | .bl b => some (.int (if b then 1 else 0))
  | _ => none
theorem cj_int : CallR X (.type "int") (rCJ X.K ca (f1 fInt)) := by
  refine cj1 call_int1 fun ι s H d v x Q m r hf q => ?_
  cases r <;> simp only [fInt] at hf <;> first | cases hf | skip
  · exact .inr ⟨_, rfl, q _ _ _ .refl m (.int _)⟩
  · exact .inl ⟨_, rfl, q _ _ _ .refl m (.int _)⟩
def blsD : List D → Option (List Bool)
  | [] => some []
  | .bl b :: ds => (blsD ds).map (b :: ·)
  | _ :: _ => none
theorem blsD_eq : ∀ {ds : List D} {bs : List Bool}, blsD ds = some bs → ds = bs.map D.bl
  | [], _, h => by cases h; rfl
  | .bl b :: ds, _, h => by
    simp only [blsD, Option.map_eq_some_iff] at h
    obtain ⟨ms, e, rfl⟩ := h
    rw [blsD_eq e]; rfl
  | .non :: _, _, h => by cases h
  | .ty _ :: _, _, h => by cases h
  | .int _ :: _, _, h => by cases h
  | .str _ :: _, _, h => by cases h
  | .tup _ :: _, _, h => by cases h
  | .lst _ :: _, _, h => by cases h
  | .frz _ :: _, _, h => by cases h
  | .obj _ :: _, _, h => by cases h
  | .raw _ :: _, _, h => by cases h
def intsD : List D → Option (List Int)
  | [] => some []
  | .int b :: ds => (intsD ds).map (b :: ·)
  | _ :: _ => none
theorem intsD_eq : ∀ {ds : List D} {bs : List Int}, intsD ds = some bs → ds = bs.map D.int
  | [], _, h => by cases h; rfl
  | .int b :: ds, _, h => by
    simp only [intsD, Option.map_eq_some_iff] at h
    obtain ⟨ms, e, rfl⟩ := h
    rw [intsD_eq e]; rfl
  | .non :: _, _, h => by cases h
  | .ty _ :: _, _, h => by cases h
  | .bl _ :: _, _, h => by cases h
  | .str _ :: _, _, h => by cases h
  | .tup _ :: _, _, h => by cases h
  | .lst _ :: _, _, h => by cases h
  | .frz _ :: _, _, h => by cases h
  | .obj _ :: _, _, h => by cases h
  | .raw _ :: _, _, h => by cases h
def fAll (s : S) (x : D) : Option D := (itemsL s x).bind fun ds => (blsD ds).map fun bs => .bl (bs.all id)
def fAny (s : S) (x : D) : Option D := (itemsL s x).bind fun ds => (blsD ds).map fun bs => .bl (bs.any id)
def fSum (s : S) (x : D) : Option D := (itemsL s x).bind fun ds => (intsD ds).map fun ns => .int ns.sum
theorem cj_all (hc : X.calm = true) : CallR X (.builtin "all") (rCJ X.K ca (f1 fAll)) := by
  refine cj1 (cr_all hc) fun ι s H d v x Q m r hf q => ?_
  simp only [fAll, Option.bind_eq_some_iff, Option.map_eq_some_iff] at hf
  obtain ⟨ds, hi, bs, hb, rfl⟩ := hf
  obtain ⟨a, vs, rfl, h1, h2⟩ := m.items r hi
  rw [blsD_eq hb] at h2
  rw [Reps.bls h2] at h1
  exact ⟨_, _, rfl, h1, q _ _ _ .refl m (.bl _)⟩
theorem cj_any (hc : X.calm = true) : CallR X (.builtin "any") (rCJ X.K ca (f1 fAny)) := by
  refine cj1 (cr_any hc) fun ι s H d v x Q m r hf q => ?_
  simp only [fAny, Option.bind_eq_some_iff, Option.map_eq_some_iff] at hf
  obtain ⟨ds, hi, bs, hb, rfl⟩ := hf
  obtain ⟨a, vs, rfl, h1, h2⟩ := m.items r hi
  rw [blsD_eq hb] at h2
  rw [Reps.bls h2] at h1
  exact ⟨_, _, rfl, h1, q _ _ _ .refl m (.bl _)⟩
theorem cj_sum (hc : X.calm = true) : CallR X (.builtin "sum") (rCJ X.K ca (f1 fSum)) := by
  refine cj1 (cr_sum hc) fun ι s H d v x Q m r hf q => ?_
  simp only [fSum, Option.bind_eq_some_iff, Option.map_eq_some_iff] at hf
  obtain ⟨ds, hi, bs, hb, rfl⟩ := hf
  obtain ⟨a, vs, rfl, h1, h2⟩ := m.items r hi
  rw [intsD_eq hb] at h2
  rw [Reps.ints h2] at h1
  exact ⟨_, _, rfl, h1, q _ _ _ .refl m (.int _)⟩
def fTuple (s : S) (x : D) : Option D := match x with
  | .tup ds => some (.tup ds)
  | x => (itemsL s x).map .tup
theorem cj_tuple : CallR X (.type "tuple") (rCJ X.K ca (f1 fTuple)) := by
  refine cj1 call_tuple_of fun ι s H d v x Q m r hf q => ?_
  have lists : ∀ {ds : List D}, itemsL s d = some ds → x = .tup ds → ∃ p ys, [v] = [V.ref p] ∧ ((SqL X.K H p ys ∧ ∀ l, H l = none → Q (.ref l) (upd H l (.tup ys))) ∨ (SqT X.K H p ys ∧ Q (.ref p) H)) := fun {ds} hi e => by
    subst e
    obtain ⟨a, vs, rfl, h1, h2⟩ := m.items r hi
    refine ⟨_, _, rfl, .inl ⟨h1, fun p hp => ?_⟩⟩
    obtain ⟨l, m'⟩ := m.new (o := .tup vs) hp
    exact q _ _ _ l m' (.tup (.inl upd_same) (h2.mono l))
  cases r with
  | tup h1 h2 => cases hf; exact ⟨_, _, rfl, .inr ⟨h1.sq, q _ _ _ .refl m (.tup h1 h2)⟩⟩
  | @lst a vs ds _ _ _ => exact lists (ds := ds) rfl (by simpa [fTuple, itemsL] using hf.symm)
  | @frz a vs ds _ _ => exact lists (ds := ds) rfl (by simpa [fTuple, itemsL] using hf.symm)
  | @frz2 a vs ds _ _ _ => exact lists (ds := ds) rfl (by simpa [fTuple, itemsL] using hf.symm)
  | @obj a n _ =>
    cases e : itemsL s (.obj n) with
    | none => simp [fTuple, e] at hf
    | some ds => exact lists e (by simpa [fTuple, e] using hf.symm)
  | _ => simp [fTuple, itemsL] at hf
def fList (s : S) (x : D) : Option D := match x with
  | .tup ds => some (.lst ds)
  | x => (itemsL s x).map .lst
theorem cj_list : CallR X (.type "list") (rCJ X.K ca (f1 fList)) := by
  refine cj1 call_list_of fun ι s H d v x Q m r hf q => ?_
  have fin : ∀ {ds : List D} {vs : List V}, Reps X.K ι H ds vs → x = .lst ds → ∀ l, H l = none → Q (.ref l) (upd H l (.lst vs)) := fun {ds vs} h2 e p hp => by
    subst e
    obtain ⟨l, m'⟩ := m.new (o := .lst vs) hp
    exact q _ _ _ l m' (.lst upd_same (m.ne hp) (h2.mono l))
  have lists : ∀ {ds : List D}, itemsL s d = some ds → x = .lst ds → ∃ p ys, [v] = [V.ref p] ∧ (SqL X.K H p ys ∨ SqT X.K H p ys) ∧ ∀ l, H l = none → Q (.ref l) (upd H l (.lst ys)) := fun {ds} hi e => by
    obtain ⟨a, vs, rfl, h1, h2⟩ := m.items r hi
    exact ⟨_, _, rfl, .inl h1, fin h2 e⟩
  cases r with
  | tup h1 h2 => cases hf; exact ⟨_, _, rfl, .inr h1.sq, fin h2 rfl⟩
  | @lst a vs ds _ _ _ => exact lists (ds := ds) rfl (by simpa [fList, itemsL] using hf.symm)
  | @frz a vs ds _ _ => exact lists (ds := ds) rfl (by simpa [fList, itemsL] using hf.symm)
  | @frz2 a vs ds _ _ _ => exact lists (ds := ds) rfl (by simpa [fList, itemsL] using hf.symm)
  | @obj a n _ =>
    cases e : itemsL s (.obj n) with
    | none => simp [fList, e] at hf
    | some ds => exact lists e (by simpa [fList, e] using hf.symm)
  | _ => simp [fList, itemsL] at hf
def fMin (_ : S) : List D → Option D
  | [.int i, .int j] => some (.int (if j < i then j else i))
  | _ => none
theorem cj_min (hc : X.calm = true) : CallR X (.builtin "min") (rCJ X.K ca fMin) := by
  refine CallR.imp (call_min2 hc) fun vs H Q ⟨ι, s, ds, x, m, rs, hf, q⟩ => ?_
  unfold fMin at hf
  split at hf
  · cases hf
    cases rs with
    | cons r1 rs =>
      cases rs with
      | cons r2 rs =>
        cases rs
        cases r1
        cases r2
        exact ⟨_, _, rfl, q _ _ _ .refl m (.int _)⟩
  · cases hf

/-! ### slices -/
def cutD (xs : List D) (lo hi : Option Int) : List D := (xs.drop (HT.sIx xs.length 0 lo)).take (HT.sIx xs.length xs.length hi - HT.sIx xs.length 0 lo)
def fSl (s : S) (x : D) (lo hi : Option Int) : Option D := match x with
  | .tup ds => some (.tup (cutD ds lo hi))
  | x => (itemsL s x).map fun ds => .lst (cutD ds lo hi)
abbrev GO := Env → S → R (Option Int)
def goNone : GO := fun _ s => .ok none s
def goSome (g : GE) : GO := fun ρ s => (g ρ s).bind fun d s1 => match d with | .int i => .ok (some i) s1 | _ => .no
def gSl (g : GE) (lo hi : GO) : GE := fun ρ s => (g ρ s).bind fun x s1 => (lo ρ s1).bind fun l s2 => (hi ρ s2).bind fun h s3 => R.ofO (fSl s3 x l h) s3
def PostO (K : PySem.W.Frag) (ca : Ct) (ι : Wd) (H : Hp) (r : R (Option Int)) (Q : Option Int → Hp → Prop) (E : XK) : Prop := match r with
  | .ok b s' => ∀ ι' H', Le ι H ι' H' → Sim K ca ι' s' H' → Q b H'
  | .err e s' => ∀ ι' cv dd H', Le ι H ι' H' → Sim K ca ι' s' H' → RepX K ca ι' H' e cv dd → E cv dd H'
  | .no => False
def tO (K : PySem.W.Frag) (ca : Ct) (W : WX) (g : GO) : TO := fun σ H Q => ∃ ι ρ s, RelS K ι H ρ σ ∧ Sim K ca ι s H ∧ PostO K ca ι H (g ρ s) Q (fun cv dd H' => W cv dd σ H')
def JO (X : Cx) (ca : Ct) (W : WX) (e : Option Expr) (g : GO) : Prop := PO X e (tO X.K ca W g)
theorem famO {K : PySem.W.Frag} {E : XK} {Q : Option Int → Hp → Prop} : Fam K ca E (fun ι H r => PostO K ca ι H r Q E) := ⟨fun {ι H ι' H' r} h l => by
  cases r with
  | ok d s => exact fun ι2 H2 l2 m => h ι2 H2 (l.trans l2) m
  | err e s => exact fun ι2 cv dd H2 l2 m q => h ι2 cv dd H2 (l.trans l2) m q
  | no => exact h, fun h => h, fun h => h⟩
theorem PO.imp {e : Option Expr} {t t' : TO} (h : PO X e t) (i : ∀ σ H Q, t' σ H Q → t σ H Q) : PO X e t' := ⟨fun pins s σ H Q I q => h.run pins s σ H Q I (i _ _ _ q)⟩
theorem jo_none : JO X ca W none goNone := PO.imp po_none fun σ H Q ⟨ι, ρ, s, hr, hm, h⟩ => h ι H .refl hm
theorem jo_some {g : GE} (h : JE X ca W e g) : JO X ca W (some e) (goSome g) := PO.imp (po_some h) fun σ H Q ⟨ι, ρ, s, hr, hm, h⟩ => bindE famO hr hm h fun ι1 s1 d v H1 l1 hr1 hm1 rd h1 => by
  cases rd with
  | int i => exact ⟨i, rfl, h1 ι1 H1 .refl hm1⟩
  | _ => exact h1.elim
theorem bindO {β : Type} {Φ : Wd → Hp → R β → Prop} {K : PySem.W.Frag} {ι : Wd} {H : Hp} {ρ : Env} {σ : L2.St} {s : S} {g : GO} {k : Option Int → S → R β} {Rr : Option Int → Hp → Prop} (F : Fam K ca (fun cv dd H' => W cv dd σ H') Φ) (hr : RelS K ι H ρ σ) (hm : Sim K ca ι s H) (h : Φ ι H ((g ρ s).bind k))
    (step : ∀ ι' s' b H', Le ι H ι' H' → RelS K ι' H' ρ σ → Sim K ca ι' s' H' → Φ ι' H' (k b s') → Rr b H') : tO K ca W g σ H Rr := by
  refine ⟨ι, ρ, s, hr, hm, ?_⟩
  cases e : g ρ s with
  | ok d s' =>
    rw [e] at h
    exact fun ι' H' l m => step ι' s' d H' l (hr.mono l) m (F.mono h l)
  | err x s' =>
    rw [e] at h
    exact F.err h
  | no =>
    rw [e] at h
    exact F.no h
theorem Reps.cut {K : PySem.W.Frag} {ι : Wd} {H : Hp} {ds : List D} {vs : List V} (r : Reps K ι H ds vs) (lo hi : Option Int) : Reps K ι H (cutD ds lo hi) (cutV vs lo hi) := by
  unfold cutD cutV
  rw [r.length]
  exact (r.drop _).take _
theorem SlR.imp {r r' : V → Option Int → Option Int → Hp → VK → Prop} (h : SlR X r) (i : ∀ v lo hi H Q, r' v lo hi H Q → r v lo hi H Q) : SlR X r' := fun pins s σ H x v vl vu lo hi sl Q I rx hs pl pu q => h pins s σ H x v vl vu lo hi sl Q I rx hs pl pu (i _ _ _ _ _ q)
theorem je_slice {lo hi : Option Expr} {p2 : Pos} {g : GE} {gl gh : GO} (he : JE X ca W e g) (hl : JO X ca W lo gl) (hh : JO X ca W hi gh) : JE X ca W (.Subscript e (.Slice lo hi none p2) pos) (gSl g gl gh) := by
  refine PE.imp (pe_slice (sl_tupA.or sl_list) he hl hh) fun σ H Q ⟨ι, ρ, s, hr, hm, h⟩ => bindE famE hr hm h fun ι1 s1 d v H1 l1 hr1 hm1 rd h1 => bindO famE hr1 hm1 h1 fun ι2 s2 lo H2 l2 hr2 hm2 h2 => bindO famE hr2 hm2 h2 fun ι3 s3 hi H3 l3 hr3 hm3 h3 => ?_
  have rd := (rd.mono l2).mono l3
  cases e : fSl s3 d lo hi with
  | none => rw [e] at h3; exact h3.elim
  | some x =>
    rw [e] at h3
    have lists : ∀ {ds : List D}, itemsL s3 d = some ds → x = .lst (cutD ds lo hi) → rSlL X.K v lo hi H3 Q := fun {ds} hi' ex => by
      subst ex
      obtain ⟨a, vs, rfl, k1, k2⟩ := hm3.items rd hi'
      refine ⟨_, _, rfl, k1, fun p hp => ?_⟩
      obtain ⟨l, m'⟩ := hm3.new (o := .lst (cutV vs lo hi)) hp
      exact h3 _ _ _ l m' (.lst upd_same (hm3.ne hp) ((k2.cut lo hi).mono l))
    cases rd with
    | @tup a vs ds k1 k2 =>
      cases e
      refine .inl ⟨_, _, rfl, k1.sq, fun hw => ?_, fun hw p hp => ?_⟩
      · have hc : cutD ds lo hi = ds := by
          unfold cutD
          rw [k2.length, hw.1, hw.2, List.drop_zero, Nat.sub_zero, ← k2.length, List.take_length]
        refine h3 _ _ _ .refl hm3 ?_
        rw [hc]
        exact .tup k1 k2
      · obtain ⟨l, m'⟩ := hm3.new (o := .tup (cutV vs lo hi)) hp
        exact h3 _ _ _ l m' (.tup (.inl upd_same) ((k2.cut lo hi).mono l))
    | @lst a vs ds _ _ _ => exact .inr (lists (ds := ds) rfl (by simpa [fSl, itemsL] using e.symm))
    | @frz a vs ds _ _ => exact .inr (lists (ds := ds) rfl (by simpa [fSl, itemsL] using e.symm))
    | @frz2 a vs ds _ _ _ => exact .inr (lists (ds := ds) rfl (by simpa [fSl, itemsL] using e.symm))
    | @obj a n _ =>
      cases e' : itemsL s3 (.obj n) with
      | none => simp [fSl, e'] at e
      | some ds => exact .inr (lists e' (by simpa [fSl, e'] using e.symm))
    | _ => simp [fSl, itemsL] at e

/-! ### a list's item stored -/
def putL (s : S) (o i x : D) : Option S := match o, i with
  | .obj n, .int k => match s[n]? with
    | some (.lst ds) => (ixN ds.length k).map fun j => s.set n (.lst (ds.set j x))
    | _ => none
  | _, _ => none
def sSetIx (ge go gi : GE) : GS := fun ρ s => (ge ρ s).bind fun x s1 => (go ρ s1).bind fun o s2 => (gi ρ s2).bind fun i s3 => match putL s3 o i x with
  | some s4 => .ok (.nx ρ) s4
  | none => .no
theorem js_setIx {o i : Expr} {ge go gi : GE} {tpos : Pos} (he : JE X ca W e ge) (ho : JE X ca W o go) (hi : JE X ca W i gi)
    (ha : ∀ v, assign (.Subscript o i tpos) X.env v = (do
      let ov ← holding [v] (eval o X.env)
      let iv ← holding [v, ov] (eval i X.env)
      standAt tpos
      holding [v, ov, iv] (setItem ov iv v)
      release [v, ov, iv] []) := by intro _; rfl) (hs : swapsWithSole [.Subscript o i tpos] e pos.line X.env = pure false := by rfl) (hw : swappedStores [.Subscript o i tpos] e X.env = pure none := by rfl)
    (h1 : (assignEach [.Subscript o i tpos] X.env).map (·.2) = [assign (.Subscript o i tpos) X.env] := by rfl) : JS X ca W (.Assign [.Subscript o i tpos] e pos) (sSetIx ge go gi) := by
  refine PS.imp (ps_asg he (pg_sub ho hi set_list ha) hs hw h1) fun D σ H ⟨ι, ρ, s, hr, hm, h⟩ => bindE famS hr hm h fun ι1 s1 x v H1 l1 hr1 hm1 rx h1 => bindE famS hr1 hm1 h1 fun ι2 s2 o ov H2 l2 hr2 hm2 ro h2 => bindE famS hr2 hm2 h2 fun ι3 s3 i iv H3 l3 hr3 hm3 ri h3 => ?_
  cases e : putL s3 o i x with
  | none => rw [e] at h3; exact h3.elim
  | some s4 =>
    rw [e] at h3
    have ro := ro.mono l3
    have rx := (rx.mono l2).mono l3
    cases ro with
    | @obj a n hn =>
      cases ri with
      | int k =>
        simp only [putL] at e
        split at e
        · rename_i ds hds
          simp only [Option.map_eq_some_iff] at e
          obtain ⟨j, hj, rfl⟩ := e
          obtain ⟨vs, k1, k2⟩ := hm3.ob n _ _ hn hds
          refine ⟨_, _, _, j, rfl, rfl, k1, by rw [← k2.length]; exact hj, ?_⟩
          obtain ⟨l, m'⟩ := hm3.write (o := .lst (vs.set j v)) (u := .lst (ds.set j x)) hn trivial fun l => ⟨_, upd_same, (k2.mono l).set (rx.mono l) j⟩
          exact h3 _ _ _ l m' (hr3.mono l)
        · cases e
      | _ => simp [putL] at e
    | _ => simp [putL] at e

/-- name = [..] on one line, the name a local -/
theorem js_setLc (j : Nat) {y : Str} {py : Pos} {elt iter : Expr} {ifs : List Expr} {scope : Scope} {i : Nat} {x : Str} {tpos lpos : Pos} {gi : GA} {gt : GT} {ge : GE} (hc : X.calm = true) (hN : X.N.Nodup) (hi : JI X ca W (.Name x tpos) iter gi) (ok : BlkOk X.N X.env.scope scope [(x, i)])
    (hg : ∀ (s : Shared) (H : Hp) (C : Addr) (cl : List (Str × Addr)) (fp : List Addr), PG (X.blk s H scope (compEnvC scope cl C X.env) fp) (.Name x tpos) (gName i))
    (ht : ∀ (s : Shared) (H : Hp) (C : Addr) (cl : List (Str × Addr)) (fp : List Addr), JTs (X.blk s H scope (compEnvC scope cl C X.env) fp) ca W0 ifs gt)
    (he : ∀ (s : Shared) (H : Hp) (C : Addr) (cl : List (Str × Addr)) (fp : List Addr), JE (X.blk s H scope (compEnvC scope cl C X.env) fp) ca W0 elt ge)
    (hsw : swapsWith (.ListComp elt [⟨.Name x tpos, iter, ifs, 0⟩] scope lpos) (some (.Name y py)) pos.line X.env = pure true) (hy : X.N[j]? = some y := by rfl) (hyl : X.env.scope.names.lookup y = some .local := by rfl)
    (hs : ∀ x, foldedSetIterable iter X.env x = pure x := by intro _; rfl) :
    JS X ca W (.Assign [.Name y py] (.ListComp elt [⟨.Name x tpos, iter, ifs, 0⟩] scope lpos) pos) (sAsg (gLc [i] gi (dName i) gt ge) (dName j)) :=
  PS.imp (ps_setLc (i := j) (own := [(x, i)]) (g := gName i) (wi := tI X.K ca W gi) (tt := tT X.K ca W0 gt) (te := tG X.K ca W0 ge) hc hN hy hyl hsw hi ok hg ht he hs) fun D σ H ⟨ι, ρ, s, hr, hm, h⟩ => by
    have h2 : tG X.K ca W (gLc [i] gi (dName i) gt ge) σ H (fun v H1 => D.nx (σ.set j (some v)) H1) :=
      bindE famS hr hm h fun ι1 s1 d v H1 l1 hr1 hm1 rd h1 => h1 ι1 _ H1 .refl hm1 (hr1.set rd j)
    exact tG_lc (own := [i]) (fun {ι H ρ ρ' σ d v Q} r rd e k => by
      cases e
      refine k _ (r.set rd i) ?_
      show ((σ.set i none).set i (some v)).set i none = (σ.set i none)
      rw [List.set_set, List.set_set]) h2
theorem Room.u65 {k : Nat} {A : Around} (r : Room k A) : A.units + 65 < cLine := by have := r.un; omega
/-! ### constants of the module: tuples of data -/
/-- a constant's form: which does not hang on the heap -/
def ConstAt (K : PySem.W.Frag) (v : V) (d : D) : Prop := ∀ ι H, Rep K ι H d v
end
end J


set_option Elab.async false
set_option linter.all false
set_option maxRecDepth 100000
set_option maxHeartbeats 4000000
/-! J5: raise of own errors; a lambda handed to a def that tells which error came. -/
namespace J
open PySem PySem.Spec L2
open PyProof.Rows (envOfC)
section
variable {X : Cx} {ca : Ct} {W : WX} {e : Expr} {es : List Expr} {pos : Pos}
/-- X(), X an own exception class without own __init__ -/
theorem pmk_own0 {C : Addr} {bmB : List Value} {B newId initId : String} {x : Str} {p : Pos} (F : ExcBaseFacts B newId initId bmB) (q : PySem.W.excIn X.K C bmB newId = true) (gC : X.mg x = some (.ref C))
    (kC : PySem.W.keepIn X.K (.ref C) = true) (r : Raises X (.ref C)) (hg : Gl X x) (hdb : (x == ("__debug__" : Str)) = false := by decide) :
    PMk X (.Call (.Name x p) [] [] pos) (fun σ H Q => Q (.ref C) none H) := by
  intro pins s σ H Q I h
  refine wpAny_Call_Name_kw (ld_glob I hg gC ?_ hdb)
  refine PySem.W.callWith_K0 I.kIn kC ?_
  show wpAny _ _ (call (.ref C) []) _ _ _
  obtain ⟨bm, N, nm, qn, bs, hdct, sn, sub, ab, col, dd, k0, k1, k2, k3, k5, mN, hC, hN, hni, T⟩ := exc_obj I.kIn q
  refine wpAny_call_exc_subT F T hC hN hni (fun h' e hm => ?_) (by show 0 ≤ sizeLine; decide)
  exact mk_of I hm r h (I.hok.gone hm.new)
/-- what the written part says of an own error class without fields -/
structure ExcJ (K : PySem.W.Frag) (mg : Str → Option Value) (ca : Ct) (c : Nat) (x : Str) : Prop where
  g : mg x = some (.ref (ca.c c))
  q : PySem.W.excIn K (ca.c c) He.veBase "ValueError.__new__" = true
  k : PySem.W.keepIn K (.ref (ca.c c)) = true
  b : PySem.W.subIn K (.ref (ca.c c)) (.type "BaseException") = some true
  t : PySem.W.typeIn K (.ref (ca.c c)) = some (.type "type")
def sRaise (c : Nat) : GS := fun _ s => .err ⟨c, none⟩ s
theorem js_raise0 {x : Str} {p pos' : Pos} {c : Nat} (T : ExcJ X.K X.mg ca c x) (hc : X.calm = true) (tk : Takes X W) (hg : Gl X x := by rfl) (hdb : (x == ("__debug__" : Str)) = false := by decide) :
    JS X ca W (.Raise (some (.Call (.Name x p) [] [] pos')) none pos) (sRaise c) :=
  PS.imp (ps_raise hc tk (pmk_own0 PySem.F.excBase_ValueError T.q T.g T.k (raises_own T.b T.t) hg hdb)) fun D σ H ⟨ι, ρ, s, hr, hm, h⟩ => h ι _ none H σ .refl hm ⟨rfl, fun _ => rfl, fun _ _ z => by cases z⟩
def sNever : GS := fun _ _ => .no
theorem js_never {st : Stmt} : JS X ca W st sNever := PS.imp ps_never fun D σ H ⟨ι, ρ, s, hr, hm, h⟩ => h

/-! ### a lambda without parameters, called by the def that it is handed to -/
theorem Sim.extN {K : PySem.W.Frag} {ι : Wd} {s : S} {H H1 : Hp} (m : Sim K ca ι s H) (e : LamX.ExtN H H1) (t : LamX.Tabs ca.T H1) : Le ι H ι H1 ∧ Sim K ca ι s H1 := by
  have k : ∀ a o, H a = some o → NoTab o → H1 a = some o := fun a o h n => e a o h n
  have l : Le ι H ι H1 := ⟨⟨List.prefix_rfl, fun a o h t n => ⟨k a o h t, n⟩, fun a xs h => k _ _ h (fun _ z => by cases z), fun a o u h => k _ _ h (fun _ z => by cases z)⟩, fun a o h t n => ⟨k a o h t, n⟩, fun _ h => h⟩
  have kM : ∀ a ∈ ι.M, H1 a = H a := fun a ha => by
    obtain ⟨o, h, mu⟩ := m.tr a ha
    rw [h]; exact k a o h mu.noTab
  have nM : ∀ a o, H1 a = some o → (∀ u, MutJ u → o ≠ u) → a ∉ ι.M := fun a o h n ha => by
    obtain ⟨u, hu, mu⟩ := m.tr a ha
    rw [kM a ha, hu] at h
    exact n u mu (Option.some.inj h).symm
  refine ⟨l, m.len, m.nd, m.sub, fun a ha => by rw [kM a ha]; exact m.tr a ha, fun p hp => ?_, fun n a u hn hs => (m.ob n a u hn hs).mono l (kM a (m.sub a (List.mem_of_getElem? hn)))⟩
  obtain ⟨ps, h1, h2, h3⟩ := t p hp
  refine ⟨ps, h1, nM _ _ h1 fun u mu z => mu.noTab ps z.symm, h2, fun pos cv hc => ?_⟩
  obtain ⟨c, ec, h4⟩ := h3 pos cv hc
  exact ⟨c, ec, h4, nM _ _ h4 fun u mu z => mu.noExt _ z.symm⟩
/-- what the def makes of the lambda: z if it ends; of its error, hd -/
def gWrong (z : D) (hd : Ex → S → R D) (gl : GE) : GE := fun ρ s => match gl ρ s with
  | .ok _ s1 => .ok z s1
  | .err e s1 => (match hd e s1 with | .ok d s2 => .ok d s2 | _ => .no)
  | .no => .no
def TTw (K : PySem.W.Frag) (ca : Ct) (zv : V) (hd : Ex → S → R D) : (XK → Hp → VK → Prop) → Hp → VK → Prop := fun tl H Q =>
  tl (fun cls d H' => ∃ e ι s, Sim K ca ι s H' ∧ RepX K ca ι H' e cls d ∧ PostE K ca ι H' (match hd e s with | .ok d s2 => .ok d s2 | _ => .no) Q (fun _ _ _ => False)) H
    (fun _ H' => Q zv H')
theorem je_wrong {z : D} {zv : V} (hz : ∀ ι H, Rep X.K ι H z zv) {hd : Ex → S → R D} {x a : Str} {g c P : Addr} {k : Nat} {pg : Arguments} {bg : List Stmt} {sg : Scope} {dV kV doc pm cdv ct oc : Value} {an od : Option Addr} {osl : Array (Option Value)} {Ng : List Str}
    {params : Arguments} {body : Expr} {scope : Scope} {gl : GE} {p lpos pos : Pos} (hg : Gl X x) (hm : X.mg x = some (.ref g)) (hk : PySem.W.keepIn X.K (.ref g) = true)
    (lk : X.K.lookup g = some ⟨oc, od, .func (PySem.W.fnOf x x pg bg sg dV kV doc pm an cdv ct), osl⟩) (hcg : PySem.W.codeIn X.K cdv x = true) (hb : L2.Binds X.K (PySem.W.fnOf x x pg bg sg dV kV doc pm an cdv ct) [a] []) (Sg : FnScope Ng [a] sg) (hNg : Ng[0]? = some a) (hva : Vis sg a)
    (hG : LamX.GivesTo X Ng x sg g cdv bg a (X.env.qual ++ "<lambda>") (TTw X.K ca zv hd))
    (TB : LamX.TabB X.base X.mg c P) (hcode : X.env.code = .ref c) (hmT : (P, X.env.qual ++ "<lambda>") ∈ ca.T) (hu : ∀ p ∈ ca.T, p.1 = P → p.2 = X.env.qual ++ "<lambda>") (hr : Room (k + 2) X.A) (L : LamX.LamS X.env.scope scope) (hdef : defaultsOf params X.env = ([], []))
    (hbind : ∀ (q : Str) (cl : List (Str × Addr)) (pm cv ctv : Value), bindArgs (PySem.W.kla_fn "<lambda>" q params body scope cl pm cv ctv) ⟨[], []⟩ = pure [])
    (hbody : ∀ (A : Around) (outer : List PySem.Env) (s : Shared) (H : Hp) (E : XK) (f c' : Addr), Room k (A.deeper (LamX.lamEnv X scope s.heap.objs.size f c')) → JE (LamX.lamCx X A outer s H E scope f c') ca (fun cls d _ H => E cls d H) body gl)
    (hdb : (x == ("__debug__" : Str)) = false := by decide) (hd' : (a == ("__debug__" : Str)) = false := by decide) (hcd : (a == ("__classdict__" : Str)) = false := by decide) :
    JE X ca W (.Call (.Name x p) [.Lambda params body scope lpos] [] pos) (gWrong z hd gl) := by
  refine PE.imp (LamX.pe_lamcall (T := ca.T) (t := fun E => tG X.K ca (fun cls d _ H => E cls d H) gl) hg hm hk lk hcg hb Sg hNg hva hG TB hcode hmT hu hr L hdef hbind hbody hdb hd' hcd) fun σ H Q ⟨ι, ρ, s, hrs, hms, h⟩ => ?_
  refine ⟨hms.tab.tabs, fun H1 eN T1 => ?_⟩
  obtain ⟨l, m1⟩ := hms.extN eN T1
  show tG X.K ca (fun cls d _ H' => ∃ e ι s, Sim X.K ca ι s H' ∧ RepX X.K ca ι H' e cls d ∧ PostE X.K ca ι H' (match hd e s with | .ok d s2 => .ok d s2 | _ => .no) Q (fun _ _ _ => False)) gl σ H1
    (fun _ H' => Q zv H')
  refine ⟨ι, ρ, s, hrs.mono l, m1, ?_⟩
  have h := PostE.mono h l
  unfold gWrong at h
  cases e : gl ρ s with
  | no => rw [e] at h; exact h
  | ok d s1 =>
    rw [e] at h
    exact fun ι' v H' l' m' r => h ι' zv H' l' m' (hz ι' H')
  | err x s1 =>
    rw [e] at h
    simp only at h
    intro ι' cv dd H' l' m' q
    refine ⟨x, ι', s1, m', q, ?_⟩
    cases e2 : hd x s1 with
    | ok d s2 => rw [e2] at h; exact PostE.mono (show PostE X.K ca ι H1 (.ok d s2) Q (fun _ _ _ => False) from h) l'
    | err _ _ => rw [e2] at h; exact h
    | no => rw [e2] at h; exact h
/-! ### isinstance of the error that a suite holds -/
def gIsE (b : Addr → Addr → Option Bool) (ga gc : GE) : GE := fun ρ s => (ga ρ s).bind fun x s1 => (gc ρ s1).bind fun y s2 => match x, y with
  | .raw a, .raw C => R.ofO ((b a C).map D.bl) s2
  | _, _ => .no
theorem je_isE {a D₀ : Addr} {oe : Obj} {pn : List (Addr × Obj)} {ea ec : Expr} {ga gc : GE} {p : Pos} {b : Addr → Option Bool} (C : ExcC X.K D₀) (hz : Zc (.ref D₀) none oe) (hf : ∃ vs, oe.data = .fields vs) (hb : ∀ E v, b E = some v → PySem.W.kitOne X.K (.ref D₀) (.ref E) = some v) (hm : X.mg "isinstance" = none)
    (ha : JE (X.suite a ((a, oe) :: pn)) ca W ea ga) (hc : JE (X.suite a ((a, oe) :: pn)) ca W ec gc) (hg : Gl X "isinstance" := by rfl)
    (he : starEach [ea, ec] X.env = (false, eval ea X.env) :: starEach [ec] X.env := by rfl) (he2 : starEach [ec] X.env = (false, eval ec X.env) :: starEach [] X.env := by rfl) (hpl : (backTo pos (starEach [ec] X.env)).any (·.1) = false := by rfl) :
    JE (X.suite a ((a, oe) :: pn)) ca W (.Call (.Name "isinstance" p) [ea, ec] [] pos) (gIsE (fun a' E => if a' = a then b E else none) ga gc) := by
  refine PE.imp (pe_callB (call_isE C hz hf) hg hm bt_isinstance (pa_cons ha (pa_cons hc pa_nil he2) he) (by decide) (by decide) he hpl) fun σ H Q ⟨ι, ρ, s, hr, hms, h⟩ => ?_
  refine bindE famE hr hms h fun ι1 s1 x v H1 l1 hr1 hm1 rx h1 => bindE famE hr1 hm1 h1 fun ι2 s2 y u H2 l2 hr2 hm2 ry h2 => ?_
  cases rx with
  | raw a' =>
    cases ry with
    | raw E =>
      simp only at h2
      by_cases ea : a' = a
      · subst ea
        rw [if_pos rfl] at h2
        cases eb : b E with
        | none => rw [eb] at h2; exact h2.elim
        | some v =>
          rw [eb] at h2
          exact ⟨_, .ref E, v, rfl, fun u r => r, hb E v eb, h2 ι2 _ H2 .refl hm2 (.bl v)⟩
      · rw [if_neg ea] at h2; exact h2.elim
    | _ => exact h2.elim
  | _ => exact h2.elim
end

section
variable {X : Cx} {ca : Ct} {W : WX} {pos : Pos}
/-! ### a written dict of texts, asked -/
def dictV (kvs : List (Str × Str)) (x : Str) : Option D := match valV (mergeK [] (kvs.map fun q => ((Sum.inr q.1 : Key), V.str q.2))) (Sum.inr x) with
  | some (.str y) => some (.str y)
  | _ => none
def gDictC (kvs : List (Str × Str)) (gk : GE) : GE := fun ρ s => (gk ρ s).bind fun d s1 => match d with | .str x => R.ofO (dictV kvs x) s1 | _ => .no
def trsC (kvs : List (Str × Str)) : List (TE × TE) := kvs.map fun q => (tC (.str q.1), tC (.str q.2))
theorem tPairs_c {σ : L2.St} : ∀ {kvs : List (Str × Str)} {H : Hp} {Q : List (V × V) → Hp → Prop}, Q (kvs.map fun q => (V.str q.1, V.str q.2)) H → tPairs (trsC kvs) σ H Q
  | [], _, _, h => h
  | q :: kvs, H, Q, h => tPairs_c (kvs := kvs) (H := H) (Q := fun ps H' => Q ((V.str q.1, V.str q.2) :: ps) H') h
theorem je_dictC {kvs : List (Str × Str)} {keys : List (Option Expr)} {values : List Expr} {k : Expr} {p : Pos} {gk : GE} {j : Nat} (hr : Room j X.A) (h : PPs X p keys values (trsC kvs)) (hk : JE X ca W k gk) (hn : kvs.length ≤ 15 := by decide) (hall : keys.all (·.isSome) = true := by rfl) (hl : keys.length = values.length := by rfl) (h0 : keys ≠ [] := by exact fun z => by cases z)
    (h15 : keys.length ≤ 15 := by decide) (hs : NoSl k := by exact fun _ _ => rfl) : JE X ca W (.Subscript (.Dict keys values p) k pos) (gDictC kvs gk) := by
  refine PE.imp (pe_dget (hu_of hr) (pe_disp h hall hl h0 h15) hk hs) fun σ H Q ⟨ι, ρ, s, hrs, hm, h⟩ => ?_
  intro pd hpd
  refine tPairs_c ?_
  refine ⟨upd_same, kvs.map fun q => ((Sum.inr q.1 : Key), V.str q.2), by rw [List.map_map]; rfl, by simpa using hn, ?_⟩
  rw [upd_upd]
  obtain ⟨l, m⟩ := hm.new (o := .dK (mergeK [] (kvs.map fun q => ((Sum.inr q.1 : Key), V.str q.2)))) hpd
  have h := PostE.mono h l
  refine bindE famE (hrs.mono l) m h fun ι1 s1 d v H1 l1 hr1 hm1 rd h1 => ?_
  have hd := (l1.stay _ _ upd_same (fun _ z => by cases z) (fun z => hm.ne hpd (hm.sub _ z))).1
  cases rd with
  | str x =>
    simp only at h1
    cases e : dictV kvs x with
    | none => rw [e] at h1; exact h1.elim
    | some d' =>
      rw [e] at h1
      unfold dictV at e
      split at e
      · rename_i y ey
        cases e
        exact ⟨pd, .str y, rfl, .inl ⟨_, Sum.inr x, .inl hd, rfl, ey.symm⟩, h1 ι1 _ H1 .refl hm1 (.str y)⟩
      · cases e
  | _ => exact h1.elim
end

section
variable {ca : Ct}
/-- as fnJ, of a def by its parts; what its code object is, is told -/
theorem fnJD {P : Program} {w : World} {K : PySem.W.Frag} {mg : Str → Option Value} {base : Heap} {x qual : Str} {params : Arguments} {body : List Stmt} {scope : Scope} {f : Addr} {fd : FuncData} {N ps : List Str} {k : Nat} {b : GS} (F : FunD K x qual params body scope [] [] f fd) (Sc : FnScope N ps scope)
    (hb : ∀ (cdv : Value) (A : Around) (outer : List PySem.Env) (s : Shared) (H : Hp) (E : XK), Room k (A.deeper (envOfC qual scope s.heap.objs.size f cdv)) →
      JSs (cxOf (L2.CX P w) P w K mg base N qual scope f cdv A outer s H E) ca (fun cls d _ H => E cls d H) body b) : FnOk P w K mg base (L2.CX P w) (k + 1) f fd ps (spJ K ca ps.length (runF N.length b)) := by
  refine F.ok Sc (fun vs H Q E ⟨ι, ds, s, hr, hm, hl, h⟩ => by rw [← hr.length, hl]) (fun cdv A outer s H vs Q E hr h => ⟨_, hb cdv A outer s H E hr, ?_⟩)
  obtain ⟨ι, ds, s', hrs, hm, hl, h⟩ := h
  refine ⟨ι, _, s', relS_start N hrs, hm, ?_⟩
  unfold runF at h
  cases e : b (ds.map some ++ List.replicate (N.length - ds.length) none) s' with
  | err y s1 => rw [e] at h; exact fun ι' cv dd H' σ' l m q => h ι' cv dd H' l m q
  | no => rw [e] at h; exact h
  | ok fl s1 =>
    rw [e] at h
    cases fl with
    | rt d => exact h
    | nx ρ => exact fun ι' σ' H' l m r => h ι' .non H' l m .non
    | bk ρ => exact h.elim
    | ct ρ => exact h.elim
/-- a module's constant that is data -/
def ConstJ (K : PySem.W.Frag) (mg : Str → Option Value) (x : Str) (d : D) : Prop := ∃ (u : Value) (v : V), mg x = some u ∧ RelV v u ∧ ∀ ι H, Rep K ι H d v
theorem je_k {X : Cx} {W : WX} {x : Str} {d : D} {pos : Pos} (h : ConstJ X.K X.mg x d) (hg : Gl X x := by rfl) (hd : (x == ("__debug__" : Str)) = false := by decide) : JE X ca W (.Name x pos) (gC d) := by
  obtain ⟨u, v, h1, h2, h3⟩ := h
  exact je_glob h1 h2 h3 hg hd
end
end J


set_option Elab.async false
set_option linter.all false
set_option maxRecDepth 100000
set_option maxHeartbeats 4000000
/-! J6: a def that tries what it is handed; constants of the module; the law's def; the end. -/
namespace J
open PySem PySem.Spec L2
open PyProof.Rows (envOfC)

/-- the def: try: a() / except ec as en: sst / return z -/
theorem gives_wrong {X : Cx} {ca : Ct} {x a en ec q : Str} {zv : V} {ze : Expr} {sg : Scope} {g C : Addr} {cdg : Value} {sst : Stmt} {p1 p2 p3 p4 p5 p6 p8 : Pos} {cls : List Nat} {hd : Ex → S → R D} {gs : Nat → Addr → GS}
    (hnd : [a, en].Nodup) (hen : sg.names.lookup en = some .local) (hge : sg.names.lookup ec = some .globalImplicit) (hme : X.mg ec = some (.ref C)) (hde : (ec == ("__debug__" : Str)) = false)
    (hze : ∀ (s : Shared) (H : Hp), PE (cxOf C8.CX0 X.prog X.w X.K X.mg X.base [a, en] x sg g cdg X.A X.stack s H C8.E0).nox ze (tC zv))
    (hx : ∀ i ∈ cls, PySem.W.exmOne X.K (.ref (ca.c i)) (.ref C) = some true)
    (hs : ∀ (s : Shared) (H : Hp), ∀ i ∈ cls, ∀ (a' : Addr) (oe : Obj) (pn : List (Addr × Obj)), Zc (.ref (ca.c i)) none oe → (∃ vs, oe.data = .fields vs) →
      JS ((cxOf C8.CX0 X.prog X.w X.K X.mg X.base [a, en] x sg g cdg X.A X.stack s H C8.E0).nox.suite a' ((a', oe) :: pn)) ca W0 sst (gs i a'))
    (hg : ∀ e s d s2, hd e s = .ok d s2 → e.cls ∈ cls ∧ e.arg = none ∧ ∀ a', gs e.cls a' [none, some (.raw a')] s = .ok (.rt d) s2) :
    LamX.GivesTo X [a, en] x sg g cdg [.Try [.Expr (.Call (.Name a p1) [] [] p2) p3] [.ExceptHandler (some (.Name ec p4)) (some en) [sst] p5] [] [] p6, .Return (some ze) p8] a q (TTw X.K ca zv hd) := by
  intro f c' s H Q tl act hc h
  have hgl : Gl (cxOf C8.CX0 X.prog X.w X.K X.mg X.base [a, en] x sg g cdg X.A X.stack s H C8.E0).nox ec := hge
  refine ⟨_, pss_cons (ps_try_as (X := (cxOf C8.CX0 X.prog X.w X.K X.mg X.base [a, en] x sg g cdg X.A X.stack s H C8.E0).nox) (c := .ref C) (i := 1) (Wout := fun _ _ _ _ => False)
      (tb := fun W D σ H => ∃ Ech : XK, (∀ cls d σ' H', Ech cls d H' → W cls d σ' H') ∧ σ[0]? = some (some (.ref f)) ∧ H c' = some (LamX.CodeO c' q) ∧ tl Ech H (fun _ H' => D.nx σ H'))
      (ts := fun a' cv d D σ H => ∃ i ∈ cls, cv = .ref (ca.c i) ∧ d = none ∧ (σ.length = 2 → tS X.K ca W0 (gs i a') D σ H))
      rfl rfl hnd rfl hen ⟨hgl, hde, .inl hme⟩ LamX.takes0 (fun W pn xe tk _ => ?_) (fun a' oe cv d pn hz hf => ?_)) (pss_one (ps_ret (hze s H))), ?_⟩
  · refine ⟨fun pins s' σ H' D I h' => ?_⟩
    obtain ⟨Ech, hW, h1, h2, h3⟩ := h'
    have hp := act W pn xe Ech p1 p2 tk (fun cv d σ' H2 z => hW cv d σ' H2 z)
    exact (pss_one (ps_expr (pos := p3) hp)).run pins s' σ H' D I ⟨h1, h2, h3⟩
  · refine ⟨fun pins s' σ H' D I ⟨i, hi, e1, e2, h'⟩ => ?_⟩
    subst e1 e2
    exact (pss_one (hs s H i hi a' oe pn hz hf)).run pins s' σ H' D I (h' I.len)
  · refine ⟨fun cv d H' => ∃ e ι s, Sim X.K ca ι s H' ∧ RepX X.K ca ι H' e cv d ∧ PostE X.K ca ι H' (match hd e s with | .ok d s2 => .ok d s2 | _ => .no) Q (fun _ _ _ => False), fun cv d σ' H' ⟨e, ι, s', m, rx, p⟩ => ?_, rfl, hc, ?_⟩
    · cases eh : hd e s' with
      | err _ _ => rw [eh] at p; exact p.elim
      | no => rw [eh] at p; exact p.elim
      | ok d' s2 =>
        rw [eh] at p
        obtain ⟨h1, h2, h3⟩ := hg e s' d' s2 eh
        obtain ⟨r1, r2, _⟩ := rx
        refine ⟨true, by rw [r1]; exact hx _ h1, fun _ a' _ => ⟨e.cls, h1, r1, r2 h2, fun hl => ⟨ι, [none, some (.raw a')], s', ⟨hl.symm, fun i d hi => ?_⟩, m, ?_⟩⟩, fun z => by cases z⟩
        · match i, hi with
          | 1, hi =>
            cases hi
            rw [List.length_set] at hl
            exact ⟨_, List.getElem?_set_self (by omega), .raw a'⟩
        · rw [h3 a']
          exact fun ι' v H2 l m2 r => p ι' v H2 l m2 r
    · exact h

/-! ### constants of the module -/
mutual
def reprB (K : PySem.W.Frag) : D → Value → Bool
  | .int i, .int j _ => i == j
  | .str x, .str y _ => decide (x = y)
  | .bl a, .bool b => a == b
  | .non, .none => true
  | .tup ds, .ref a => (match K.lookup a with
    | some ⟨.type c, _, .seq its _, _⟩ => decide (c = "tuple") && (decide (its.size ≤ sizeLine) && reprsB K ds its.toList)
    | _ => false)
  | _, _ => false
def reprsB (K : PySem.W.Frag) : List D → List Value → Bool
  | [], [] => true
  | d :: ds, u :: us => reprB K d u && reprsB K ds us
  | _, _ => false
end
mutual
theorem reprB_ok {K : PySem.W.Frag} : ∀ {d : D} {u : Value}, reprB K d u = true → ∃ v, RelV v u ∧ ∀ ι H, Rep K ι H d v
  | .int i, u, h => by
    cases u <;> simp only [reprB] at h <;> first | cases h | skip
    rename_i j t
    have e : i = j := by simpa using h
    subst e
    exact ⟨.int i, ⟨t, rfl⟩, fun _ _ => .int i⟩
  | .str x, u, h => by
    cases u <;> simp only [reprB] at h <;> first | cases h | skip
    rename_i y t
    have e : x = y := by simpa using h
    subst e
    exact ⟨.str x, ⟨t, rfl⟩, fun _ _ => .str x⟩
  | .bl x, u, h => by
    cases u <;> simp only [reprB] at h <;> first | cases h | skip
    rename_i y
    have e : x = y := by simpa using h
    subst e
    exact ⟨.bl x, rfl, fun _ _ => .bl x⟩
  | .non, u, h => by
    cases u <;> simp only [reprB] at h <;> first | cases h | skip
    exact ⟨.non, rfl, fun _ _ => .non⟩
  | .tup ds, u, h => by
    cases u <;> simp only [reprB] at h <;> first | cases h | skip
    rename_i a
    split at h
    · rename_i c od its n sl e
      simp only [Bool.and_eq_true, decide_eq_true_eq] at h
      obtain ⟨rfl, h2, h3⟩ := h
      obtain ⟨vs, rv, rr⟩ := reprsB_ok h3
      exact ⟨.ref a, rfl, fun ι H => .tup (.inr ⟨_, its, n, e, rfl, rfl, h2, rv⟩) (rr ι H)⟩
    · cases h
  | .ty _, u, h => by simp [reprB] at h
  | .lst _, u, h => by simp [reprB] at h
  | .frz _, u, h => by simp [reprB] at h
  | .obj _, u, h => by simp [reprB] at h
  | .raw _, u, h => by simp [reprB] at h
theorem reprsB_ok {K : PySem.W.Frag} : ∀ {ds : List D} {us : List Value}, reprsB K ds us = true → ∃ vs, Vals vs us ∧ ∀ ι H, Reps K ι H ds vs
  | [], [], _ => ⟨[], .nil, fun _ _ => .nil⟩
  | [], _ :: _, h => by simp [reprsB] at h
  | _ :: _, [], h => by simp [reprsB] at h
  | d :: ds, u :: us, h => by
    simp only [reprsB, Bool.and_eq_true] at h
    obtain ⟨v, r1, r2⟩ := reprB_ok h.1
    obtain ⟨vs, r3, r4⟩ := reprsB_ok h.2
    exact ⟨v :: vs, .cons r1 r3, fun ι H => .cons (r2 ι H) (r4 ι H)⟩
end
def constB (K : PySem.W.Frag) (x : Str) (d : D) : Bool := match PySem.W.nsIn K mainGlobals x with
  | some (some u) => reprB K d u
  | _ => false
theorem const_ok {K : PySem.W.Frag} {h : Heap} {mg : Str → Option Value} (X : K.In h) (G : h.Ns mainGlobals mg) {x : Str} {d : D} (c : constB K x d = true) : ConstJ K mg x d := by
  unfold constB at c
  split at c
  · rename_i u e
    obtain ⟨v, r1, r2⟩ := reprB_ok c
    exact ⟨u, v, PySem.W.mg_of X G e, r1, r2⟩
  · cases c
/-! ### own errors -/
def excCB (K : PySem.W.Frag) (D₀ : Addr) : Bool :=
  decide (PySem.W.findIn K (.ref D₀) "__getattribute__" = some (some (.builtin "BaseException.__getattribute__"))) && (decide (PySem.W.findIn K (.ref D₀) "__getattr__" = some none) && (decide (PySem.W.subIn K (.ref D₀) (.type "BaseException") = some true) && (PySem.W.hasDictIn K D₀ &&
    (decide (PySem.W.findIn K (.ref D₀) "__class__" = some (some (.builtin "object.__class__"))) && (decide (PySem.W.specialIn K (.builtin "object.__class__") "__get__" = some (some (.builtin "getset_descriptor.__get__"))) && (decide (PySem.W.takesIn K (.builtin "object.__class__") = some true) && decide (PySem.W.mroIn K D₀ (.type "object") = some true)))))))
theorem excCB_ok {K : PySem.W.Frag} {D₀ : Addr} (h : excCB K D₀ = true) : ExcC K D₀ := by
  simp only [excCB, Bool.and_eq_true, decide_eq_true_eq] at h
  exact ⟨h.1, h.2.1, h.2.2.1, h.2.2.2.1, h.2.2.2.2.1, h.2.2.2.2.2.1, h.2.2.2.2.2.2.1, h.2.2.2.2.2.2.2⟩
def kitB2 (K : PySem.W.Frag) (x y : Str) (b : Bool) : Bool := decide (PySem.W.kitOne K (.ref (He.ga K x)) (.ref (He.ga K y)) = some b)
theorem excJ_ok {K : PySem.W.Frag} {h : Heap} {mg : Str → Option Value} {ca : Ct} {i : Nat} {x : Str} (X : K.In h) (G : h.Ns mainGlobals mg) (c : (He.Fa.exc x).ok K = true) (g : (He.Fa.glo x).ok K = true) (e : ca.c i = He.ga K x) : ExcJ K mg ca i x := by
  obtain ⟨h1, h2, h3, h4⟩ := He.exc_ok c
  exact ⟨by rw [e]; exact He.glo_ok X G g, by rw [e]; exact h1, by rw [e]; exact h2, by rw [e]; exact h3, by rw [e]; exact h4⟩

/-! ### the law's def -/
theorem fnJL {ca : Ct} {P : Program} {w : World} {K : PySem.W.Frag} {mg : Str → Option Value} {base : Heap} {x qual : Str} {params : Arguments} {body : List Stmt} {scope : Scope} {f c : Addr} {fd : FuncData} {N ps : List Str} {k : Nat} {b : GS} (F : FunD K x qual params body scope [] [] f fd) (Sc : FnScope N ps scope)
    (hf : He.fAd K (x, none) = f) (hc : He.codeOf K (x, none) = c)
    (hb : ∀ (cdv : Value) (A : Around) (outer : List PySem.Env) (s : Shared) (H : Hp) (E : XK), cdv = .ref c → Room k (A.deeper (envOfC qual scope s.heap.objs.size f cdv)) →
      JSs (cxOf (L2.CX P w) P w K mg base N qual scope f cdv A outer s H E) ca (fun cls d _ H => E cls d H) body b) : FnOk P w K mg base (L2.CX P w) (k + 1) f fd ps (spJ K ca ps.length (runF N.length b)) := by
  obtain ⟨oc, od, dV, kV, doc, pm, an, cdv, ct, osl, rfl, lk, hcd, _, _⟩ := F.ex
  obtain ⟨c', rfl⟩ := He.codeIn_ref hcd
  have ec : c' = c := by rw [← hc]; exact (He.codeOf_eq (by rw [hf]; exact lk) rfl).symm
  refine fn_of lk hcd Sc (fun vs H Q E ⟨ι, ds, s, hr, hm, hl, h⟩ => by rw [← hr.length, hl]) (fun A outer s H vs Q E hr h => ⟨_, hb (.ref c') A outer s H E (by rw [ec]) hr, ?_⟩)
  obtain ⟨ι, ds, s', hrs, hm, hl, h⟩ := h
  refine ⟨ι, _, s', relS_start N hrs, hm, ?_⟩
  unfold runF at h
  cases e : b (ds.map some ++ List.replicate (N.length - ds.length) none) s' with
  | err y s1 => rw [e] at h; exact fun ι' cv dd H' σ' l m q => h ι' cv dd H' l m q
  | no => rw [e] at h; exact h
  | ok fl s1 =>
    rw [e] at h
    cases fl with
    | rt d => exact h
    | nx ρ => exact fun ι' σ' H' l m r => h ι' .non H' l m .non
    | bk ρ => exact h.elim
    | ct ρ => exact h.elim
theorem pass_none {P : Program} {w : World} {H : Hp} {s : Shared} {e : Value} {s' : Shared} (h : L2.CX P w [] H s (fun _ _ _ => False) e s') : False := by
  obtain ⟨_, _, _, _, _, _, _, _, _, _, _, _, z⟩ := h
  exact z.elim
/-- what the end asks of a law: for every script of at most 63 ints its mirror gives True -/
theorem spJ_law {K : PySem.W.Frag} {ca : Ct} {F : List D → S → R D} {H : Hp} {a : Addr} {ns : List Int} (hT : ∀ p ∈ ca.T, H p.1 = some (.tbl #[])) (hS : SqL K H a (ns.map V.int)) (h : ∃ s', F [.frz (ns.map D.int)] [] = .ok (.bl true) s') :
    spJ K ca 1 F [.ref a] H (fun v _ => v = .bl true) (fun _ _ _ => False) := by
  obtain ⟨s', h⟩ := h
  have ri : ∀ ns : List Int, Reps K ⟨[], []⟩ H (ns.map D.int) (ns.map V.int) := fun ns => by
    induction ns with
    | nil => exact .nil
    | cons n ns ih => exact .cons (.int n) ih
  have r : Rep K ⟨[], []⟩ H (.frz (ns.map D.int)) (.ref a) := by
    rcases hS with (h1 | ⟨o, h1⟩) | h1
    · exact .frz2 h1 (by simp) (ri ns)
    · exact .frz (.inl ⟨o, h1⟩) (ri ns)
    · exact .frz (.inr h1) (ri ns)
  refine ⟨⟨[], []⟩, [.frz (ns.map D.int)], [], .cons r .nil, ⟨rfl, List.nodup_nil, (fun _ h => (List.not_mem_nil h).elim), (fun _ h => (List.not_mem_nil h).elim), (fun p hp => ⟨#[], hT p hp, List.not_mem_nil, trivial, fun pos cv hc => ?_⟩), (fun n a o h => (nomatch (show ([] : List Addr)[n]? = some a from h)))⟩, rfl, ?_⟩
  · have z : codeAmong pos [] = some cv := hc
    simp [codeAmong] at z
  · rw [h]
    intro ι' v H' l m q
    cases q
    rfl
end J


set_option Elab.async false
set_option linter.all false
set_option maxRecDepth 100000
set_option maxHeartbeats 4000000
/-! J7: plain lemmas about the mirrors' words. -/
namespace J
open PySem L2

theorem lcLoop_pure {t : TD} {gt : GT} {ge : GE} {ρ : Env} {s : S} (p : D → Bool) (f : D → D) : ∀ xs : List D, (∀ x ∈ xs, ∃ ρ1, t x ρ = some ρ1 ∧ gt ρ1 s = .ok (p x) s ∧ (p x = true → ge ρ1 s = .ok (f x) s)) → lcLoop t gt ge ρ xs s = .ok ((xs.filter p).map f) s
  | [], _ => rfl
  | x :: xs, h => by
    obtain ⟨ρ1, h1, h2, h3⟩ := h x List.mem_cons_self
    have ih := lcLoop_pure p f xs fun y hy => h y (List.mem_cons_of_mem _ hy)
    unfold lcLoop
    rw [h1]
    simp only [h2, noErr, R.bind_ok]
    cases e : p x with
    | true =>
      simp only [if_true, h3 e, ih, R.bind_ok]
      rw [List.filter_cons_of_pos e]; rfl
    | false =>
      simp only [Bool.false_eq_true, if_false, ih]
      rw [List.filter_cons_of_neg (by rw [e]; exact Bool.false_ne_true)]
/-- the whole comprehension, of a thing that changes nothing -/
theorem gLc_pure {own : List Nat} {gi : GA} {t : TD} {gt : GT} {ge : GE} {ρ : Env} {s s1 : S} {xs : List D} (p : D → Bool) (f : D → D) (hi : gi ρ s = .ok xs s1) (hl : xs.length ≤ 16777216)
    (h : ∀ x ∈ xs, ∃ ρ1, t x (wipeD own ρ) = some ρ1 ∧ gt ρ1 s1 = .ok (p x) s1 ∧ (p x = true → ge ρ1 s1 = .ok (f x) s1)) : gLc own gi t gt ge ρ s = .ok (.lst ((xs.filter p).map f)) s1 := by
  unfold gLc
  rw [hi]
  simp only [R.bind_ok]
  rw [if_pos (by simpa [fitL] using hl), lcLoop_pure p f xs h]
  rfl
theorem eqD_str (s : S) (a b : Str) (ha : PyData.strOk a = true) (hb : PyData.strOk b = true) : eqD s (.str a) (.str b) = some (a == b) := by simp [eqD, deref, D.toPy, SeqAt.shaped, PyData.canLay0, PyData.depth, PyData.eqv, ha, hb]
@[simp] theorem eqD_int (s : S) (a b : Int) : eqD s (.int a) (.int b) = some (a == b) := by simp [eqD, deref, D.toPy, SeqAt.shaped, PyData.canLay0, PyData.depth, PyData.eqv]
@[simp] theorem eqD_bl (s : S) (a b : Bool) : eqD s (.bl a) (.bl b) = some (a == b) := by simp [eqD, deref, D.toPy, SeqAt.shaped, PyData.canLay0, PyData.depth, PyData.eqv]
@[simp] theorem eqD_non (s : S) : eqD s .non .non = some true := by simp [eqD, deref, D.toPy, SeqAt.shaped, PyData.canLay0, PyData.depth, PyData.eqv]
@[simp] theorem eqD_non_int (s : S) (a : Int) : eqD s .non (.int a) = some false := by simp [eqD, deref, D.toPy, SeqAt.shaped, PyData.canLay0, PyData.depth, PyData.eqv]
@[simp] theorem eqD_int_non (s : S) (a : Int) : eqD s (.int a) .non = some false := by simp [eqD, deref, D.toPy, SeqAt.shaped, PyData.canLay0, PyData.depth, PyData.eqv]
theorem toPys_ints : ∀ ns : List Int, D.toPys (ns.map D.int) = some (ns.map PyData.int)
  | [] => rfl
  | n :: ns => by simp [D.toPys, D.toPy, toPys_ints ns]
theorem shaped_ints (ns : List Int) : SeqAt.shaped (.list (ns.map PyData.int)) = true := by
  have h1 : ∀ ns : List Int, PyData.canLayAll0 (ns.map PyData.int) = true := fun ns => by
    induction ns with
    | nil => simp [PyData.canLayAll0]
    | cons n ns ih => simp [PyData.canLayAll0, PyData.canLay0, ih]
  have h2 : ∀ ns : List Int, PyData.depthAll (ns.map PyData.int) ≤ 0 := fun ns => by
    induction ns with
    | nil => simp [PyData.depthAll]
    | cons n ns ih => simp [PyData.depthAll, PyData.depth] at ih ⊢; omega
  simp only [SeqAt.shaped, Bool.and_eq_true, decide_eq_true_eq]
  refine ⟨by simpa [PyData.canLay0] using h1 ns, ?_⟩
  have := h2 ns
  simp only [PyData.depth]
  omega
theorem eqvAll_ints : ∀ ns ms : List Int, PyData.eqvAll (ns.map PyData.int) (ms.map PyData.int) = (ns == ms)
  | [], [] => by simp [PyData.eqvAll]
  | [], m :: ms => by simp [PyData.eqvAll]
  | n :: ns, [] => by simp [PyData.eqvAll]
  | n :: ns, m :: ms => by simp [PyData.eqvAll, PyData.eqv, eqvAll_ints ns ms]
theorem eqD_ints (s : S) (ns ms : List Int) : eqD s (.lst (ns.map D.int)) (.lst (ms.map D.int)) = some (ns == ms) := by
  simp only [eqD, deref, D.toPy, toPys_ints, Option.map_some, shaped_ints, Bool.and_self, if_true]
  simp [PyData.eqv, eqvAll_ints]
/-! ### the words, applied -/
inductive Dm {γ : Type} (k : γ) : Type | mk
/-- bind, so that simp looks at its first part alone -/
def R.bd {α β : Type} (r : R α) (k : α → S → R β) (_ : Dm k) : R β := r.bind k
@[simp] theorem R.bd_ok {α β : Type} (a : α) (s : S) (k : α → S → R β) (u : Dm k) : (R.ok a s).bd k u = k a s := id rfl
@[simp] theorem R.bd_err {α β : Type} (e : Ex) (s : S) (k : α → S → R β) (u : Dm k) : (R.err e s).bd k u = .err e s := id rfl
@[simp] theorem R.bd_no {α β : Type} (k : α → S → R β) (u : Dm k) : (R.no : R α).bd k u = .no := id rfl
@[simp] theorem ap_var (i : Nat) (ρ : Env) (s : S) : gVar i ρ s = match ρ[i]? with | some (some d) => .ok d s | _ => .no := id rfl
@[simp] theorem ap_C (d : D) (ρ : Env) (s : S) : gC d ρ s = .ok d s := id rfl
@[simp] theorem ap_op2 (f : S → D → D → Option D) (ga gb : GE) (ρ : Env) (s : S) : gOp2 f ga gb ρ s = (ga ρ s).bd (fun x s1 => (gb ρ s1).bd (fun y s2 => R.ofO (f s2 x y) s2) .mk) .mk := id rfl
@[simp] theorem ap_B (g : GE) (ρ : Env) (s : S) : gB g ρ s = (g ρ s).bd (fun d s1 => match d with | .bl b => .ok b s1 | _ => .no) .mk := id rfl
@[simp] theorem ap_chain (f f' : S → D → D → Option D) (ga gb gc : GE) (ρ : Env) (s : S) : gChain f f' ga gb gc ρ s = (ga ρ s).bd (fun x s1 => (gb ρ s1).bd (fun y s2 => (R.ofO (f s2 x y) s2).bd (fun z s3 => match z with
  | .bl true => (gc ρ s3).bd (fun w s4 => R.ofO (f' s4 y w) s4) .mk
  | .bl false => .ok (.bl false) s3
  | _ => .no) .mk) .mk) .mk := id rfl
@[simp] theorem ap_not (t : GT) (ρ : Env) (s : S) : gNot t ρ s = (t ρ s).bd (fun b s1 => .ok (!b) s1) .mk := id rfl
@[simp] theorem ap_and (t u : GT) (ρ : Env) (s : S) : gAnd t u ρ s = (t ρ s).bd (fun b s1 => if b then u ρ s1 else .ok false s1) .mk := id rfl
@[simp] theorem ap_or (t u : GT) (ρ : Env) (s : S) : gOr t u ρ s = (t ρ s).bd (fun b s1 => if b then .ok true s1 else u ρ s1) .mk := id rfl
@[simp] theorem ap_andV (ga gb : GE) (ρ : Env) (s : S) : gAndV ga gb ρ s = (ga ρ s).bd (fun d s1 => match d with | .bl true => gb ρ s1 | .bl false => .ok (.bl false) s1 | _ => .no) .mk := id rfl
@[simp] theorem ap_orV (ga gb : GE) (ρ : Env) (s : S) : gOrV ga gb ρ s = (ga ρ s).bd (fun d s1 => match d with | .bl true => .ok (.bl true) s1 | .bl false => gb ρ s1 | _ => .no) .mk := id rfl
@[simp] theorem ap_notV (ga : GE) (ρ : Env) (s : S) : gNotV ga ρ s = (ga ρ s).bd (fun d s1 => match d with | .bl b => .ok (.bl !b) s1 | _ => .no) .mk := id rfl
@[simp] theorem ap_if (t : GT) (ga gb : GE) (ρ : Env) (s : S) : gIf t ga gb ρ s = (t ρ s).bd (fun b s1 => if b then ga ρ s1 else gb ρ s1) .mk := id rfl
@[simp] theorem ap_neg (ga : GE) (ρ : Env) (s : S) : gNeg ga ρ s = (ga ρ s).bd (fun d s1 => match d with | .int i => .ok (.int (-i)) s1 | _ => .no) .mk := id rfl
@[simp] theorem ap_nil (ρ : Env) (s : S) : gaNil ρ s = .ok [] s := id rfl
@[simp] theorem ap_cons (g : GE) (r : GA) (ρ : Env) (s : S) : gaCons g r ρ s = (g ρ s).bd (fun d s1 => (r ρ s1).bd (fun ds s2 => .ok (d :: ds) s2) .mk) .mk := id rfl
@[simp] theorem ap_tup (g : GA) (ρ : Env) (s : S) : gTup g ρ s = (g ρ s).bd (fun ds s1 => if fitL ds.length then .ok (.tup ds) s1 else .no) .mk := id rfl
@[simp] theorem ap_lst (g : GA) (ρ : Env) (s : S) : gLst g ρ s = (g ρ s).bd (fun ds s1 => if fitL ds.length then .ok (.lst ds) s1 else .no) .mk := id rfl
@[simp] theorem ap_lstM (g : GA) (ρ : Env) (s : S) : gLstM g ρ s = (g ρ s).bd (fun ds s1 => if fitL ds.length then .ok (.obj s1.length) (s1 ++ [.lst ds]) else .no) .mk := id rfl
@[simp] theorem ap_F (f : S → List D → Option D) (gr : GA) (ρ : Env) (s : S) : gF f gr ρ s = (gr ρ s).bd (fun ds s1 => R.ofO (f s1 ds) s1) .mk := id rfl
@[simp] theorem ap_call (n : Nat) (F : List D → S → R D) (gr : GA) (ρ : Env) (s : S) : gCall n F gr ρ s = (gr ρ s).bd (fun ds s1 => if ds.length = n then F ds s1 else .no) .mk := id rfl
@[simp] theorem ap_sl (g : GE) (lo hi : GO) (ρ : Env) (s : S) : gSl g lo hi ρ s = (g ρ s).bd (fun x s1 => (lo ρ s1).bd (fun l s2 => (hi ρ s2).bd (fun h s3 => R.ofO (fSl s3 x l h) s3) .mk) .mk) .mk := id rfl
@[simp] theorem ap_goNone (ρ : Env) (s : S) : goNone ρ s = .ok none s := id rfl
@[simp] theorem ap_goSome (g : GE) (ρ : Env) (s : S) : goSome g ρ s = (g ρ s).bd (fun d s1 => match d with | .int i => .ok (some i) s1 | _ => .no) .mk := id rfl
@[simp] theorem ap_dictC (kvs : List (Str × Str)) (gk : GE) (ρ : Env) (s : S) : gDictC kvs gk ρ s = (gk ρ s).bd (fun d s1 => match d with | .str x => R.ofO (dictV kvs x) s1 | _ => .no) .mk := id rfl
@[simp] theorem ap_items (g : GE) (ρ : Env) (s : S) : gItems g ρ s = (g ρ s).bd (fun d s1 => R.ofO (itemsF d) s1) .mk := id rfl
@[simp] theorem ap_range1 (gr : GA) (ρ : Env) (s : S) : gRange1 gr ρ s = (gr ρ s).bd (fun ds s1 => match ds with | [.int j] => if okR j then .ok (rangeD 0 j) s1 else .no | _ => .no) .mk := id rfl
@[simp] theorem ap_range2 (gr : GA) (ρ : Env) (s : S) : gRange2 gr ρ s = (gr ρ s).bd (fun ds s1 => match ds with | [.int i, .int j] => if okR i && okR j then .ok (rangeD i j) s1 else .no | _ => .no) .mk := id rfl
@[simp] theorem ap_lc (own : List Nat) (gi : GA) (t : TD) (gt : GT) (ge : GE) (ρ : Env) (s : S) : gLc own gi t gt ge ρ s = (gi ρ s).bd (fun ds s1 => if fitL ds.length then (lcLoop t gt ge (wipeD own ρ) ds s1).bd (fun ys s2 => .ok (.lst ys) s2) .mk else .no) .mk := id rfl
@[simp] theorem ap_yes (ρ : Env) (s : S) : gYes ρ s = .ok true s := id rfl
@[simp] theorem ap_next (ρ : Env) (s : S) : sNext ρ s = .ok (.nx ρ) s := id rfl
@[simp] theorem ap_seq (a b : GS) (ρ : Env) (s : S) : sSeq a b ρ s = (a ρ s).bd (fun f s1 => match f with | .nx ρ1 => b ρ1 s1 | f => .ok f s1) .mk := id rfl
@[simp] theorem ap_expr (g : GE) (ρ : Env) (s : S) : sExpr g ρ s = (g ρ s).bd (fun _ s1 => .ok (.nx ρ) s1) .mk := id rfl
@[simp] theorem ap_ret (g : GE) (ρ : Env) (s : S) : sRet g ρ s = (g ρ s).bd (fun d s1 => .ok (.rt d) s1) .mk := id rfl
@[simp] theorem ap_asg (g : GE) (t : TD) (ρ : Env) (s : S) : sAsg g t ρ s = (g ρ s).bd (fun d s1 => match t d ρ with | some ρ1 => .ok (.nx ρ1) s1 | none => .no) .mk := id rfl
@[simp] theorem ap_sif (t : GT) (a b : GS) (ρ : Env) (s : S) : sIf t a b ρ s = (t ρ s).bd (fun k s1 => if k then a ρ s1 else b ρ s1) .mk := id rfl
@[simp] theorem ap_par (i j : Nat) (gr : GA) (ρ : Env) (s : S) : sPar i j gr ρ s = (gr ρ s).bd (fun ds s1 => match ds with | [d, e] => .ok (.nx ((ρ.set i (some d)).set j (some e))) s1 | _ => .no) .mk := id rfl
@[simp] theorem ap_for (t : TD) (gi : GA) (b : GS) (ρ : Env) (s : S) : sFor t gi b ρ s = (gi ρ s).bd (fun ds s1 => forLoop t b ds ρ s1) .mk := id rfl
@[simp] theorem ap_raise (c : Nat) (ρ : Env) (s : S) : sRaise c ρ s = .err ⟨c, none⟩ s := id rfl
@[simp] theorem ap_setIx (ge go gi : GE) (ρ : Env) (s : S) : sSetIx ge go gi ρ s = (ge ρ s).bd (fun x s1 => (go ρ s1).bd (fun o s2 => (gi ρ s2).bd (fun i s3 => match putL s3 o i x with
  | some s4 => .ok (.nx ρ) s4
  | none => .no) .mk) .mk) .mk := id rfl
@[simp] theorem ap_dName (i : Nat) (d : D) (ρ : Env) : dName i d ρ = some (ρ.set i (some d)) := id rfl
@[simp] theorem ap_dsNil (ρ : Env) : dsNil [] ρ = some ρ := id rfl
@[simp] theorem ap_dsCons (t : TD) (r : List D → Env → Option Env) (d : D) (ds : List D) (ρ : Env) : dsCons t r (d :: ds) ρ = (t d ρ).bind (r ds) := id rfl
@[simp] theorem ap_dTup (n : Nat) (t : List D → Env → Option Env) (ds : List D) (ρ : Env) : dTup n t (.tup ds) ρ = if ds.length = n then t ds ρ else none := id rfl
@[simp] theorem ap_run (n : Nat) (b : GS) (ds : List D) (s : S) : runF n b ds s = (b (ds.map some ++ List.replicate (n - ds.length) none) s).bd (fun f s1 => match f with
  | .rt d => .ok d s1
  | .nx _ => .ok .non s1
  | _ => .no) .mk := id rfl
@[simp] theorem ap_fEq (s : S) (x y : D) : fEq s x y = (eqD s x y).map .bl := id rfl
@[simp] theorem ap_fNe (s : S) (x y : D) : fNe s x y = (eqD s x y).map fun b => .bl !b := id rfl
@[simp] theorem ap_fIn (s : S) (x y : D) : fIn s x y = (inD s x y).map .bl := id rfl
@[simp] theorem ap_fNotIn (s : S) (x y : D) : fNotIn s x y = (inD s x y).map fun b => .bl !b := id rfl
@[simp] theorem ap_fIs (s : S) (x y : D) : fIs s x y = (isD x y).map .bl := id rfl
@[simp] theorem ap_fIsN (s : S) (x y : D) : fIsN s x y = (isD x y).map fun b => .bl !b := id rfl
@[simp] theorem ap_subI (s : S) (i j : Int) : fSub s (.int i) (.int j) = some (.int (i - j)) := id rfl
@[simp] theorem ap_addI (s : S) (i j : Int) : fAdd s (.int i) (.int j) = some (.int (i + j)) := id rfl
@[simp] theorem ap_addS (s : S) (i j : Str) : fAdd s (.str i) (.str j) = if fitL (i.length + j.length) then some (.str (i ++ j)) else none := id rfl
@[simp] theorem ap_ltI (s : S) (i j : Int) : fLt s (.int i) (.int j) = some (.bl (decide (i < j))) := id rfl
@[simp] theorem ap_leI (s : S) (i j : Int) : fLe s (.int i) (.int j) = some (.bl (decide (i ≤ j))) := id rfl
@[simp] theorem ap_gtI (s : S) (i j : Int) : fGt s (.int i) (.int j) = some (.bl (decide (j < i))) := id rfl
@[simp] theorem ap_geI (s : S) (i j : Int) : fGe s (.int i) (.int j) = some (.bl (decide (j ≤ i))) := id rfl
@[simp] theorem ap_isNN : isD .non .non = some true := id rfl
@[simp] theorem ap_isI (i : Int) : isD (.int i) .non = some false := id rfl
@[simp] theorem ap_isS (i : Str) : isD (.str i) .non = some false := id rfl
@[simp] theorem ap_isT (i : List D) : isD (.tup i) .non = some false := id rfl
@[simp] theorem ap_isL (i : List D) : isD (.lst i) .non = some false := id rfl
@[simp] theorem ap_isB (i : Bool) : isD (.bl i) .non = some false := id rfl
@[simp] theorem ap_idxT (s : S) (ds : List D) (i : Int) : fIdx s (.tup ds) (.int i) = atI ds i := id rfl
@[simp] theorem ap_idxL (s : S) (ds : List D) (i : Int) : fIdx s (.lst ds) (.int i) = atI ds i := id rfl
@[simp] theorem ap_idxZ (s : S) (ds : List D) (i : Int) : fIdx s (.frz ds) (.int i) = atI ds i := id rfl
@[simp] theorem ap_lenT (s : S) (ds : List D) : fLen s (.tup ds) = some (.int ds.length) := id rfl
@[simp] theorem ap_lenL (s : S) (ds : List D) : fLen s (.lst ds) = some (.int ds.length) := id rfl
@[simp] theorem ap_lenZ (s : S) (ds : List D) : fLen s (.frz ds) = some (.int ds.length) := id rfl
@[simp] theorem ap_f1 (f : S → D → Option D) (s : S) (x : D) : f1 f s [x] = f s x := id rfl
@[simp] theorem ap_int (s : S) (i : Int) : fInt s (.int i) = some (.int i) := id rfl
@[simp] theorem ap_tupT (s : S) (ds : List D) : fTuple s (.tup ds) = some (.tup ds) := id rfl
@[simp] theorem ap_tupL (s : S) (ds : List D) : fTuple s (.lst ds) = some (.tup ds) := id rfl
@[simp] theorem ap_slT (s : S) (ds : List D) (lo hi : Option Int) : fSl s (.tup ds) lo hi = some (.tup (cutD ds lo hi)) := id rfl
@[simp] theorem ap_slL (s : S) (ds : List D) (lo hi : Option Int) : fSl s (.lst ds) lo hi = some (.lst (cutD ds lo hi)) := id rfl
@[simp] theorem ap_itT (ds : List D) : itemsF (.tup ds) = some ds := id rfl
@[simp] theorem ap_itL (ds : List D) : itemsF (.lst ds) = some ds := id rfl
@[simp] theorem atI_zero (d : D) (ds : List D) : atI (d :: ds) 0 = some d := by
  have : ixN (ds.length + 1) 0 = some 0 := by simp [ixN]
  simp [atI, this]
theorem atI_nat (ds : List D) (k : Nat) (h : k < ds.length) : atI ds (k : Int) = some ds[k] := by
  have : ixN ds.length (k : Int) = some k := by simp [ixN, h]
  simp [atI, this, h]

theorem strs_toPys : ∀ xs : List Str, D.toPys (xs.map D.str) = some (xs.map PyData.str)
  | [] => rfl
  | x :: xs => by simp [D.toPys, D.toPy, strs_toPys xs]
theorem canAll_strs : ∀ xs : List Str, (∀ x ∈ xs, PyData.strOk x = true) → PyData.canLayAll0 (xs.map PyData.str) = true
  | [], _ => by simp [PyData.canLayAll0]
  | x :: xs, h => by simp [PyData.canLayAll0, PyData.canLay0, h x List.mem_cons_self, canAll_strs xs fun y hy => h y (List.mem_cons_of_mem _ hy)]
theorem depthAll_strs : ∀ xs : List Str, PyData.depthAll (xs.map PyData.str) ≤ 0
  | [] => by simp [PyData.depthAll]
  | x :: xs => by have := depthAll_strs xs; simp [PyData.depthAll, PyData.depth] at this ⊢; omega
theorem shaped_strs (xs : List Str) (h : ∀ x ∈ xs, PyData.strOk x = true) : SeqAt.shaped (.tuple (xs.map PyData.str)) = true ∧ SeqAt.shaped (.list (xs.map PyData.str)) = true := by
  have a := canAll_strs xs h
  have b := depthAll_strs xs
  refine ⟨?_, ?_⟩ <;>
  · simp only [SeqAt.shaped, PyData.canLay0, PyData.depth, Bool.and_eq_true, decide_eq_true_eq]
    exact ⟨a, decide_eq_true (by show PyData.depthAll _ + 1 ≤ 64; omega)⟩
theorem any_strs (x : Str) (xs : List Str) : ((xs.map PyData.str).any fun z => PyData.eqv z (PyData.str x)) = xs.any (· == x) := by
  simp [List.any_map, Function.comp_def, PyData.eqv]
theorem inD_tup (s : S) (x : Str) (xs : List Str) (hx : PyData.strOk x = true) (h : ∀ x ∈ xs, PyData.strOk x = true) : inD s (.str x) (.tup (xs.map D.str)) = some (xs.any (· == x)) := by
  have h1 : SeqAt.shaped (.str x) = true := by simp [SeqAt.shaped, PyData.canLay0, PyData.depth, hx]
  simp only [inD, D.toPy, strs_toPys, h1, (shaped_strs xs h).1, Bool.and_self, if_true, any_strs]
theorem inD_lst (s : S) (x : Str) (xs : List Str) (hx : PyData.strOk x = true) (h : ∀ x ∈ xs, PyData.strOk x = true) : inD s (.str x) (.lst (xs.map D.str)) = some (xs.any (· == x)) := by
  have h1 : SeqAt.shaped (.str x) = true := by simp [SeqAt.shaped, PyData.canLay0, PyData.depth, hx]
  simp only [inD, itemsL, D.toPy, strs_toPys, h1, (shaped_strs xs h).2, Bool.and_self, if_true, any_strs]
@[simp] theorem kn_NoneType : known "NoneType" = true := by decide +kernel
@[simp] theorem isT_NoneType_NoneType : isT "NoneType" "NoneType" = true := by decide +kernel
@[simp] theorem isT_NoneType_bool : isT "NoneType" "bool" = false := by decide +kernel
@[simp] theorem isT_NoneType_int : isT "NoneType" "int" = false := by decide +kernel
@[simp] theorem isT_NoneType_str : isT "NoneType" "str" = false := by decide +kernel
@[simp] theorem isT_NoneType_tuple : isT "NoneType" "tuple" = false := by decide +kernel
@[simp] theorem isT_NoneType_list : isT "NoneType" "list" = false := by decide +kernel
@[simp] theorem isT_NoneType_dict : isT "NoneType" "dict" = false := by decide +kernel
@[simp] theorem kn_bool : known "bool" = true := by decide +kernel
@[simp] theorem isT_bool_NoneType : isT "bool" "NoneType" = false := by decide +kernel
@[simp] theorem isT_bool_bool : isT "bool" "bool" = true := by decide +kernel
@[simp] theorem isT_bool_int : isT "bool" "int" = true := by decide +kernel
@[simp] theorem isT_bool_str : isT "bool" "str" = false := by decide +kernel
@[simp] theorem isT_bool_tuple : isT "bool" "tuple" = false := by decide +kernel
@[simp] theorem isT_bool_list : isT "bool" "list" = false := by decide +kernel
@[simp] theorem isT_bool_dict : isT "bool" "dict" = false := by decide +kernel
@[simp] theorem kn_int : known "int" = true := by decide +kernel
@[simp] theorem isT_int_NoneType : isT "int" "NoneType" = false := by decide +kernel
@[simp] theorem isT_int_bool : isT "int" "bool" = false := by decide +kernel
@[simp] theorem isT_int_int : isT "int" "int" = true := by decide +kernel
@[simp] theorem isT_int_str : isT "int" "str" = false := by decide +kernel
@[simp] theorem isT_int_tuple : isT "int" "tuple" = false := by decide +kernel
@[simp] theorem isT_int_list : isT "int" "list" = false := by decide +kernel
@[simp] theorem isT_int_dict : isT "int" "dict" = false := by decide +kernel
@[simp] theorem kn_str : known "str" = true := by decide +kernel
@[simp] theorem isT_str_NoneType : isT "str" "NoneType" = false := by decide +kernel
@[simp] theorem isT_str_bool : isT "str" "bool" = false := by decide +kernel
@[simp] theorem isT_str_int : isT "str" "int" = false := by decide +kernel
@[simp] theorem isT_str_str : isT "str" "str" = true := by decide +kernel
@[simp] theorem isT_str_tuple : isT "str" "tuple" = false := by decide +kernel
@[simp] theorem isT_str_list : isT "str" "list" = false := by decide +kernel
@[simp] theorem isT_str_dict : isT "str" "dict" = false := by decide +kernel
@[simp] theorem kn_tuple : known "tuple" = true := by decide +kernel
@[simp] theorem isT_tuple_NoneType : isT "tuple" "NoneType" = false := by decide +kernel
@[simp] theorem isT_tuple_bool : isT "tuple" "bool" = false := by decide +kernel
@[simp] theorem isT_tuple_int : isT "tuple" "int" = false := by decide +kernel
@[simp] theorem isT_tuple_str : isT "tuple" "str" = false := by decide +kernel
@[simp] theorem isT_tuple_tuple : isT "tuple" "tuple" = true := by decide +kernel
@[simp] theorem isT_tuple_list : isT "tuple" "list" = false := by decide +kernel
@[simp] theorem isT_tuple_dict : isT "tuple" "dict" = false := by decide +kernel
@[simp] theorem kn_list : known "list" = true := by decide +kernel
@[simp] theorem isT_list_NoneType : isT "list" "NoneType" = false := by decide +kernel
@[simp] theorem isT_list_bool : isT "list" "bool" = false := by decide +kernel
@[simp] theorem isT_list_int : isT "list" "int" = false := by decide +kernel
@[simp] theorem isT_list_str : isT "list" "str" = false := by decide +kernel
@[simp] theorem isT_list_tuple : isT "list" "tuple" = false := by decide +kernel
@[simp] theorem isT_list_list : isT "list" "list" = true := by decide +kernel
@[simp] theorem isT_list_dict : isT "list" "dict" = false := by decide +kernel
@[simp] theorem kn_dict : known "dict" = true := by decide +kernel
@[simp] theorem isT_dict_NoneType : isT "dict" "NoneType" = false := by decide +kernel
@[simp] theorem isT_dict_bool : isT "dict" "bool" = false := by decide +kernel
@[simp] theorem isT_dict_int : isT "dict" "int" = false := by decide +kernel
@[simp] theorem isT_dict_str : isT "dict" "str" = false := by decide +kernel
@[simp] theorem isT_dict_tuple : isT "dict" "tuple" = false := by decide +kernel
@[simp] theorem isT_dict_list : isT "dict" "list" = false := by decide +kernel
@[simp] theorem isT_dict_dict : isT "dict" "dict" = true := by decide +kernel
@[simp] theorem fIsi1 (s : S) (x : D) (c : String) : fIsi s [x, .ty c] = (tyD s x).bind fun t => if known c then some (.bl (isT t c)) else none := id rfl
@[simp] theorem fIsi2 (s : S) (x : D) (cs : List D) : fIsi s [x, .tup cs] = (tyD s x).bind fun t => (tysD cs).bind fun ns => if ns.all known then some (.bl (ns.any (isT t))) else none := id rfl
@[simp] theorem tysD_nil : tysD [] = some [] := id rfl
@[simp] theorem tysD_cons (n : String) (ds : List D) : tysD (.ty n :: ds) = (tysD ds).map (n :: ·) := id rfl
@[simp] theorem tyD_non (s : S) : tyD s .non = some "NoneType" := id rfl
@[simp] theorem tyD_bl (s : S) (b : Bool) : tyD s (.bl b) = some "bool" := id rfl
@[simp] theorem tyD_int (s : S) (b : Int) : tyD s (.int b) = some "int" := id rfl
@[simp] theorem tyD_str (s : S) (b : Str) : tyD s (.str b) = some "str" := id rfl
@[simp] theorem tyD_tup (s : S) (b : List D) : tyD s (.tup b) = some "tuple" := id rfl
@[simp] theorem tyD_lst (s : S) (b : List D) : tyD s (.lst b) = some "list" := id rfl
@[simp] theorem tyD_frz (s : S) (b : List D) : tyD s (.frz b) = some "list" := id rfl
theorem blsD_true {α : Type} : ∀ xs : List α, blsD (xs.map fun _ => D.bl true) = some (xs.map fun _ => true)
  | [] => rfl
  | x :: xs => by simp [blsD, blsD_true xs]
@[simp] theorem fAll_true {α : Type} (s : S) (xs : List α) : fAll s (.lst (xs.map fun _ => D.bl true)) = some (.bl true) := by
  simp [fAll, itemsL, blsD_true, List.all_map]
/-- a comprehension that says True of each -/
theorem lcLoop_all {t : TD} {ge : GE} {ρ : Env} {s : S} : ∀ xs : List D, (∀ x ∈ xs, ∃ ρ1, t x ρ = some ρ1 ∧ ge ρ1 s = .ok (.bl true) s) → lcLoop t gYes ge ρ xs s = .ok (xs.map fun _ => .bl true) s := fun xs h => by
  rw [lcLoop_pure (fun _ => true) (fun _ => .bl true) xs fun x hx => by
    obtain ⟨ρ1, h1, h2⟩ := h x hx
    exact ⟨ρ1, h1, rfl, fun _ => h2⟩]
  rw [List.filter_eq_self.mpr fun _ _ => rfl]

@[simp] theorem ap_wipe0 (ρ : Env) : wipeD [] ρ = ρ := id rfl
@[simp] theorem ap_wipe1 (v : Nat) (vs : List Nat) (ρ : Env) : wipeD (v :: vs) ρ = (wipeD vs ρ).set v none := id rfl
@[simp] theorem ap_fitL (n : Nat) : fitL n = decide (n ≤ 16777216) := id rfl
end J


set_option Elab.async false
set_option linter.all false
set_option maxRecDepth 100000
set_option maxHeartbeats 4000000
/-! J8: texts; append; three names at once; a text walked; a mutable list walked. -/
namespace J
open PySem PySem.Spec L2
section
variable {K : PySem.W.Frag} {ca : Ct} {ι : Wd} {H : Hp} {s : S}
theorem reps_strs : ∀ ys : List Str, Reps K ι H (ys.map D.str) (ys.map V.str)
  | [] => .nil
  | y :: ys => .cons (.str y) (reps_strs ys)
def strsD : List D → Option (List Str)
  | [] => some []
  | .str x :: ds => (strsD ds).map (x :: ·)
  | _ :: _ => none
theorem strsD_eq : ∀ {ds : List D} {ys : List Str}, strsD ds = some ys → ds = ys.map D.str
  | [], _, h => by cases h; rfl
  | .str b :: ds, _, h => by
    simp only [strsD, Option.map_eq_some_iff] at h
    obtain ⟨ys, e, rfl⟩ := h
    rw [strsD_eq e]; rfl
  | .non :: _, _, h => by cases h
  | .bl _ :: _, _, h => by cases h
  | .int _ :: _, _, h => by cases h
  | .ty _ :: _, _, h => by cases h
  | .tup _ :: _, _, h => by cases h
  | .lst _ :: _, _, h => by cases h
  | .frz _ :: _, _, h => by cases h
  | .obj _ :: _, _, h => by cases h
  | .raw _ :: _, _, h => by cases h
theorem strsD_map : ∀ ys : List Str, strsD (ys.map D.str) = some ys
  | [] => rfl
  | y :: ys => by simp [strsD, strsD_map ys]
theorem reps_strsV : ∀ {ys : List Str} {vs : List V}, Reps K ι H (ys.map D.str) vs → vs = ys.map V.str
  | [], _, h => by cases h; rfl
  | y :: ys, _, h => by
    cases h with
    | cons r t => cases r; rw [reps_strsV t]; rfl
end
section
variable {X : Cx} {ca : Ct} {W : WX} {e o : Expr} {es : List Expr} {pos apos : Pos} {g ge go : GE}
/-- a method of a text with one argument -/
def gM1 (f : S → Str → D → Option D) (go ge : GE) : GE := fun ρ s => (go ρ s).bind fun x s1 => match x with
  | .str a => (ge ρ s1).bind fun y s2 => R.ofO (f s2 a y) s2
  | _ => .no
def fSplit (_ : S) (a : Str) : D → Option D
  | .str b => if !(b.length == 0) && fitL (a.length + 2) then some (.lst ((Txt.split a b).map D.str)) else none
  | _ => none
def itemsLT (s : S) : D → Option (List D)
  | .tup ds => some ds
  | y => itemsL s y
def fJoin (s : S) (a : Str) (y : D) : Option D := ((itemsLT s y).bind strsD).bind fun ys => if fitL ((ys.map (·.length)).sum + ys.length * a.length) then some (.str (Txt.join a ys)) else none
theorem je_split (ho : JE X ca W o go) (he : JE X ca W e ge) (hs : starEach [e] X.env = [(false, eval e X.env)] := by rfl) (hbase : attributeBase o "split" X.env (eval o X.env) = eval o X.env := by rfl) (hline : (apos.endLine == pos.line) = true := by rfl) :
    JE X ca W (.Call (.Attribute o "split" apos) [e] [] pos) (gM1 fSplit go ge) :=
  PE.imp (pe_split ho he hs hbase hline) fun σ H Q ⟨ι, ρ, s, hr, hm, h⟩ => bindE famE hr hm h fun ι1 s1 x v H1 l1 hr1 hm1 rx h1 => by
    cases rx with
    | str a =>
      refine ⟨⟨a, rfl⟩, bindE famE hr1 hm1 h1 fun ι2 s2 y u H2 l2 hr2 hm2 ry h2 => ?_⟩
      cases ry with
      | str b =>
        simp only [fSplit] at h2
        split at h2
        · rename_i hc
          simp only [Bool.and_eq_true, Bool.not_eq_true'] at hc
          refine ⟨a, b, rfl, rfl, hc.1, fitL_le hc.2, fun p hp => ?_⟩
          obtain ⟨l, m'⟩ := hm2.new (o := .lst ((Txt.split a b).map V.str)) hp
          exact h2 _ _ _ l m' (.lst upd_same (hm2.ne hp) (reps_strs _))
        · exact h2.elim
      | _ => exact h2.elim
    | _ => exact h1.elim
theorem je_join (ho : JE X ca W o go) (he : JE X ca W e ge) (hs : starEach [e] X.env = [(false, eval e X.env)] := by rfl) (hbase : attributeBase o "join" X.env (eval o X.env) = eval o X.env := by rfl) (hline : (apos.endLine == pos.line) = true := by rfl) :
    JE X ca W (.Call (.Attribute o "join" apos) [e] [] pos) (gM1 fJoin go ge) :=
  PE.imp (pe_join ho he hs hbase hline) fun σ H Q ⟨ι, ρ, s, hr, hm, h⟩ => bindE famE hr hm h fun ι1 s1 x v H1 l1 hr1 hm1 rx h1 => by
    cases rx with
    | str a =>
      refine ⟨⟨a, rfl⟩, bindE famE hr1 hm1 h1 fun ι2 s2 y u H2 l2 hr2 hm2 ry h2 => ?_⟩
      simp only [fJoin] at h2
      cases e1 : itemsLT s2 y with
      | none => rw [e1] at h2; exact h2.elim
      | some ds =>
        have hit : ∃ p vs, u = .ref p ∧ (SqL X.K H2 p vs ∨ SqT X.K H2 p vs) ∧ Reps X.K ι2 H2 ds vs := by
          cases ry with
          | tup h3 h4 => cases e1; exact ⟨_, _, rfl, .inr h3.sq, h4⟩
          | non => cases e1
          | bl _ => cases e1
          | int _ => cases e1
          | str _ => cases e1
          | ty _ => cases e1
          | raw _ => cases e1
          | lst a1 a2 a3 => obtain ⟨p, vs, e, q1, q2⟩ := hm2.items (.lst a1 a2 a3) e1; exact ⟨p, vs, e, .inl q1, q2⟩
          | frz a1 a2 => obtain ⟨p, vs, e, q1, q2⟩ := hm2.items (.frz a1 a2) e1; exact ⟨p, vs, e, .inl q1, q2⟩
          | frz2 a1 a2 a3 => obtain ⟨p, vs, e, q1, q2⟩ := hm2.items (.frz2 a1 a2 a3) e1; exact ⟨p, vs, e, .inl q1, q2⟩
          | obj a1 => obtain ⟨p, vs, e, q1, q2⟩ := hm2.items (.obj a1) e1; exact ⟨p, vs, e, .inl q1, q2⟩
        rw [e1] at h2
        simp only [Option.bind_some] at h2
        cases e2 : strsD ds with
        | none => rw [e2] at h2; exact h2.elim
        | some ys =>
          rw [e2] at h2
          simp only [Option.bind_some] at h2
          have e3 := strsD_eq e2
          subst e3
          split at h2
          · rename_i hc
            obtain ⟨p, vs, rfl, h3, h4⟩ := hit
            rw [reps_strsV h4] at h3
            refine ⟨a, p, ys, rfl, rfl, h3, by simpa [fitL] using hc, h2 _ _ _ .refl hm2 (.str _)⟩
          · exact h2.elim
    | _ => exact h1.elim
/-- o.append(e) -/
def gApp (go ge : GE) : GE := fun ρ s => (go ρ s).bind fun x s1 => match x with
  | .obj n => (match s1[n]? with
    | some (.lst _) => (ge ρ s1).bind fun y s2 => (match s2[n]? with
      | some (.lst ds) => if fitL (ds.length + 1) then .ok .non (s2.set n (.lst (ds ++ [y]))) else .no
      | _ => .no)
    | _ => .no)
  | _ => .no
theorem je_append (ho : JE X ca W o go) (he : JE X ca W e ge) (hbase : attributeBase o "append" X.env (eval o X.env) = eval o X.env := by rfl)
    (hfew : ((backTo pos (starEach [e] X.env)).all (fun x => !x.1) && (backToKw pos (keywordEach [] X.env)).all (fun x => x.1.isSome)
      && decide ([e].length + ([] : List Keyword).length + (if ([] : List Keyword).isEmpty then 0 else 1) < 30)) = true := by rfl)
    (hline : (apos.endLine == pos.line) = true := by rfl) (hs : starEach [e] X.env = (false, eval e X.env) :: starEach [] X.env := by rfl) (hplain : (backTo pos (starEach [] X.env)).any (·.1) = false := by rfl) :
    JE X ca W (.Call (.Attribute o "append" apos) [e] [] pos) (gApp go ge) :=
  PE.imp (pe_bm F.plainAttrs_list F.slot_list_append F.type_list_append mt_append ho (pa_cons he pa_nil hs) hbase hfew hline hs hplain) fun σ H Q ⟨ι, ρ, s, hr, hm, h⟩ => bindE famE hr hm h fun ι1 s1 x v H1 l1 hr1 hm1 rx h1 => by
    cases rx with
    | @obj a n hn =>
      simp only at h1
      split at h1
      · rename_i ds1 hd1
        obtain ⟨vs1, k1, k2⟩ := hm1.ob n a _ hn hd1
        refine ⟨.inl ⟨rfl, vs1, SqL.of k1⟩, bindE famE hr1 hm1 h1 fun ι2 s2 y u H2 l2 hr2 hm2 ry h2 => ?_⟩
        split at h2
        · rename_i ds hds
          split at h2
          · rename_i hc
            have hn2 : ι2.ι[n]? = some a := by
              obtain ⟨t, ht⟩ := l2.toKe.pre
              rw [← ht, List.getElem?_append_left (List.getElem?_eq_some_iff.mp hn).1]; exact hn
            obtain ⟨vs, k3, k4⟩ := hm2.ob n a _ hn2 hds
            have hl := fitL_le hc
            refine ⟨a, vs, u, rfl, rfl, k3, by rw [← k4.length]; omega, ?_⟩
            obtain ⟨l, m'⟩ := hm2.write (o := .lst (vs ++ [u])) (u := .lst (ds ++ [y])) hn2 trivial fun l => ⟨_, upd_same, (k4.mono l).append (.cons (ry.mono l) .nil)⟩
            exact h2 _ _ _ l m' .non
          · exact h2.elim
        · exact h2.elim
      · exact h1.elim
    | _ => exact h1.elim
def fStr (_ : S) : D → Option D
  | .int i => if decide (i.natAbs.log2 < 1920) then some (.str (toString i)) else none
  | .str x => some (.str x)
  | _ => none
theorem cj_str : CallR X (.type "str") (rCJ X.K ca (f1 fStr)) := by
  refine cj1 (call_str_int.or SkE.call_str_str) fun ι s H d v x Q m r hf q => ?_
  cases r <;> simp only [fStr] at hf <;> first | cases hf | skip
  · split at hf
    · rename_i hc
      cases hf
      exact .inl ⟨_, rfl, of_decide_eq_true hc, q _ _ _ .refl m (.str _)⟩
    · cases hf
  · exact .inr ⟨_, rfl, q _ _ _ .refl m (.str _)⟩
def fIntS (_ : S) : D → Option D
  | .str a => if decide (a.length ≤ 640) then (PySem.intText? a).map .int else none
  | _ => none
theorem cj_intS : CallR X (.type "int") (rCJ X.K ca (f1 fIntS)) := by
  refine cj1 call_int_str fun ι s H d v x Q m r hf q => ?_
  cases r <;> simp only [fIntS] at hf <;> first | cases hf | skip
  split at hf
  · rename_i hc
    simp only [Option.map_eq_some_iff] at hf
    obtain ⟨n, hn, rfl⟩ := hf
    exact ⟨_, n, rfl, hn, of_decide_eq_true hc, q _ _ _ .refl m (.int _)⟩
  · cases hf
/-- a, b, c = x, y, z -/
def sPar3 (i j l : Nat) (gr : GA) : GS := fun ρ s => (gr ρ s).bind fun ds s1 => match ds with | [d, e, f] => .ok (.nx (((ρ.set i (some d)).set j (some e)).set l (some f))) s1 | _ => .no
theorem js_par3 (i j l : Nat) {x y z : Str} {a b c : Expr} {gr : GA} {px py pz pt : Pos} {kt k2 pt2} (hc : X.calm = true) (hN : X.N.Nodup) (ha : JA X ca W [a, b, c] gr) (hi : X.N[i]? = some x := by rfl) (hj : X.N[j]? = some y := by rfl) (hl : X.N[l]? = some z := by rfl) (hij : i ≠ j := by decide) (hil : i ≠ l := by decide) (hjl : j ≠ l := by decide)
    (hx : X.env.scope.names.lookup x = some .local := by rfl) (hy : X.env.scope.names.lookup y = some .local := by rfl) (hz : X.env.scope.names.lookup z = some .local := by rfl)
    (hw : swappedStores [.Tuple [.Name x px, .Name y py, .Name z pz] kt pt] (.Tuple [a, b, c] k2 pt2) X.env = pure (some [x, y, z]) := by rfl)
    (hs : swapsWithSole [.Tuple [.Name x px, .Name y py, .Name z pz] kt pt] (.Tuple [a, b, c] k2 pt2) pos.line X.env = pure false := by rfl) :
    JS X ca W (.Assign [.Tuple [.Name x px, .Name y py, .Name z pz] kt pt] (.Tuple [a, b, c] k2 pt2) pos) (sPar3 i j l gr) := PS.imp (ps_par3 hc hN hi hj hl hij hil hjl hx hy hz ha hw hs) fun D σ H ⟨ι, ρ, s, hr, hm, h⟩ =>
  bindA famS hr hm h fun ι1 s1 ds vs H1 l1 hr1 hm1 rs h1 => by
    cases rs with
    | nil => exact h1.elim
    | cons r1 rs =>
      cases rs with
      | nil => exact h1.elim
      | cons r2 rs =>
        cases rs with
        | nil => exact h1.elim
        | cons r3 rs =>
          cases rs with
          | nil => exact ⟨_, _, _, rfl, h1 ι1 _ H1 .refl hm1 (((hr1.set r1 i).set r2 j).set r3 l)⟩
          | cons _ _ => exact h1.elim
/-! ### a text's signs -/
def signs (x : Str) : List D := x.cps.toList.map fun c => D.str ⟨#[c]⟩
def gSigns (g : GE) : GA := fun ρ s => (g ρ s).bind fun d s1 => match d with | .str x => .ok (signs x) s1 | _ => .no
theorem ji_signs {tg : Expr} (h : JE X ca W e g) : JI X ca W tg e (gSigns g) := by
  refine PI.imp (pi_str h) fun σ H R ⟨ι, ρ, s, hr, hm, h⟩ => ?_
  unfold gSigns at h
  cases e : g ρ s with
  | err x s1 =>
    rw [e] at h
    exact ⟨ι, ρ, s, hr, hm, by rw [e]; exact h⟩
  | no => rw [e] at h; exact h.elim
  | ok d s1 =>
    rw [e] at h
    refine ⟨ι, ρ, s, hr, hm, ?_⟩
    rw [e]
    intro ι' v H' l m r
    cases r with
    | str x =>
      refine ⟨x, rfl, h ι' _ H' l m fun ι2 H2 l2 => ⟨fun i d hd => ?_, fun i hi => ?_⟩⟩
      · simp only [signs, List.getElem?_map, Option.map_eq_some_iff] at hd
        obtain ⟨c, hc, rfl⟩ := hd
        have hc' : x.cps[i]? = some c := by rw [← hc]; simp
        refine ⟨?_, fun y H'' ⟨e1, c', hc2, e2⟩ => ⟨e1, ?_⟩⟩
        · have := (Array.getElem?_eq_some_iff.mp hc').1
          exact this
        · rw [hc'] at hc2; cases hc2
          rw [e2]; exact .str _
      · exact (by simpa [signs] using hi : x.cps.size ≤ i)
    | _ => exact h.elim
/-! ### a comprehension over a mutable list, whose part changes nothing -/
def lcM (ge : GE) (i : Nat) (ρ : Env) (s : S) : List D → R (List D)
  | [] => .ok [] s
  | x :: xs => (noErr (ge (ρ.set i (some x)) s)).bind fun y _ => (lcM ge i ρ s xs).bind fun ys _ => .ok (y :: ys) s
def gLcM (i : Nat) (gi ge : GE) : GE := fun ρ s => (gi ρ s).bind fun d s1 => match itemsL s1 d with
  | some ds => if fitL ds.length then (lcM ge i (wipeD [i] ρ) s1 ds).bind fun ys s2 => .ok (.lst ys) s2 else .no
  | none => .no
theorem lcM_st {ge : GE} {i : Nat} {ρ : Env} {s s2 : S} : ∀ {xs ys : List D}, lcM ge i ρ s xs = .ok ys s2 → s2 = s
  | [], _, h => by cases h; rfl
  | x :: xs, ys, h => by
    unfold lcM at h
    cases e : noErr (ge (ρ.set i (some x)) s) with
    | ok y s3 =>
      rw [e] at h
      cases e2 : lcM ge i ρ s xs with
      | ok zs s4 => simp only [R.bind_ok, e2] at h; cases h; rfl
      | err _ _ => simp only [R.bind_ok, e2] at h; cases h
      | no => simp only [R.bind_ok, e2] at h; cases h
    | err _ _ => rw [e] at h; cases h
    | no => rw [e] at h; cases h
theorem je_lcM {elt iter : Expr} {scope : Scope} {i : Nat} {x : Str} {tpos : Pos} {gi ge : GE} (hc : X.calm = true) (hN : X.N.Nodup) (hi : JE X ca W iter gi) (ok : BlkOk X.N X.env.scope scope [(x, i)])
    (hp : ∀ ρ s y s', ge ρ s = .ok y s' → s' = s)
    (hg : ∀ (s : Shared) (H : Hp) (C : Addr) (cl : List (Str × Addr)) (fp : List Addr), PG (X.blk s H scope (compEnvC scope cl C X.env) fp) (.Name x tpos) (gName i))
    (he : ∀ (s : Shared) (H : Hp) (C : Addr) (cl : List (Str × Addr)) (fp : List Addr), JE (X.blk s H scope (compEnvC scope cl C X.env) fp) ca W0 elt ge) (hs : ∀ x, foldedSetIterable iter X.env x = pure x := by intro _; rfl) :
    JE X ca W (.ListComp elt [⟨.Name x tpos, iter, [], 0⟩] scope pos) (gLcM i gi ge) :=
  PE.imp (pe_lc (own := [(x, i)]) (g := gName i) (wi := iList X.K (tG X.K ca W gi)) (tt := tT X.K ca W0 gYes) (te := tG X.K ca W0 ge) hc hN (pi_list hi) ok hg (fun _ _ _ _ _ => jts_nil) he hs) fun σ H Q ⟨ι, ρ, s, hr, hm, h⟩ => bindE famE hr hm h fun ι1 s1 d v H1 l1 hr1 hm1 rd h1 => by
    split at h1
    · rename_i ds hds
      split at h1
      · rename_i hfit
        obtain ⟨a, vs0, rfl, hsq, hreps⟩ := hm1.items rd hds
        refine ⟨a, rfl, ⟨vs0, hsq⟩, fun Da hDa => ?_⟩
        obtain ⟨lo, mo⟩ := hm1.open (o := .lst []) hDa trivial
        have nι : Da ∉ ι1.ι := fun z => hm1.ne hDa (hm1.sub _ z)
        refine ⟨fun k m H' => m = ds.length - k ∧ ∃ ι' acc vs, Le ι1 H1 ι' H' ∧ Da ∈ ι'.M ∧ Da ∉ ι'.ι ∧ Sim X.K ca ι' s1 H' ∧ H' Da = some (.lst vs) ∧ Reps X.K ι' H' acc vs ∧ acc.length ≤ k ∧
          PostE X.K ca ι1 H1 ((lcM ge i (wipeD [i] ρ) s1 (ds.drop k)).bind fun ys s2 => .ok (.lst (acc ++ ys)) s2) Q (fun cv dd H' => W cv dd σ H'), ⟨_, rfl, ⟨ι1.ι, Da :: ι1.M⟩, [], [], lo, List.mem_cons_self, nι, mo, upd_same, .nil, Nat.le_refl _, h1⟩, ?_⟩
        rintro k m H' ⟨rfl, ι', acc, vs, l', hDM, hDι, hm', hD', hacc, hlen, h'⟩
        obtain ⟨a', ws, ea, hsq', hreps'⟩ := hm'.items (rd.mono l') hds
        cases ea
        by_cases hlt : k < ds.length
        · have hd : ds[k]? = some ds[k] := List.getElem?_eq_getElem hlt
          obtain ⟨x0, hx0, rx0⟩ := hreps'.get hd
          refine .inr ⟨⟨ws, x0, hsq', hx0⟩, fun H2 => ∃ ι' acc vs, Le ι1 H1 ι' H2 ∧ Da ∈ ι'.M ∧ Da ∉ ι'.ι ∧ Sim X.K ca ι' s1 H2 ∧ H2 Da = some (.lst vs) ∧ Reps X.K ι' H2 acc vs ∧ acc.length ≤ k + 1 ∧
            PostE X.K ca ι1 H1 ((lcM ge i (wipeD [i] ρ) s1 (ds.drop (k + 1))).bind fun ys s2 => .ok (.lst (acc ++ ys)) s2) Q (fun cv dd H' => W cv dd σ H'), fun H2 w => ⟨_, by omega, rfl, w⟩, fun x2 H2 y => ?_⟩
          obtain ⟨rfl, hy⟩ := y
          have hy := hy ws hsq'
          rw [hx0] at hy
          cases hy
          rw [List.drop_eq_getElem_cons hlt] at h'
          unfold lcM at h'
          have hrw : RelS X.K ι' H2 (wipeD [i] ρ) (wipe σ [i]) := (hr1.mono l').wipe [i]
          refine ⟨?_, ?_⟩
          · show ((σ.set i none).set i (some x0)).set i none = (σ.set i none)
            rw [List.set_set, List.set_set]
          refine ⟨ι', (wipeD [i] ρ).set i (some ds[k]), s1, hrw.set rx0 i, hm', ?_⟩
          intro ι3 H3 l3 m3
          have d3 := l3.stay _ _ hD' noTab_lst hDι
          rw [if_pos rfl]
          refine ⟨ι3, (wipeD [i] ρ).set i (some ds[k]), s1, (hrw.set rx0 i).mono l3, m3, ?_⟩
          cases e4 : ge ((wipeD [i] ρ).set i (some ds[k])) s1 with
          | err x s5 => rw [e4] at h'; exact h'.elim
          | no => rw [e4] at h'; exact h'.elim
          | ok y s5 =>
            have es := hp _ _ _ _ e4
            subst es
            rw [e4] at h'
            simp only [noErr, R.bind_ok] at h'
            intro ι4 v4 H4 l4 m4 r4
            have d4 := l4.stay _ _ d3.1 noTab_lst d3.2
            obtain ⟨kf, mf⟩ := m4.fill (o := .lst (vs ++ [v4])) (l4.sub _ (l3.sub _ hDM)) d4.2 trivial
            have hv : vs.length = acc.length := (hacc.length).symm
            refine ⟨vs, d4.1, ?_, ι4, acc ++ [y], vs ++ [v4], ((l'.trans l3).trans l4).updNone hDa, l4.sub _ (l3.sub _ hDM), d4.2, mf, upd_same, (Reps.monoK kf ((hacc.mono l3).mono l4)).append (.cons (Rep.monoK kf r4) .nil), by simp; omega, ?_⟩
            · have := fitL_le hfit
              omega
            · cases e5 : lcM ge i (wipeD [i] ρ) s5 (ds.drop (k + 1)) with
              | ok ys s6 =>
                have es6 := lcM_st e5
                subst es6
                rw [e5] at h'; simpa using h'
              | err x s6 => rw [e5] at h'; exact h'
              | no => rw [e5] at h'; exact h'
        · refine .inl ⟨⟨ws, hsq', by rw [← hreps'.length]; omega⟩, ?_⟩
          rw [List.drop_eq_nil_of_le (by omega)] at h'
          simp only [lcM, R.bind_ok, List.append_nil] at h'
          obtain ⟨ls, ms⟩ := hm'.shut (p := Da) hDι
          exact h' _ _ H' (l'.shutNone hDa (hm1.ne hDa)) ms (.lst hD' (fun z => by simpa using (List.mem_filter.mp z).2) (Reps.monoK ls hacc))
      · exact h1.elim
    · exact h1.elim
end
end J
namespace J
theorem pure_lenVar (i : Nat) : ∀ (ρ : Env) (s : S) (y : D) (s' : S), gF (f1 fLen) (gaCons (gVar i) gaNil) ρ s = .ok y s' → s' = s := fun ρ s y s' h => by
  have e : gF (f1 fLen) (gaCons (gVar i) gaNil) ρ s = (gVar i ρ s).bind fun d s1 => R.ofO (fLen s1 d) s1 := by
    show ((gVar i ρ s).bind fun d s1 => (gaNil ρ s1).bind fun ds s2 => .ok (d :: ds) s2).bind _ = _
    cases gVar i ρ s <;> rfl
  rw [e] at h
  unfold gVar at h
  split at h
  · rename_i d hd
    simp only [R.bind_ok] at h
    cases e2 : fLen s d with
    | none => rw [e2] at h; cases h
    | some z => rw [e2] at h; cases h; rfl
  · cases h
end J


set_option Elab.async false
set_option linter.all false
set_option maxRecDepth 100000
set_option maxHeartbeats 4000000
/-! J9: sorted(set(t)) of a tuple of few texts. -/
namespace JSet
open PySem PySem.Spec PyProof.Rows L2
def kS (e : Int × Value) : Str := match e.2 with | .str x _ => x | _ => Str.empty
def TxE (w : World) (e : Int × Value) : Prop := ∃ x tk, e.2 = Value.str x tk ∧ e.1 = hashStr w x
/-- what a set's inside is when the texts of L were put in -/
structure In (w : World) (L : List Str) (es : Array (Int × Value)) (t : SetTable) : Prop where
  tx : ∀ e ∈ es.toList, TxE w e
  nd : (es.toList.map kS).Nodup
  mem : ∀ x, x ∈ L ↔ x ∈ es.toList.map kS
  sz : es.size ≤ L.length
  fi : t.fits es.size = true
  ri : Ris t.place.toList
  le : w.params.followText "set-order" = true ∨ t.led = true
def At (w : World) (h : Heap) (a : Addr) (L : List Str) : Prop := ∃ o es ep t, h.get? a = some o ∧ o.ExactSet ∧ o.data = .set es ep t ∧ In w L es t
variable {P : Program} {w : World}
theorem At.keep {h h' : Heap} {a : Addr} {L : List Str} (R : At w h a L) (k : ∀ o, h.get? a = some o → h'.get? a = some o) : At w h' a L := by
  obtain ⟨o, es, ep, t, ho, r⟩ := R
  exact ⟨o, es, ep, t, k o ho, r⟩
theorem tx_elems {l : List (Int × Value)} (g : ∀ e ∈ l, TxE w e) : ElemsOf (PySem.strKind P w) l := fun e he => by
  obtain ⟨x, tk, h1, h2⟩ := g e he
  exact ⟨⟨x, by rw [h1]; exact strKind_is P w x tk, h2⟩, by rw [h1]; rfl⟩
theorem tx_is {e : Int × Value} (g : TxE w e) (x : Str) : (PySem.strKind P w).is x e.2 = true ↔ kS e = x := by
  obtain ⟨y, tk, h1, _⟩ := g
  unfold kS
  rw [h1]
  constructor
  · intro z
    have z' : Value.isStrOf x (.str y tk) = true := z
    obtain ⟨u, hu⟩ := Value.isStrOf_shape z'
    injection hu
  · intro z; subst z; exact strKind_is P w y tk
variable {A : Around} {E : Value → Shared → Prop} {s : Shared} {a : Addr} {L : List Str}
/-- the tail of an adding: the new inside is stored, and laid anew when too full -/
theorem add_end {g : Bool → Sem Unit} (hg : ∀ (b : Bool) (s₁ : Shared) (Q' : Unit → Shared → Prop), Q' () s₁ → wpAny (model P w) A (g b) Q' E s₁) {o : Obj} {es es1 : Array (Int × Value)} {ep : Nat} {t t2 : SetTable}
    (ho : s.heap.get? a = some o) (hex : o.ExactSet) (hd : o.data = .set es ep t) (N : In w L es1 t2) (h64 : L.length < 64) {wd : Bool} {R : Option Bool → Shared → Prop}
    (hR : ∀ h', Heap.SameBut a s.heap h' → At w h' a L → R (some true) { s with heap := h' }) :
    wpAny (model P w) A (do
        storeSet a es1 t2
        if (!wd && t2.tooFull) = true then do
            g (relayAll t2 es1 (SetTable.grown es1.size)).2.2
            storeSet a (relayAll t2 es1 (SetTable.grown es1.size)).1 (relayAll t2 es1 (SetTable.grown es1.size)).2.1
            pure (some true)
          else pure (some true)) R E s := by
  have b1 : es1.size < scanBound := by have := N.sz; unfold scanBound; omega
  refine wpAny_bind (wpAny_storeSet_of ho hd ?_ (fits_of_scanBound b1))
  have o1 := store_at (es' := es1) (t' := t2) ho hd
  have u1 := Heap.SameBut.update s.heap a (Obj.putSet es1 t2)
  split
  · have q1 := relayAll_perm t2 es1 (SetTable.grown es1.size)
    have q2 := relayAll_fits t2 es1 (SetTable.grown es1.size)
    have q3 := relayAll_ris t2 es1 (SetTable.grown es1.size)
    have q4 := relayAll_led t2 es1 (SetTable.grown es1.size)
    generalize relayAll t2 es1 (SetTable.grown es1.size) = Z at q1 q2 q3 q4 ⊢
    obtain ⟨es2, t3, gv⟩ := Z
    dsimp only at q1 q2 q3 q4 ⊢
    have z2 : es2.size = es1.size := by rw [← Array.length_toList, q1.length_eq, Array.length_toList]
    refine wpAny_bind (hg _ _ _ (wpAny_bind (wpAny_storeSet_of o1 rfl (wpAny_pure ?_) (fits_of_scanBound (by rw [z2]; exact b1)))))
    have o2 := store_at (es' := es2) (t' := t3) o1 rfl
    refine hR _ (u1.trans (Heap.SameBut.update _ a _)) ⟨_, es2, _, t3, o2, hex, rfl, ⟨fun e he => N.tx e (q1.mem_iff.mp he), (q1.map kS).nodup_iff.mpr N.nd, fun x => (N.mem x).trans (q1.map kS).mem_iff.symm, by rw [z2]; exact N.sz, q2, q3, ?_⟩⟩
    rcases N.le with z | z
    · exact .inl z
    · exact .inr (by rw [q4]; exact z)
  · exact wpAny_pure (hR _ u1 ⟨_, es1, _, t2, o1, hex, rfl, N⟩)
theorem add {x : Str} {tk : Tok} {Q : Bool → Shared → Prop} (R : At w s.heap a L) (h64 : L.length + 1 < 64)
    (hQ : ∀ b h', Heap.SameBut a s.heap h' → At w h' a (L ++ [x]) → Q b { s with heap := h' }) :
    wpAny (model P w) A (setAddHashed a (.str x tk) ((PySem.strKind P w).hash x)) Q E s := by
  obtain ⟨o, es, ep, t, ho, hex, hd, N⟩ := R
  have kx : (PySem.strKind P w).is x (.str x tk) = true := strKind_is P w x tk
  have sx : (Value.str x tk).scannable = true := rfl
  have el : ElemsOf (PySem.strKind P w) es.toList := tx_elems N.tx
  have b0 : es.size < scanBound := by have := N.sz; unfold scanBound; omega
  unfold setAddHashed setAddHashedIn
  refine wpAny_holding (wpAny_bind (wpAny_setState_of ho hd N.fi ?_))
  dsimp only
  rw [byScan_of sx b0 el]
  simp only [↓reduceIte]
  unfold setAddByScan
  refine wpAny_bind (wpAny_bind (wpAny_rule (wpAny_bind (wpAny_setScan_of kx ho hd N.fi el ?_))))
  cases hf : List.findIdx? (fun e => (PySem.strKind P w).is x e.2) es.toList with
  | some j =>
    dsimp only
    obtain ⟨hj, pj, _⟩ := List.findIdx?_eq_some_iff_getElem.mp hf
    have hx : x ∈ es.toList.map kS := List.mem_map.mpr ⟨es.toList[j], List.getElem_mem hj, (tx_is (P := P) (N.tx _ (List.getElem_mem hj)) x).1 pj⟩
    refine wpAny_pure (wpAny_pure (hQ _ s.heap (Heap.SameBut.refl a s.heap) ⟨o, es, ep, t, ho, hex, hd, ⟨N.tx, N.nd, fun y => ?_, by have := N.sz; simp; omega, N.fi, N.ri, N.le⟩⟩))
    rw [List.mem_append, List.mem_singleton, N.mem y]
    exact ⟨fun z => z.elim id fun e => e ▸ hx, .inl⟩
  | none =>
    dsimp only
    have hx : x ∉ es.toList.map kS := fun z => by
      obtain ⟨e, he, q⟩ := List.mem_map.mp z
      have c := List.findIdx?_eq_none_iff.mp hf e he
      rw [(tx_is (P := P) (N.tx e he) x).2 q] at c
      cases c
    have gw : ∀ (b : Bool) {s₁ : Shared} {Q' : Unit → Shared → Prop}, Q' () s₁ → wpAny (model P w) A (match b with | true => rule "set.scan.the-table-gave-way" | false => pure ()) Q' E s₁ :=
      fun b s₁ Q' q => by cases b <;> first | exact wpAny_pure q | exact wpAny_rule q
    have q1 := layNew_perm t es ((PySem.strKind P w).hash x) (.str x tk)
    have q2 := layNew_fits t es ((PySem.strKind P w).hash x) (.str x tk)
    have q3 := layNew_ris t es ((PySem.strKind P w).hash x) (.str x tk) N.ri
    have q4 := layNew_led t es ((PySem.strKind P w).hash x) (.str x tk)
    generalize layNew t es ((PySem.strKind P w).hash x) (.str x tk) = Z at q1 q2 q3 q4 ⊢
    obtain ⟨es1, t1, wd, gave⟩ := Z
    dsimp only at q1 q2 q3 q4 ⊢
    rw [Array.toList_push] at q1
    have pc : es1.toList.Perm (((PySem.strKind P w).hash x, Value.str x tk) :: es.toList) := q1.trans (List.perm_append_singleton _ _)
    have pk : (es1.toList.map kS).Perm (x :: es.toList.map kS) := pc.map kS
    have z1 : es1.size = es.size + 1 := by rw [← Array.length_toList, pc.length_eq, List.length_cons, Array.length_toList]
    have N1 : In w (L ++ [x]) es1 t1 := ⟨fun e he => by
      rcases List.mem_cons.mp (pc.mem_iff.mp he) with z | z
      · rw [z]; exact ⟨x, tk, rfl, rfl⟩
      · exact N.tx e z, pk.nodup_iff.mpr (List.nodup_cons.mpr ⟨hx, N.nd⟩), fun y => by
        rw [List.mem_append, List.mem_singleton, N.mem y, pk.mem_iff, List.mem_cons]; exact Or.comm, by have := N.sz; simp; omega, q2, q3, by
        rcases N.le with z | z
        · exact .inl z
        · exact .inr (by rw [q4]; exact z)⟩
    have l64 : (L ++ [x]).length < 64 := by simp; omega
    refine wpAny_bind (gw _ ?_)
    split
    · refine wpAny_bind ?_
      rw [hashByValue_scannable 8 sx]
      refine wpAny_pure ?_
      refine add_end (L := L ++ [x]) (fun b s₁ Q' q => by cases b <;> first | exact wpAny_pure q | exact wpAny_rule q) ho hex hd ?_ l64 fun h' sb r => ?_
      · first
          | exact N1
          | exact ⟨N1.tx, N1.nd, N1.mem, N1.sz, SetTable.fits_plain_off N1.fi, N1.ri, N1.le⟩
          | (split
             · exact ⟨N1.tx, N1.nd, N1.mem, N1.sz, SetTable.fits_plain_off N1.fi, N1.ri, N1.le⟩
             · exact N1)
      · dsimp only; exact wpAny_pure (hQ _ h' sb r)
    · refine wpAny_bind (wpAny_pure ?_)
      simp only [↓reduceIte]
      refine add_end (L := L ++ [x]) (fun b s₁ Q' q => by cases b <;> first | exact wpAny_pure q | exact wpAny_rule q) ho hex hd N1 l64 fun h' sb r => ?_
      dsimp only; exact wpAny_pure (hQ _ h' sb r)
/-- the empty set as it is made -/
def eo (w : World) : Obj := { cls := .type "set", dict := none, data := .set #[] 0 (.fresh 0 0 (!w.params.followText "set-order")) }
theorem at_fresh {h : Heap} (ho : h.get? a = some (eo w)) : At w h a [] := by
  refine ⟨_, #[], 0, _, ho, ⟨rfl, rfl, rfl⟩, rfl, ⟨fun e he => ?_, ?_, fun x => ?_, Nat.le_refl 0, rfl, List.Pairwise.nil, ?_⟩⟩
  · simp at he
  · simp
  · simp
  · show _ ∨ (!w.params.followText "set-order") = true
    cases w.params.followText "set-order"
    · exact .inr rfl
    · exact .inl rfl
theorem loop {I : Addr} {fp wr : List Addr} {G : Array GenState → Array GenState → Prop} {n : Nat} {Pv : Nat → Value → Prop} {St : Nat → Shared → Prop} {R : Result → Shared → Prop} (W : WalksS P w A.in1 I fp wr G n Pv St) (hSf : a ∉ fp) (xs : List Str) (hn : n = xs.length)
    (h64 : xs.length < 63) (hval : ∀ i v, Pv i v → ∃ x t, xs[i]? = some x ∧ v = .str x t) :
    ∀ (k i : Nat) (s : Shared), n - i = k → i ≤ n → St i s → At w s.heap a (xs.take i) → (∀ s', Moved (a :: wr) G s s' → At w s'.heap a xs → R (.ok (.ret .none)) s') →
      codeAny (model P w) A (.builtin "set.update.loop" ⟨[.ref a, .ref I], []⟩) R s := by
  have aw : a ∉ wr := fun z => hSf (W.sub _ z)
  have sb : ∀ b ∈ wr, b ∈ a :: wr := fun b z => List.mem_cons_of_mem _ z
  intro k
  induction k with
  | zero =>
    intro i s hk hi st hS hR
    have : i = n := by omega
    subst this
    refine codeAny_builtin F.entry_set_update_loop ?_
    rw [Around.under_plainId F.plain_set_update_loop _]
    change wpAny _ A.in1 (pyNext (.ref I) >>= _) _ _ s
    refine wpAny_bind (W.done s _ _ st fun s' hm => ?_)
    change wpAny _ A.in1 (ret Value.none) _ _ s'
    rw [List.take_of_length_le (by omega)] at hS
    exact wpAny_pure (hR s' (hm.mono sb) (hS.keep fun o e => hm.heap a o aw e))
  | succ k ih =>
    intro i s hk hi st hS hR
    have lt : i < n := by omega
    refine codeAny_builtin F.entry_set_update_loop ?_
    rw [Around.under_plainId F.plain_set_update_loop _]
    change wpAny _ A.in1 (pyNext (.ref I) >>= _) _ _ s
    refine wpAny_bind (W.item i s _ _ lt st fun v s' hP st' hm => ?_)
    obtain ⟨x, t, hx, rfl⟩ := hval i v hP
    have hS' : At w s'.heap a (xs.take i) := hS.keep fun o e => hm.heap a o aw e
    change wpAny _ A.in1 (holding [Value.str x t] (setAdd a (.str x t)) >>= _) _ _ s'
    refine wpAny_bind (wpAny_holding ?_)
    unfold setAdd
    refine wpAny_holding (wpAny_bind ((PySem.strKind P w).pyHash (k := x) (strKind_is _ _ _ _) ?_))
    refine add (s := { s' with toks := s'.toks + 1 }) hS' (by rw [List.length_take]; omega) fun b h' hsb hS2 => ?_
    have hS3 : At w h' a (xs.take (i + 1)) := by rw [List.take_add_one, hx]; exact hS2
    refine wpAny_pure ⟨plainId_quiet F.plain_set_update_loop _, ih (i + 1) _ (by omega) lt (W.frame _ s' _ _ st' (Nat.le_succ _) fun c hc o e => ?_) hS3 fun s'' hm'' hS'' => ?_⟩
    · rw [hsb.2 c fun z : c = a => hSf (by rw [← z]; exact hc)]; exact e
    · refine hR s'' (Moved.trans W.gtrans ((hm.mono sb).then_heap (Nat.le_succ _) fun c o hc e => ?_) hm'') hS''
      rw [hsb.2 c fun z : c = a => hc (by rw [z]; exact List.mem_cons_self)]; exact e
set_option maxHeartbeats 3200000 in
/-- set(t), t a tuple of texts -/
theorem made {l : Addr} {items : Array Value} {xs : List Str} {Q : Value → Shared → Prop} (hh : A.handled = none) (hl : s.heap.IsTuple l items) (hi : StrsAre items.toList xs) (h64 : xs.length < 63)
    (h : ∀ (h' : Heap) (tk : Nat), At w h' s.heap.objs.size xs → (∀ b o, s.heap.get? b = some o → h'.get? b = some o) → Q (.ref s.heap.objs.size) { s with heap := h', toks := tk }) :
    wpAny (model P w) A (call (.type "set") [.ref l]) Q E s := by
  have isz : items.size = xs.length := by
    have q := hi.length
    rwa [Array.length_toList] at q
  obtain ⟨c, tl, hmro⟩ := F.called_set.mro
  have m1 := F.called_set.made
  have m2 := F.called_set.sub
  refine wpAny_call (codeAny_of_tree ?_)
  change wpAny _ _ (callAny (.type "set") _) _ _ _
  refine wpAny_pure ⟨Code.quiet_builtin _ (by decide +kernel), codeAny_builtin F.entry_type_call ?_⟩
  rw [Around.under_plain (weight_type_call_type "set" [.ref l] []) rfl]
  have m3 := F.called_set.notType
  have m4 := F.called_set.canCreate
  have m5 := F.typeCall_set_1 (.ref l)
  repeat (any_goals (first | assumption | wp_step))
  refine codeAny_mono (code_set_led1 (.ref l) (E := E) (Q₁ := fun ob s₁ => ob = .ref s.heap.objs.size ∧ s₁ = { s with heap := s.heap.push (eo w) }) ⟨rfl, rfl⟩) fun r s₁ hr => ?_
  cases r with
  | error e => exact hr
  | ok fl =>
    cases fl with
    | ret ob =>
      obtain ⟨rfl, rfl⟩ := hr
      have hS : (s.heap.push (eo w)).get? s.heap.objs.size = some (eo w) := Heap.get?_push_size _ rfl
      have hT : Shared.TypeIs { s with heap := s.heap.push (eo w) } (.ref s.heap.objs.size) "set" := ⟨_, hS, rfl⟩
      have m6 := F.called_set.init.lookup
      have m7 := F.called_set.init.bind (.ref s.heap.objs.size)
      repeat (any_goals (first | assumption | wp_step))
      refine codeAny_mono (codeAny_call_builtin (R := wants (fun r s₂ => r = .none ∧ ∃ h' tk, s₂ = { s with heap := h', toks := tk } ∧ At w h' s.heap.objs.size xs ∧ (∀ b o, s.heap.get? b = some o → h'.get? b = some o)) E) F.called_set.init.plain F.entry_set_init (check_set_init_1 hT ?_)) fun r₂ s₂ hr₂ => ?_
      · obtain ⟨ol, hol, hcl, nl, hdl⟩ := hl
        obtain ⟨ocls, odict, odata, oslots⟩ := ol
        simp only at hcl hdl
        subst hcl; subst hdl
        have p1 := F.sub_tuple_set
        have p2 := F.sub_tuple_frozenset
        have p3 : (Value.type "tuple" == Value.type "dict") = false := by decide
        have p4 : (s.heap.push (eo w)).get? l = some { cls := .type "tuple", dict := odict, data := .seq items nl, slots := oslots } := Heap.get?_push_of_some _ hol
        have l1 : (s.heap.push (eo w)).IsTuple l items := ⟨_, p4, rfl, nl, rfl⟩
        unfold Builtin.«set.__init__» noKeywords Builtin.Frozenset.updateFrom
        generalize hPI : pyIter = PI
        wp_walk
        subst hPI
        refine wpAny_pyIter_tuple l1 (wpAny_bind (wpAny_runValue ?_))
        have lS : l < s.heap.objs.size := Heap.lt_size hol
        have z1 : (s.heap.push (eo w)).objs.size = s.heap.objs.size + 1 := Heap.size_push ..
        have nI : l ≠ (s.heap.push (eo w)).objs.size := by rw [z1]; exact Nat.ne_of_lt (Nat.lt_succ_of_lt lS)
        have nS : s.heap.objs.size ∉ [(s.heap.push (eo w)).objs.size, l] := by
          rw [z1]
          intro z
          rcases List.mem_cons.mp z with z | z
          · exact Nat.ne_of_lt (Nat.lt_succ_self _) z
          · exact Nat.ne_of_gt lS (List.mem_singleton.mp z)
        have hv : ∀ (i : Nat) (v : Value), items[i]? = some v → ∃ x t, xs[i]? = some x ∧ v = .str x t := fun i v hv => by
          have hi' : i < xs.length := by rw [← isz]; exact (Array.getElem?_eq_some_iff.mp hv).1
          obtain ⟨t, e⟩ := SS.strs_at hi i v (by rw [Array.getElem?_toList]; exact hv)
          exact ⟨xs[i], t, List.getElem?_eq_getElem hi', by rw [e, List.getD_eq_getElem?_getD, List.getElem?_eq_getElem hi']; rfl⟩
        refine loop ((Walks.tuple (by simp [hh]) _ l nI items).toS) nS xs isz h64 hv (items.size - 0) 0 _ (by omega) (Nat.zero_le _) ⟨⟨_, Heap.get?_push_size _ rfl, rfl, rfl⟩, l1.push _⟩ ?s0 ?r0
        case s0 => exact at_fresh (Heap.get?_push_of_some _ hS)
        case r0 =>
          intro s' hm hS'
          obtain ⟨h', g2, d', tk', os'⟩ := s'
          have eg : g2 = s.gens := hm.gens
          have ed : d' = s.drawn := hm.drawn
          have eo' : os' = s.os := hm.os
          subst eg; subst ed; subst eo'
          refine wpAny_pure (wpAny_pure ⟨rfl, h', tk', rfl, hS', fun b o e => ?_⟩)
          have b0 : b < s.heap.objs.size := Heap.lt_size e
          refine hm.heap b o (fun z => ?_) (Heap.get?_push_of_some _ (Heap.get?_push_of_some _ e))
          rcases List.mem_cons.mp z with z | z
          · exact Nat.ne_of_lt b0 z
          · have z2 : b = (s.heap.push (eo w)).objs.size := List.mem_singleton.mp z
            rw [z1] at z2
            exact Nat.ne_of_lt (Nat.lt_succ_of_lt b0) z2
      · cases r₂ with
        | error e => exact hr₂
        | ok fl₂ =>
          cases fl₂ with
          | ret r =>
            obtain ⟨rfl, h', tk, rfl, hS', hk'⟩ := hr₂
            repeat (any_goals (first | assumption | wp_step))
            exact h _ _ hS' hk'
          | _ => exact hr₂.elim
    | _ => exact hr.elim
theorem txs_of : ∀ (l : List Value), (∀ v ∈ l, ∃ x tk, v = Value.str x tk) → StrsAre l (l.map PyProof.Rows.strOf)
  | [], _ => .nil
  | v :: l, h => by
    obtain ⟨x, tk, rfl⟩ := h v List.mem_cons_self
    exact .cons x tk (txs_of l fun u hu => h u (List.mem_cons_of_mem _ hu))
/-- sorted(s), s the set -/
theorem sorted {Q : Value → Shared → Prop} (R : At w s.heap a L) (hh : A.handled = none) (h64 : L.length < 64)
    (hQ : ∀ s' p (out : Array Value) (c : Nat) (ys : List Str), (∀ b o, s.heap.get? b = some o → s'.heap.get? b = some o) → s'.gens = s.gens → s'.os = s.os → s.heap.objs.size ≤ p → s'.heap.get? p = some (seqObj "list" out c) → StrsAre out.toList ys → sortedS ys = true → ys.Nodup →
      (∀ x, x ∈ ys ↔ x ∈ L) → Q (.ref p) s') :
    wpAny (model P w) A (call (.builtin "sorted") [.ref a]) Q E s := by
  obtain ⟨o, es, ep, t, ho, hex, hd, N⟩ := R
  have b0 : es.size < scanBound := by have := N.sz; unfold scanBound; omega
  refine Calls.call_function_entry kind_sorted plain_sorted entry_sorted (args_sorted1 _) ?_
  unfold Builtin.«sorted»
  refine wpAny_bind (m := checkCount "sorted" 1 1 _) (wpAny_pure (wpAny_bind (collect_set (A := A.in1) hh ⟨o, ho, hex.1, hd⟩ N.fi b0 N.ri N.le fun s1 vs k1 hz g1 o1 pm => ?_)))
  have vl : vs.length = es.size := by rw [pm.length_eq, List.length_map, Array.length_toList]
  have hI : StrsAre vs (vs.map PyProof.Rows.strOf) := txs_of vs fun v hv => by
    obtain ⟨e, he, q⟩ := List.mem_map.mp (pm.mem_iff.mp hv)
    obtain ⟨x, tk, h1, _⟩ := N.tx e he
    exact ⟨x, tk, by rw [← q]; exact h1⟩
  have pk : (vs.map PyProof.Rows.strOf).Perm (es.toList.map kS) := by
    have q := pm.map PyProof.Rows.strOf
    rw [List.map_map] at q
    refine q.trans (List.Perm.of_eq (List.map_congr_left fun e he => ?_))
    obtain ⟨x, tk, h1, _⟩ := N.tx e he
    show PyProof.Rows.strOf e.2 = kS e
    unfold kS
    rw [h1]; rfl
  have vs64 : vs.length < 64 := by have := N.sz; omega
  refine wpAny_bind (wpAny_newList ?_ (by rw [sizeLine_eq]; omega))
  have oL : (s1.heap.push (seqObj "list" vs.toArray 0)).get? s1.heap.objs.size = some (seqObj "list" vs.toArray 0) := Heap.get?_push_size _ rfl
  refine wpAny_bind (wpAny_holding (wpAny_call_entry slot_list_sort ⟨_, oL, rfl⟩ entry_list_sort (list_sort_treeK strKind_oneLt oL hI.keysOf (fun v₁ v₂ rest e => keyKind_strs (by rw [← e]; exact hI)) vs64 fun st' hp hs => ?_) (args_list_sort _)))
  obtain ⟨ys, y1, y2, y3⟩ := sorted_out_str hI hp hs
  obtain ⟨c, hc⟩ := sortedHeap_at (vs := vs) (out := (arrOf st').map (·.2)) oL
  have py : ys.Perm (es.toList.map kS) := y2.trans pk
  refine ⟨_, rfl, wpAny_pure ⟨_, rfl, hQ _ s1.heap.objs.size _ c ys (fun b u e => ?_) g1 o1 hz hc y1 y3 (py.nodup_iff.mpr N.nd) fun x => by rw [py.mem_iff, ← N.mem x]⟩⟩
  have q := k1 b u e
  have lt := Heap.lt_size q
  show (sortedHeap (s1.heap.push (seqObj "list" vs.toArray 0)) s1.heap.objs.size vs _).get? b = some u
  rw [sortedHeap_old (Nat.ne_of_lt lt) (by rw [size_push']; exact Nat.lt_succ_of_lt lt)]
  exact Heap.get?_push_of_some _ q
end JSet


set_option Elab.async false
set_option linter.all false
set_option maxRecDepth 100000
set_option maxHeartbeats 4000000
/-! J10: sorted(set(t)) as data. -/
namespace JSet
open PySem PySem.Spec PyProof.Rows L2
def SetS (w : World) (a : Addr) (L : List Str) : HO := .ext fun h => At w h a L
theorem setS_new {w : World} {P : Program} {H : Hp} {h : Heap} {a : Addr} {L : List Str} (R : At w h a L) : ObjOk P w H h a (SetS w a L) := by
  let ⟨o, _, _, _, q, _⟩ := R
  exact ⟨R, ⟨o, q⟩, fun _ _ z k => At.keep z k⟩
section
variable {X : Cx}
theorem setS_get {pins : List (Addr × Obj)} {σ : L2.St} {H : Hp} {s : Shared} {a : Addr} {L : List Str} (I : Inv X pins σ H s) (ha : H a = some (SetS X.w a L)) : At X.w s.heap a L := (I.hok a _ ha).1
def rMk (K : PySem.W.Frag) (w : World) : List V → Hp → VK → Prop := fun vs H Q => ∃ (l : Addr) (xs : List Str), vs = [V.ref l] ∧ SqT K H l (xs.map V.str) ∧ xs.length < 63 ∧ ∀ p, H p = none → Q (.ref p) (upd H p (SetS w p xs))
theorem cr_mk (hc : X.calm = true) : CallR X (.type "set") (rMk X.K X.w) := by
  intro pins s σ H vs us Q I r h
  obtain ⟨l, xs, rfl, hs, h64, q⟩ := h
  obtain ⟨its, rv, pl, hz⟩ := I.tuple hs
  rw [Vals.ref1 r]
  have fr : H s.heap.objs.size = none := I.hok.fresh (Nat.le_refl _)
  refine made (I.ok.hd hc) pl (by simpa using L2.strsAre_of rv) h64 fun h' tk hA hk => ⟨.ref s.heap.objs.size, upd H s.heap.objs.size (SetS X.w s.heap.objs.size xs), I.laid (t' := tk) hk (Nat.le_refl _) (setS_new hA), rfl, q _ fr⟩
def rSo (w : World) : List V → Hp → VK → Prop := fun vs H Q => ∃ (a : Addr) (L : List Str), vs = [V.ref a] ∧ H a = some (SetS w a L) ∧ L.length < 64 ∧
  ∀ (ys : List Str) (p : Addr), sortedS ys = true → ys.Nodup → (∀ x, x ∈ ys ↔ x ∈ L) → H p = none → Q (.ref p) (upd H p (.lst (ys.map V.str)))
theorem cr_so (hc : X.calm = true) : CallR X (.builtin "sorted") (rSo X.w) := by
  intro pins s σ H vs us Q I r h
  obtain ⟨a, L, rfl, ha, h64, q⟩ := h
  rw [Vals.ref1 r]
  refine sorted (setS_get I ha) (I.ok.hd hc) h64 fun s' p out c ys k g o hp hg hi y1 y2 y3 => ?_
  have yl : ys.length ≤ L.length := by
    refine (List.Nodup.length_le_of_subset ?_ ?_)
    · exact y2
    · exact fun x hx => (y3 x).1 hx
  have hl : (ys.map V.str).length ≤ sizeLine := by rw [List.length_map, sizeLine_eq]; omega
  have fr : H p = none := I.hok.fresh hp
  have J1 : Inv X pins σ (upd H p (.lst (ys.map V.str))) { s with heap := s'.heap, gens := s'.gens, drawn := s'.drawn, toks := s'.toks } :=
    I.call (ch := []) (Un.laid k hp fr) (I.hok.laid k hp ⟨hl, out.toList, c, vals_of_strs hi, hg⟩) (by rw [g]; exact I.bare) (fun _ z => nomatch z)
  have es : s' = { s with heap := s'.heap, gens := s'.gens, drawn := s'.drawn, toks := s'.toks } := by
    obtain ⟨_, _, _, _, _⟩ := s'
    obtain ⟨_, _, _, _, _⟩ := s
    cases o
    rfl
  rw [es]
  exact ⟨.ref p, _, J1, rfl, q ys p y1 y2 y3 fr⟩
end
/-! ### the sorted list of few texts, each once -/
def lt (x y : Str) : Bool := decide (x.cps.toList < y.cps.toList)
def ins (x : Str) : List Str → List Str
  | [] => [x]
  | y :: ys => if lt x y then x :: y :: ys else if x = y then y :: ys else y :: ins x ys
def sortU (xs : List Str) : List Str := xs.foldr ins []
def L (x : Str) : List Nat := x.cps.toList
theorem L_inj {x y : Str} (h : L x = L y) : x = y := by
  have a := SX.S_tl x
  have b := SX.S_tl y
  rw [← a, ← b]
  exact congrArg SX.S h
theorem lt_of {x y : Str} (h : ¬ L x < L y) (hne : x ≠ y) : L y < L x := by
  by_cases z : L y < L x
  · exact z
  · exact absurd (L_inj (List.le_antisymm (List.not_lt.mp z) (List.not_lt.mp h))) hne
def Up (l : List Str) : Prop := l.Pairwise fun a b => L a < L b
theorem mem_ins (x z : Str) : ∀ ys : List Str, z ∈ ins x ys ↔ z = x ∨ z ∈ ys
  | [] => by simp [ins]
  | y :: ys => by
    unfold ins
    split
    · simp
    · split
      · rename_i h; subst h; simp
      · simp only [List.mem_cons, mem_ins x z ys]
        constructor
        · rintro (h | h | h)
          · exact .inr (.inl h)
          · exact .inl h
          · exact .inr (.inr h)
        · rintro (h | h | h)
          · exact .inr (.inl h)
          · exact .inl h
          · exact .inr (.inr h)
theorem up_ins (x : Str) : ∀ {ys : List Str}, Up ys → Up (ins x ys)
  | [], _ => List.pairwise_singleton _ _
  | y :: ys, h => by
    obtain ⟨h1, h2⟩ := List.pairwise_cons.mp h
    unfold ins
    split
    · rename_i q
      have q' : L x < L y := of_decide_eq_true q
      refine List.pairwise_cons.mpr ⟨fun z hz => ?_, h⟩
      rcases List.mem_cons.mp hz with rfl | hz
      · exact q'
      · exact List.lt_trans q' (h1 z hz)
    · rename_i q
      have q' : ¬ L x < L y := fun z => q (decide_eq_true z)
      split
      · exact h
      · rename_i hne
        refine List.pairwise_cons.mpr ⟨fun z hz => ?_, up_ins x h2⟩
        rcases (mem_ins x z ys).1 hz with rfl | hz
        · exact lt_of q' hne
        · exact h1 z hz
theorem up_sortU : ∀ xs : List Str, Up (sortU xs)
  | [] => List.Pairwise.nil
  | x :: xs => up_ins x (up_sortU xs)
theorem mem_sortU (z : Str) : ∀ xs : List Str, z ∈ sortU xs ↔ z ∈ xs
  | [] => Iff.rfl
  | x :: xs => by
    show z ∈ ins x (sortU xs) ↔ _
    rw [mem_ins, mem_sortU z xs, List.mem_cons]
theorem up_eq : ∀ {xs ys : List Str}, Up xs → Up ys → (∀ z, z ∈ xs ↔ z ∈ ys) → xs = ys
  | [], [], _, _, _ => rfl
  | [], y :: ys, _, _, h => by have := (h y).2 List.mem_cons_self; cases this
  | x :: xs, [], _, _, h => by have := (h x).1 List.mem_cons_self; cases this
  | x :: xs, y :: ys, hx, hy, h => by
    obtain ⟨x1, x2⟩ := List.pairwise_cons.mp hx
    obtain ⟨y1, y2⟩ := List.pairwise_cons.mp hy
    have e : x = y := by
      rcases List.mem_cons.mp ((h x).1 List.mem_cons_self) with e | m1
      · exact e
      · rcases List.mem_cons.mp ((h y).2 List.mem_cons_self) with e | m2
        · exact e.symm
        · exact absurd (List.lt_trans (y1 x m1) (x1 y m2)) (List.lt_irrefl _)
    subst e
    have t : ∀ z, z ∈ xs ↔ z ∈ ys := fun z => by
      have hz := h z
      constructor
      · intro m
        rcases List.mem_cons.mp (hz.1 (List.mem_cons_of_mem _ m)) with e | m'
        · subst e; exact absurd (x1 z m) (List.lt_irrefl _)
        · exact m'
      · intro m
        rcases List.mem_cons.mp (hz.2 (List.mem_cons_of_mem _ m)) with e | m'
        · subst e; exact absurd (y1 z m) (List.lt_irrefl _)
        · exact m'
    rw [up_eq x2 y2 t]
theorem ris_le : ∀ (l : List Str) (p : Str), risingS p l = true → (p :: l).Pairwise fun a b => L a ≤ L b
  | [], p, _ => List.pairwise_singleton _ _
  | x :: r, p, h => by
    have h' : (!_ && risingS x r) = true := h
    rw [Bool.and_eq_true, Bool.not_eq_true', ltCps_eq, decide_eq_false_iff_not] at h'
    have ih := ris_le r x h'.2
    have px : L p ≤ L x := List.not_lt.mp h'.1
    refine List.pairwise_cons.mpr ⟨fun z hz => ?_, ih⟩
    rcases List.mem_cons.mp hz with rfl | hz
    · exact px
    · exact List.le_trans px ((List.pairwise_cons.mp ih).1 z hz)
theorem up_of {ys : List Str} (h : sortedS ys = true) (nd : ys.Nodup) : Up ys := by
  have le : ys.Pairwise fun a b => L a ≤ L b := by
    cases ys with
    | nil => exact List.Pairwise.nil
    | cons y ys => exact ris_le ys y h
  refine (le.and nd).imp fun {a b} q => ?_
  by_cases z : L a < L b
  · exact z
  · exact absurd (L_inj (List.le_antisymm q.1 (List.not_lt.mp z))) q.2
end JSet
namespace J
open PySem PySem.Spec L2
section
variable {X : Cx} {ca : Ct} {W : WX} {e : Expr} {pos : Pos} {g : GE}
/-- sorted(set(e)), e a tuple of few texts -/
def fSortSet (_ : S) : D → Option D
  | .tup ds => (strsD ds).bind fun xs => if decide (xs.length < 63) then some (.lst ((JSet.sortU xs).map D.str)) else none
  | _ => none
def gSortSet (g : GE) : GE := fun ρ s => (g ρ s).bind fun d s1 => R.ofO (fSortSet s1 d) s1
theorem je_sortSet {p p2 q : Pos} (hc : X.calm = true) (h1 : X.mg "sorted" = none) (h2 : X.mg "set" = none) (he : JE X ca W e g) (g1 : Gl X "sorted" := by rfl) (g2 : Gl X "set" := by rfl)
    (he1 : starEach [.Call (.Name "set" p2) [e] [] q] X.env = (false, eval (.Call (.Name "set" p2) [e] [] q) X.env) :: starEach [] X.env := by rfl) (he2 : starEach [e] X.env = (false, eval e X.env) :: starEach [] X.env := by rfl)
    (hp1 : (backTo pos (starEach [] X.env)).any (·.1) = false := by rfl) (hp2 : (backTo q (starEach [] X.env)).any (·.1) = false := by rfl) :
    JE X ca W (.Call (.Name "sorted" p) [.Call (.Name "set" p2) [e] [] q] [] pos) (gSortSet g) :=
  PE.imp (pe_callB (JSet.cr_so hc) g1 h1 bt_sorted (pa_cons (pe_callTy (JSet.cr_mk hc) g2 h2 bt_set (pa_cons he pa_nil he2) (he := he2) (hpl := hp2)) pa_nil he1) (he := he1) (hpl := hp1)) fun σ H Q ⟨ι, ρ, s, hr, hm, h⟩ => bindE famE hr hm h fun ι1 s1 d v H1 l1 hr1 hm1 rd h1 => by
    cases rd with
    | tup h3 h4 =>
      simp only [fSortSet] at h1
      cases e2 : strsD _ with
      | none => rw [e2] at h1; exact h1.elim
      | some xs =>
        rw [e2] at h1
        simp only [Option.bind_some] at h1
        have e3 := strsD_eq e2
        subst e3
        split at h1
        · rename_i hl
          have hl := of_decide_eq_true hl
          have e4 := reps_strsV h4
          subst e4
          refine ⟨_, xs, rfl, h3.sq, hl, fun p1 hp1 => ?_⟩
          obtain ⟨l2, m2⟩ := hm1.new (o := JSet.SetS X.w p1 xs) hp1
          refine ⟨p1, xs, rfl, upd_same, by omega, fun ys p3 y1 y2 y3 hp3 => ?_⟩
          obtain ⟨l3, m3⟩ := m2.new (o := .lst (ys.map V.str)) hp3
          have ey : ys = JSet.sortU xs := JSet.up_eq (JSet.up_of y1 y2) (JSet.up_sortU xs) fun z => (y3 z).trans (JSet.mem_sortU z xs).symm
          subst ey
          exact h1 _ _ _ (l2.trans l3) m3 (.lst upd_same (m2.ne hp3) (reps_strs _))
        · exact h1.elim
    | _ => exact h1.elim
def gDic0 : GE := fun _ s => .ok (.obj s.length) (s ++ [.dic []])
theorem je_dict0 : JE X ca W (.Dict [] [] pos) gDic0 := PE.imp pe_dnewK fun σ H Q ⟨ι, ρ, s, hr, hm, h⟩ p hp => by
  obtain ⟨l, m⟩ := hm.alloc (o := .dK []) (u := .dic []) hp trivial fun l => ⟨[], upd_same, .nil⟩
  exact h _ _ _ l m (.obj (by simp [← hm.len]))
end
end J


set_option Elab.async false
set_option linter.all false
set_option maxRecDepth 100000
set_option maxHeartbeats 4000000
namespace G
open PySem PySem.Spec L2 J
open PyProof.Rows (envOfC)
def top (i : Nat) : Stmt := PySem.Challenge.pw_pairskept_k09_whole_instructions.main.body.getD i (.Pass ⟨0, 0, 0, 0⟩)
def c_REGISTERS : D := (.int 2)
def c_CELLS : D := (.int 3)
def c_WORDS : D := (.int 10)
def c_NAMES : D := (.tup [(.str (PySem.Str.ofString "gr")), (.str (PySem.Str.ofString "gw")), (.str (PySem.Str.ofString "own")), (.str (PySem.Str.ofString "rr")), (.str (PySem.Str.ofString "rw")), (.str (PySem.Str.ofString "ss")), (.str (PySem.Str.ofString "wr")), (.str (PySem.Str.ofString "ww"))])
structure Fx (K : PySem.W.Frag) (mg : Str → Option Value) (ca : Ct) : Prop where
  bi_all : mg "all" = none
  bi_bool : mg "bool" = none
  bi_int : mg "int" = none
  bi_isinstance : mg "isinstance" = none
  bi_len : mg "len" = none
  bi_list : mg "list" = none
  bi_range : mg "range" = none
  bi_set : mg "set" = none
  bi_sorted : mg "sorted" = none
  bi_str : mg "str" = none
  bi_tuple : mg "tuple" = none
  c_REGISTERS : ConstJ K mg "REGISTERS" c_REGISTERS
  c_CELLS : ConstJ K mg "CELLS" c_CELLS
  c_WORDS : ConstJ K mg "WORDS" c_WORDS
  c_NAMES : ConstJ K mg "NAMES" c_NAMES
  d_is_integer : ∃ f fd, mg "is_integer" = some (.ref f) ∧ FunD K "is_integer" "is_integer" (defArgs (top 1)) (defBody (top 1)) (defScope (top 1)) [] [] f fd
  d_is_in : ∃ f fd, mg "is_in" = some (.ref f) ∧ FunD K "is_in" "is_in" (defArgs (top 2)) (defBody (top 2)) (defScope (top 2)) [] [] f fd
  d_is_list : ∃ f fd, mg "is_list" = some (.ref f) ∧ FunD K "is_list" "is_list" (defArgs (top 3)) (defBody (top 3)) (defScope (top 3)) [] [] f fd
  d_is_instruction : ∃ f fd, mg "is_instruction" = some (.ref f) ∧ FunD K "is_instruction" "is_instruction" (defArgs (top 8)) (defBody (top 8)) (defScope (top 8)) [] [] f fd
  d_is_design : ∃ f fd, mg "is_design" = some (.ref f) ∧ FunD K "is_design" "is_design" (defArgs (top 11)) (defBody (top 11)) (defScope (top 11)) [] [] f fd
  d_law_taken : ∃ f fd, mg "_law_taken" = some (.ref f) ∧ FunD K "_law_taken" "_law_taken" (defArgs (top 13)) (defBody (top 13)) (defScope (top 13)) [] [] f fd
  d_law_pick : ∃ f fd, mg "_law_pick" = some (.ref f) ∧ FunD K "_law_pick" "_law_pick" (defArgs (top 14)) (defBody (top 14)) (defScope (top 14)) [] [] f fd
  d_law_alike : ∃ f fd, mg "_law_alike" = some (.ref f) ∧ FunD K "_law_alike" "_law_alike" (defArgs (top 15)) (defBody (top 15)) (defScope (top 15)) [] [] f fd
  d_law_instruction : ∃ f fd, mg "_law_instruction" = some (.ref f) ∧ FunD K "_law_instruction" "_law_instruction" (defArgs (top 16)) (defBody (top 16)) (defScope (top 16)) [] [] f fd
  d_law_design : ∃ f fd, mg "_law_design" = some (.ref f) ∧ FunD K "_law_design" "_law_design" (defArgs (top 17)) (defBody (top 17)) (defScope (top 17)) [] [] f fd
section
variable {P : Program} {w : World} {K : PySem.W.Frag} {mg : Str → Option Value} {base : Heap} {ca : Ct}
abbrev s_is_integer : Stmt := top 1
def b_is_integer : GS := sRet (gAndV (gF (fIsi) (gaCons (gVar 0) (gaCons (gC (.ty "int")) (gaNil)))) (gNotV (gF (fIsi) (gaCons (gVar 0) (gaCons (gC (.ty "bool")) (gaNil))))))
def F_is_integer : List D → S → R D := runF 1 b_is_integer
theorem sc_is_integer : FnScope ["value"] ["value"] (defScope s_is_integer) := ⟨rfl, rfl, rfl, by decide +kernel, rfl, by decide +kernel, by decide +kernel⟩
theorem j_is_integer (Fx : Fx K mg ca) : JFn P w K mg base ca 1 "is_integer" 1 F_is_integer := by
  obtain ⟨f, fd, hm, F⟩ := Fx.d_is_integer
  refine ⟨⟨f, fd, ["value"], hm, F.kp, F.bindsN (fun _ _ _ _ _ _ us hl => match us, hl with | [_], _ => rfl), rfl, fnJD F sc_is_integer fun cdv A outer s H E hr => ?_⟩⟩
  have tk : Takes (cxOf (L2.CX P w) P w K mg base ["value"] "is_integer" (defScope s_is_integer) f cdv A outer s H E) (fun cls d _ H => E cls d H) := takes_of rfl rfl rfl rfl
  exact jss_one (js_ret (je_and (je_B cj_isinstance Fx.bi_isinstance bt_isinstance (ja_cons (je_var 0) (ja_cons (je_ty Fx.bi_int bt_int) (ja_nil)))) (je_one (je_not (je_B cj_isinstance Fx.bi_isinstance bt_isinstance (ja_cons (je_var 0) (ja_cons (je_ty Fx.bi_bool bt_bool) (ja_nil))))))))
abbrev s_is_in : Stmt := top 2
def b_is_in : GS := sRet (gAndV (gCall 1 (F_is_integer) (gaCons (gVar 0) (gaNil))) (gChain fLe fLe (gVar 1) (gVar 0) (gVar 2)))
def F_is_in : List D → S → R D := runF 3 b_is_in
theorem sc_is_in : FnScope ["value", "least", "most"] ["value", "least", "most"] (defScope s_is_in) := ⟨rfl, rfl, rfl, by decide +kernel, rfl, by decide +kernel, by decide +kernel⟩
theorem j_is_in (Fx : Fx K mg ca) : JFn P w K mg base ca 2 "is_in" 3 F_is_in := by
  obtain ⟨f, fd, hm, F⟩ := Fx.d_is_in
  refine ⟨⟨f, fd, ["value", "least", "most"], hm, F.kp, F.bindsN (fun _ _ _ _ _ _ us hl => match us, hl with | [_, _, _], _ => rfl), rfl, fnJD F sc_is_in fun cdv A outer s H E hr => ?_⟩⟩
  have tk : Takes (cxOf (L2.CX P w) P w K mg base ["value", "least", "most"] "is_in" (defScope s_is_in) f cdv A outer s H E) (fun cls d _ H => E cls d H) := takes_of rfl rfl rfl rfl
  exact jss_one (js_ret (je_and (je_call (j_is_integer Fx) (hr.mono (by decide)) tk (ja_cons (je_var 0) (ja_nil))) (je_one (je_chain oj_le oj_le (je_var 1) (je_var 0) (je_var 2)))))
abbrev s_is_list : Stmt := top 3
def b_is_list : GS := sRet (gAndV (gF (fIsi) (gaCons (gVar 0) (gaCons (gC (.ty "tuple")) (gaNil)))) (gChain fLe fLe (gVar 1) (gF (f1 fLen) (gaCons (gVar 0) (gaNil))) (gVar 2)))
def F_is_list : List D → S → R D := runF 3 b_is_list
theorem sc_is_list : FnScope ["value", "least", "most"] ["value", "least", "most"] (defScope s_is_list) := ⟨rfl, rfl, rfl, by decide +kernel, rfl, by decide +kernel, by decide +kernel⟩
theorem j_is_list (Fx : Fx K mg ca) : JFn P w K mg base ca 1 "is_list" 3 F_is_list := by
  obtain ⟨f, fd, hm, F⟩ := Fx.d_is_list
  refine ⟨⟨f, fd, ["value", "least", "most"], hm, F.kp, F.bindsN (fun _ _ _ _ _ _ us hl => match us, hl with | [_, _, _], _ => rfl), rfl, fnJD F sc_is_list fun cdv A outer s H E hr => ?_⟩⟩
  have tk : Takes (cxOf (L2.CX P w) P w K mg base ["value", "least", "most"] "is_list" (defScope s_is_list) f cdv A outer s H E) (fun cls d _ H => E cls d H) := takes_of rfl rfl rfl rfl
  exact jss_one (js_ret (je_and (je_B cj_isinstance Fx.bi_isinstance bt_isinstance (ja_cons (je_var 0) (ja_cons (je_ty Fx.bi_tuple bt_tuple) (ja_nil)))) (je_one (je_chain oj_le oj_le (je_var 1) (je_B cj_len Fx.bi_len bt_len (ja_cons (je_var 0) (ja_nil))) (je_var 2)))))
abbrev s_is_instruction : Stmt := top 8
def b_is_instruction : GS := sSeq (sIf (gOr (gNot (gB (gCall 3 (F_is_list) (gaCons (gVar 0) (gaCons (gC (.int 1)) (gaCons (gC (.int 3)) (gaNil))))))) (gNot (gB (gF (fIsi) (gaCons (gOp2 fIdx (gVar 0) (gC (.int 0))) (gaCons (gC (.ty "str")) (gaNil))))))) (sRet (gC (.bl false))) (sNext)) (sSeq (sPar 1 2 (gaCons (gOp2 fIdx (gVar 0) (gC (.int 0))) (gaCons (gSl (gVar 0) (goSome (gC (.int 1))) (goNone)) (gaNil)))) (sSeq (sIf (gB (gOp2 fEq (gVar 1) (gC (.str (PySem.Str.ofString "fence"))))) (sRet (gOp2 fEq (gVar 2) (gTup (gaNil)))) (sNext)) (sSeq (sIf (gB (gOp2 fNe (gF (f1 fLen) (gaCons (gVar 2) (gaNil))) (gC (.int 2)))) (sRet (gC (.bl false))) (sNext)) (sSeq (sIf (gB (gOp2 fEq (gVar 1) (gC (.str (PySem.Str.ofString "read"))))) (sRet (gAndV (gCall 3 (F_is_in) (gaCons (gOp2 fIdx (gVar 2) (gC (.int 0))) (gaCons (gC (.int 0)) (gaCons (gOp2 fSub (gC c_REGISTERS) (gC (.int 1))) (gaNil))))) (gCall 3 (F_is_in) (gaCons (gOp2 fIdx (gVar 2) (gC (.int 1))) (gaCons (gC (.int 0)) (gaCons (gOp2 fSub (gC c_CELLS) (gC (.int 1))) (gaNil))))))) (sNext)) (sSeq (sIf (gB (gOp2 fEq (gVar 1) (gC (.str (PySem.Str.ofString "write"))))) (sRet (gAndV (gCall 3 (F_is_in) (gaCons (gOp2 fIdx (gVar 2) (gC (.int 0))) (gaCons (gC (.int 0)) (gaCons (gOp2 fSub (gC c_CELLS) (gC (.int 1))) (gaNil))))) (gCall 3 (F_is_in) (gaCons (gOp2 fIdx (gVar 2) (gC (.int 1))) (gaCons (gC (.int 0)) (gaCons (gOp2 fSub (gC c_WORDS) (gC (.int 1))) (gaNil))))))) (sNext)) (sSeq (sIf (gB (gOp2 fEq (gVar 1) (gC (.str (PySem.Str.ofString "copy"))))) (sRet (gAndV (gCall 3 (F_is_in) (gaCons (gOp2 fIdx (gVar 2) (gC (.int 0))) (gaCons (gC (.int 0)) (gaCons (gOp2 fSub (gC c_CELLS) (gC (.int 1))) (gaNil))))) (gCall 3 (F_is_in) (gaCons (gOp2 fIdx (gVar 2) (gC (.int 1))) (gaCons (gC (.int 0)) (gaCons (gOp2 fSub (gC c_REGISTERS) (gC (.int 1))) (gaNil))))))) (sNext)) (sRet (gAndV (gOp2 fEq (gVar 1) (gC (.str (PySem.Str.ofString "guard")))) (gAndV (gCall 3 (F_is_in) (gaCons (gOp2 fIdx (gVar 2) (gC (.int 0))) (gaCons (gC (.int 0)) (gaCons (gOp2 fSub (gC c_REGISTERS) (gC (.int 1))) (gaNil))))) (gCall 3 (F_is_in) (gaCons (gOp2 fIdx (gVar 2) (gC (.int 1))) (gaCons (gC (.int 0)) (gaCons (gOp2 fSub (gC c_WORDS) (gC (.int 1))) (gaNil))))))))))))))
def F_is_instruction : List D → S → R D := runF 3 b_is_instruction
theorem sc_is_instruction : FnScope ["value", "kind", "rest"] ["value"] (defScope s_is_instruction) := ⟨rfl, rfl, rfl, by decide +kernel, rfl, by decide +kernel, by decide +kernel⟩
theorem j_is_instruction (Fx : Fx K mg ca) : JFn P w K mg base ca 3 "is_instruction" 1 F_is_instruction := by
  obtain ⟨f, fd, hm, F⟩ := Fx.d_is_instruction
  refine ⟨⟨f, fd, ["value"], hm, F.kp, F.bindsN (fun _ _ _ _ _ _ us hl => match us, hl with | [_], _ => rfl), rfl, fnJD F sc_is_instruction fun cdv A outer s H E hr => ?_⟩⟩
  have tk : Takes (cxOf (L2.CX P w) P w K mg base ["value", "kind", "rest"] "is_instruction" (defScope s_is_instruction) f cdv A outer s H E) (fun cls d _ H => E cls d H) := takes_of rfl rfl rfl rfl
  exact jss_cons (js_if (jw_t (jw_or (jt_not (jt_val (je_call (j_is_list Fx) (hr.mono (by decide)) tk (ja_cons (je_var 0) (ja_cons (je_int) (ja_cons (je_int) (ja_nil))))))) (jw_or1 (jt_not (jt_val (je_B cj_isinstance Fx.bi_isinstance bt_isinstance (ja_cons (je_ix (je_var 0) (je_int)) (ja_cons (je_ty Fx.bi_str bt_str) (ja_nil))))))))) (jss_one (js_ret (je_bl))) (jss_nil)) (jss_cons (js_par 1 2 rfl sc_is_instruction.nd (ja_cons (je_ix (je_var 0) (je_int)) (ja_cons (je_slice (je_var 0) (jo_some (je_int)) (jo_none)) (ja_nil)))) (jss_cons (js_if (jt_cmp (oj_eq hr.units) (je_var 1) (je_str)) (jss_one (js_ret (je_cmp (oj_eq hr.units) (je_var 2) (je_tup (ja_nil))))) (jss_nil)) (jss_cons (js_if (jt_cmp (oj_ne hr.units) (je_B cj_len Fx.bi_len bt_len (ja_cons (je_var 2) (ja_nil))) (je_int)) (jss_one (js_ret (je_bl))) (jss_nil)) (jss_cons (js_if (jt_cmp (oj_eq hr.units) (je_var 1) (je_str)) (jss_one (js_ret (je_and (je_call (j_is_in Fx) (hr.mono (by decide)) tk (ja_cons (je_ix (je_var 2) (je_int)) (ja_cons (je_int) (ja_cons (je_op oj_sub (je_k Fx.c_REGISTERS) (je_int)) (ja_nil))))) (je_one (je_call (j_is_in Fx) (hr.mono (by decide)) tk (ja_cons (je_ix (je_var 2) (je_int)) (ja_cons (je_int) (ja_cons (je_op oj_sub (je_k Fx.c_CELLS) (je_int)) (ja_nil))))))))) (jss_nil)) (jss_cons (js_if (jt_cmp (oj_eq hr.units) (je_var 1) (je_str)) (jss_one (js_ret (je_and (je_call (j_is_in Fx) (hr.mono (by decide)) tk (ja_cons (je_ix (je_var 2) (je_int)) (ja_cons (je_int) (ja_cons (je_op oj_sub (je_k Fx.c_CELLS) (je_int)) (ja_nil))))) (je_one (je_call (j_is_in Fx) (hr.mono (by decide)) tk (ja_cons (je_ix (je_var 2) (je_int)) (ja_cons (je_int) (ja_cons (je_op oj_sub (je_k Fx.c_WORDS) (je_int)) (ja_nil))))))))) (jss_nil)) (jss_cons (js_if (jt_cmp (oj_eq hr.units) (je_var 1) (je_str)) (jss_one (js_ret (je_and (je_call (j_is_in Fx) (hr.mono (by decide)) tk (ja_cons (je_ix (je_var 2) (je_int)) (ja_cons (je_int) (ja_cons (je_op oj_sub (je_k Fx.c_CELLS) (je_int)) (ja_nil))))) (je_one (je_call (j_is_in Fx) (hr.mono (by decide)) tk (ja_cons (je_ix (je_var 2) (je_int)) (ja_cons (je_int) (ja_cons (je_op oj_sub (je_k Fx.c_REGISTERS) (je_int)) (ja_nil))))))))) (jss_nil)) (jss_one (js_ret (je_and (je_cmp (oj_eq hr.units) (je_var 1) (je_str)) (je_and (je_call (j_is_in Fx) (hr.mono (by decide)) tk (ja_cons (je_ix (je_var 2) (je_int)) (ja_cons (je_int) (ja_cons (je_op oj_sub (je_k Fx.c_REGISTERS) (je_int)) (ja_nil))))) (je_one (je_call (j_is_in Fx) (hr.mono (by decide)) tk (ja_cons (je_ix (je_var 2) (je_int)) (ja_cons (je_int) (ja_cons (je_op oj_sub (je_k Fx.c_WORDS) (je_int)) (ja_nil))))))))))))))))
abbrev s_is_design : Stmt := top 11
def b_is_design : GS := sSeq (sIf (gOr (gNot (gB (gF (fIsi) (gaCons (gVar 0) (gaCons (gC (.ty "tuple")) (gaNil)))))) (gNot (gB (gF (f1 fAll) (gaCons (gLc [2] (gItems (gVar 0)) (dName 2) (gYes) (gAndV (gF (fIsi) (gaCons (gVar 2) (gaCons (gC (.ty "str")) (gaNil)))) (gOp2 fIn (gVar 2) (gC c_NAMES)))) (gaNil)))))) (sRet (gC (.bl false))) (sNext)) (sRet (gF (f1 fAll) (gaCons (gLc [1] (gRange2 (gaCons (gC (.int 1)) (gaCons (gF (f1 fLen) (gaCons (gVar 0) (gaNil))) (gaNil)))) (dName 1) (gYes) (gOp2 fLt (gOp2 fIdx (gVar 0) (gOp2 fSub (gVar 1) (gC (.int 1)))) (gOp2 fIdx (gVar 0) (gVar 1)))) (gaNil))))
def F_is_design : List D → S → R D := runF 3 b_is_design
theorem sc_is_design : FnScope ["value", "index", "one"] ["value"] (defScope s_is_design) := ⟨rfl, rfl, rfl, by decide +kernel, rfl, by decide +kernel, by decide +kernel⟩
theorem j_is_design (Fx : Fx K mg ca) : JFn P w K mg base ca 1 "is_design" 1 F_is_design := by
  obtain ⟨f, fd, hm, F⟩ := Fx.d_is_design
  refine ⟨⟨f, fd, ["value"], hm, F.kp, F.bindsN (fun _ _ _ _ _ _ us hl => match us, hl with | [_], _ => rfl), rfl, fnJD F sc_is_design fun cdv A outer s H E hr => ?_⟩⟩
  have tk : Takes (cxOf (L2.CX P w) P w K mg base ["value", "index", "one"] "is_design" (defScope s_is_design) f cdv A outer s H E) (fun cls d _ H => E cls d H) := takes_of rfl rfl rfl rfl
  exact jss_cons (js_if (jw_t (jw_or (jt_not (jt_val (je_B cj_isinstance Fx.bi_isinstance bt_isinstance (ja_cons (je_var 0) (ja_cons (je_ty Fx.bi_tuple bt_tuple) (ja_nil)))))) (jw_or1 (jt_not (jt_val (je_B (cj_all rfl) Fx.bi_all bt_all (ja_cons (je_lc rfl sc_is_design.nd (ji_seq (je_var 0)) (blkOk_by (N := ["value", "index", "one"]) (sc := defScope s_is_design) (by decide +kernel)) (fun _ _ _ _ _ => pg_name (i := 2) sc_is_design.nd rfl (by first | exact Or.inl rfl | exact Or.inr rfl)) (fun _ _ _ _ _ => jts_nil) (fun _ _ _ _ _ => je_and (je_B cj_isinstance Fx.bi_isinstance bt_isinstance (ja_cons (je_var 2) (ja_cons (je_ty Fx.bi_str bt_str) (ja_nil)))) (je_one (je_cmp (oj_in (J.Room.u65 hr)) (je_var 2) (je_k Fx.c_NAMES))))) (ja_nil)))))))) (jss_one (js_ret (je_bl))) (jss_nil)) (jss_one (js_ret (je_B (cj_all rfl) Fx.bi_all bt_all (ja_cons (je_lc rfl sc_is_design.nd (ji_range2 Fx.bi_range (ja_cons (je_int) (ja_cons (je_B cj_len Fx.bi_len bt_len (ja_cons (je_var 0) (ja_nil))) (ja_nil)))) (blkOk_by (N := ["value", "index", "one"]) (sc := defScope s_is_design) (by decide +kernel)) (fun _ _ _ _ _ => pg_name (i := 1) sc_is_design.nd rfl (by first | exact Or.inl rfl | exact Or.inr rfl)) (fun _ _ _ _ _ => jts_nil) (fun _ _ _ _ _ => je_cmp oj_lt (je_ix (je_var 0) (je_op oj_sub (je_var 1) (je_int))) (je_ix (je_var 0) (je_var 1)))) (ja_nil)))))
abbrev s_law_taken : Stmt := top 13
def b_law_taken : GS := sSeq (sIf (gB (gOp2 fGt (gOp2 fIdx (gVar 0) (gC (.int 3))) (gC (.int 0)))) (sSeq (sAsg (gOp2 fMod (gF (f1 fInt) (gaCons (gOp2 fIdx (gVar 0) (gC (.int 3))) (gaNil))) (gVar 1)) (dName 3)) (sSeq (sSetIx (gOp2 fDiv (gOp2 fIdx (gVar 0) (gC (.int 3))) (gVar 1)) (gVar 0) (gC (.int 3))) (sRet (gVar 3)))) (sNext)) (sSeq (sSetIx (gOp2 fAdd (gOp2 fIdx (gVar 0) (gC (.int 1))) (gC (.int 1))) (gVar 0) (gC (.int 1))) (sSeq (sIf (gB (gOp2 fGt (gOp2 fIdx (gVar 0) (gC (.int 1))) (gF (f1 fLen) (gaCons (gOp2 fIdx (gVar 0) (gC (.int 0))) (gaNil))))) (sSeq (sSetIx (gOp2 fMod (gF (f1 fInt) (gaCons (gOp2 fAdd (gOp2 fMul (gOp2 fIdx (gVar 0) (gC (.int 2))) (gC (.int 48271))) (gC (.int 11))) (gaNil))) (gC (.int 2147483647))) (gVar 0) (gC (.int 2))) (sRet (gOp2 fMod (gF (f1 fInt) (gaCons (gOp2 fDiv (gOp2 fIdx (gVar 0) (gC (.int 2))) (gC (.int 7))) (gaNil))) (gVar 1)))) (sNext)) (sSeq (sAsg (gOp2 fIdx (gOp2 fIdx (gVar 0) (gC (.int 0))) (gOp2 fSub (gOp2 fIdx (gVar 0) (gC (.int 1))) (gC (.int 1)))) (dName 2)) (sSeq (sSetIx (gOp2 fMod (gF (f1 fInt) (gaCons (gOp2 fAdd (gOp2 fAdd (gOp2 fMul (gOp2 fIdx (gVar 0) (gC (.int 2))) (gC (.int 48271))) (gVar 2)) (gC (.int 11))) (gaNil))) (gC (.int 2147483647))) (gVar 0) (gC (.int 2))) (sSeq (sIf (gB (gOp2 fGe (gVar 2) (gOp2 fPow (gC (.int 10)) (gC (.int 18))))) (sSetIx (gOp2 fDiv (gVar 2) (gVar 1)) (gVar 0) (gC (.int 3))) (sNext)) (sRet (gOp2 fMod (gF (f1 fInt) (gaCons (gVar 2) (gaNil))) (gVar 1))))))))
def F_law_taken : List D → S → R D := runF 4 b_law_taken
theorem sc_law_taken : FnScope ["_law_row", "_law_many", "_law_cell", "_law_found"] ["_law_row", "_law_many"] (defScope s_law_taken) := ⟨rfl, rfl, rfl, by decide +kernel, rfl, by decide +kernel, by decide +kernel⟩
theorem j_law_taken (Fx : Fx K mg ca) : JFn P w K mg base ca 1 "_law_taken" 2 F_law_taken := by
  obtain ⟨f, fd, hm, F⟩ := Fx.d_law_taken
  refine ⟨⟨f, fd, ["_law_row", "_law_many"], hm, F.kp, F.bindsN (fun _ _ _ _ _ _ us hl => match us, hl with | [_, _], _ => rfl), rfl, fnJD F sc_law_taken fun cdv A outer s H E hr => ?_⟩⟩
  have tk : Takes (cxOf (L2.CX P w) P w K mg base ["_law_row", "_law_many", "_law_cell", "_law_found"] "_law_taken" (defScope s_law_taken) f cdv A outer s H E) (fun cls d _ H => E cls d H) := takes_of rfl rfl rfl rfl
  exact jss_cons (js_if (jt_cmp oj_gt (je_ix (je_var 0) (je_int)) (je_int)) (jss_cons (js_set 3 sc_law_taken.nd (je_op oj_mod (je_Ty cj_int Fx.bi_int bt_int (ja_cons (je_ix (je_var 0) (je_int)) (ja_nil))) (je_var 1))) (jss_cons (js_setIx (je_op oj_div (je_ix (je_var 0) (je_int)) (je_var 1)) (je_var 0) (je_int)) (jss_one (js_ret (je_var 3))))) (jss_nil)) (jss_cons (js_setIx (je_op oj_add (je_ix (je_var 0) (je_int)) (je_int)) (je_var 0) (je_int)) (jss_cons (js_if (jt_cmp oj_gt (je_ix (je_var 0) (je_int)) (je_B cj_len Fx.bi_len bt_len (ja_cons (je_ix (je_var 0) (je_int)) (ja_nil)))) (jss_cons (js_setIx (je_op oj_mod (je_Ty cj_int Fx.bi_int bt_int (ja_cons (je_op oj_add (je_op oj_mul (je_ix (je_var 0) (je_int)) (je_int)) (je_int)) (ja_nil))) (je_int)) (je_var 0) (je_int)) (jss_one (js_ret (je_op oj_mod (je_Ty cj_int Fx.bi_int bt_int (ja_cons (je_op oj_div (je_ix (je_var 0) (je_int)) (je_int)) (ja_nil))) (je_var 1))))) (jss_nil)) (jss_cons (js_set 2 sc_law_taken.nd (je_ix (je_ix (je_var 0) (je_int)) (je_op oj_sub (je_ix (je_var 0) (je_int)) (je_int)))) (jss_cons (js_setIx (je_op oj_mod (je_Ty cj_int Fx.bi_int bt_int (ja_cons (je_op oj_add (je_op oj_add (je_op oj_mul (je_ix (je_var 0) (je_int)) (je_int)) (je_var 2)) (je_int)) (ja_nil))) (je_int)) (je_var 0) (je_int)) (jss_cons (js_if (jt_cmp oj_ge (je_var 2) (je_op oj_pow (je_int) (je_int))) (jss_one (js_setIx (je_op oj_div (je_var 2) (je_var 1)) (je_var 0) (je_int))) (jss_nil)) (jss_one (js_ret (je_op oj_mod (je_Ty cj_int Fx.bi_int bt_int (ja_cons (je_var 2) (ja_nil))) (je_var 1)))))))))
abbrev s_law_pick : Stmt := top 14
def b_law_pick : GS := sRet (gOp2 fIdx (gVar 1) (gCall 2 (F_law_taken) (gaCons (gVar 0) (gaCons (gF (f1 fLen) (gaCons (gVar 1) (gaNil))) (gaNil)))))
def F_law_pick : List D → S → R D := runF 2 b_law_pick
theorem sc_law_pick : FnScope ["_law_row", "_law_kinds"] ["_law_row", "_law_kinds"] (defScope s_law_pick) := ⟨rfl, rfl, rfl, by decide +kernel, rfl, by decide +kernel, by decide +kernel⟩
theorem j_law_pick (Fx : Fx K mg ca) : JFn P w K mg base ca 2 "_law_pick" 2 F_law_pick := by
  obtain ⟨f, fd, hm, F⟩ := Fx.d_law_pick
  refine ⟨⟨f, fd, ["_law_row", "_law_kinds"], hm, F.kp, F.bindsN (fun _ _ _ _ _ _ us hl => match us, hl with | [_, _], _ => rfl), rfl, fnJD F sc_law_pick fun cdv A outer s H E hr => ?_⟩⟩
  have tk : Takes (cxOf (L2.CX P w) P w K mg base ["_law_row", "_law_kinds"] "_law_pick" (defScope s_law_pick) f cdv A outer s H E) (fun cls d _ H => E cls d H) := takes_of rfl rfl rfl rfl
  exact jss_one (js_ret (je_ix (je_var 1) (je_call (j_law_taken Fx) (hr.mono (by decide)) tk (ja_cons (je_var 0) (ja_cons (je_B cj_len Fx.bi_len bt_len (ja_cons (je_var 1) (ja_nil))) (ja_nil))))))
abbrev s_law_instruction : Stmt := top 16
def b_law_instruction : GS := sSeq (sAsg (gCall 2 (F_law_pick) (gaCons (gVar 0) (gaCons (gLst (gaCons (gC (.str (PySem.Str.ofString "read"))) (gaCons (gC (.str (PySem.Str.ofString "read"))) (gaCons (gC (.str (PySem.Str.ofString "read"))) (gaCons (gC (.str (PySem.Str.ofString "write"))) (gaCons (gC (.str (PySem.Str.ofString "write"))) (gaCons (gC (.str (PySem.Str.ofString "write"))) (gaCons (gC (.str (PySem.Str.ofString "copy"))) (gaCons (gC (.str (PySem.Str.ofString "fence"))) (gaCons (gC (.str (PySem.Str.ofString "guard"))) (gaNil))))))))))) (gaNil)))) (dName 1)) (sSeq (sIf (gB (gOp2 fEq (gVar 1) (gC (.str (PySem.Str.ofString "fence"))))) (sRet (gTup (gaCons (gC (.str (PySem.Str.ofString "fence"))) (gaNil)))) (sNext)) (sSeq (sIf (gB (gOp2 fEq (gVar 1) (gC (.str (PySem.Str.ofString "write"))))) (sRet (gTup (gaCons (gC (.str (PySem.Str.ofString "write"))) (gaCons (gCall 2 (F_law_taken) (gaCons (gVar 0) (gaCons (gC (.int 2)) (gaNil)))) (gaCons (gOp2 fAdd (gC (.int 1)) (gCall 2 (F_law_taken) (gaCons (gVar 0) (gaCons (gC (.int 3)) (gaNil))))) (gaNil)))))) (sNext)) (sSeq (sIf (gB (gOp2 fEq (gVar 1) (gC (.str (PySem.Str.ofString "copy"))))) (sRet (gTup (gaCons (gC (.str (PySem.Str.ofString "copy"))) (gaCons (gCall 2 (F_law_taken) (gaCons (gVar 0) (gaCons (gC (.int 2)) (gaNil)))) (gaCons (gCall 2 (F_law_taken) (gaCons (gVar 0) (gaCons (gC (.int 2)) (gaNil)))) (gaNil)))))) (sNext)) (sRet (gTup (gaCons (gVar 1) (gaCons (gCall 2 (F_law_taken) (gaCons (gVar 0) (gaCons (gC (.int 2)) (gaNil)))) (gaCons (gCall 2 (F_law_taken) (gaCons (gVar 0) (gaCons (gC (.int 2)) (gaNil)))) (gaNil)))))))))
def F_law_instruction : List D → S → R D := runF 2 b_law_instruction
theorem sc_law_instruction : FnScope ["_law_row", "_law_kind"] ["_law_row"] (defScope s_law_instruction) := ⟨rfl, rfl, rfl, by decide +kernel, rfl, by decide +kernel, by decide +kernel⟩
theorem j_law_instruction (Fx : Fx K mg ca) : JFn P w K mg base ca 3 "_law_instruction" 1 F_law_instruction := by
  obtain ⟨f, fd, hm, F⟩ := Fx.d_law_instruction
  refine ⟨⟨f, fd, ["_law_row"], hm, F.kp, F.bindsN (fun _ _ _ _ _ _ us hl => match us, hl with | [_], _ => rfl), rfl, fnJD F sc_law_instruction fun cdv A outer s H E hr => ?_⟩⟩
  have tk : Takes (cxOf (L2.CX P w) P w K mg base ["_law_row", "_law_kind"] "_law_instruction" (defScope s_law_instruction) f cdv A outer s H E) (fun cls d _ H => E cls d H) := takes_of rfl rfl rfl rfl
  exact jss_cons (js_set 1 sc_law_instruction.nd (je_call (j_law_pick Fx) (hr.mono (by decide)) tk (ja_cons (je_var 0) (ja_cons (je_lst (ja_cons (je_str) (ja_cons (je_str) (ja_cons (je_str) (ja_cons (je_str) (ja_cons (je_str) (ja_cons (je_str) (ja_cons (je_str) (ja_cons (je_str) (ja_cons (je_str) (ja_nil))))))))))) (ja_nil))))) (jss_cons (js_if (jt_cmp (oj_eq hr.units) (je_var 1) (je_str)) (jss_one (js_ret (je_tup (ja_cons (je_str) (ja_nil))))) (jss_nil)) (jss_cons (js_if (jt_cmp (oj_eq hr.units) (je_var 1) (je_str)) (jss_one (js_ret (je_tup (ja_cons (je_str) (ja_cons (je_call (j_law_taken Fx) (hr.mono (by decide)) tk (ja_cons (je_var 0) (ja_cons (je_int) (ja_nil)))) (ja_cons (je_op oj_add (je_int) (je_call (j_law_taken Fx) (hr.mono (by decide)) tk (ja_cons (je_var 0) (ja_cons (je_int) (ja_nil))))) (ja_nil))))))) (jss_nil)) (jss_cons (js_if (jt_cmp (oj_eq hr.units) (je_var 1) (je_str)) (jss_one (js_ret (je_tup (ja_cons (je_str) (ja_cons (je_call (j_law_taken Fx) (hr.mono (by decide)) tk (ja_cons (je_var 0) (ja_cons (je_int) (ja_nil)))) (ja_cons (je_call (j_law_taken Fx) (hr.mono (by decide)) tk (ja_cons (je_var 0) (ja_cons (je_int) (ja_nil)))) (ja_nil))))))) (jss_nil)) (jss_one (js_ret (je_tup (ja_cons (je_var 1) (ja_cons (je_call (j_law_taken Fx) (hr.mono (by decide)) tk (ja_cons (je_var 0) (ja_cons (je_int) (ja_nil)))) (ja_cons (je_call (j_law_taken Fx) (hr.mono (by decide)) tk (ja_cons (je_var 0) (ja_cons (je_int) (ja_nil)))) (ja_nil))))))))))
abbrev s_law_design : Stmt := top 17
def b_law_design : GS := sRet (gF (f1 fTuple) (gaCons (gLc [1] (gItems (gLst (gaCons (gC (.str (PySem.Str.ofString "gr"))) (gaCons (gC (.str (PySem.Str.ofString "gw"))) (gaCons (gC (.str (PySem.Str.ofString "own"))) (gaCons (gC (.str (PySem.Str.ofString "rr"))) (gaCons (gC (.str (PySem.Str.ofString "rw"))) (gaCons (gC (.str (PySem.Str.ofString "ss"))) (gaCons (gC (.str (PySem.Str.ofString "wr"))) (gaCons (gC (.str (PySem.Str.ofString "ww"))) (gaNil))))))))))) (dName 1) (gB (gOp2 fEq (gCall 2 (F_law_taken) (gaCons (gVar 0) (gaCons (gC (.int 2)) (gaNil)))) (gC (.int 0)))) (gVar 1)) (gaNil)))
def F_law_design : List D → S → R D := runF 2 b_law_design
theorem sc_law_design : FnScope ["_law_row", "_law_word"] ["_law_row"] (defScope s_law_design) := ⟨rfl, rfl, rfl, by decide +kernel, rfl, by decide +kernel, by decide +kernel⟩
theorem j_law_design (Fx : Fx K mg ca) : JFn P w K mg base ca 2 "_law_design" 1 F_law_design := by
  obtain ⟨f, fd, hm, F⟩ := Fx.d_law_design
  refine ⟨⟨f, fd, ["_law_row"], hm, F.kp, F.bindsN (fun _ _ _ _ _ _ us hl => match us, hl with | [_], _ => rfl), rfl, fnJD F sc_law_design fun cdv A outer s H E hr => ?_⟩⟩
  have tk : Takes (cxOf (L2.CX P w) P w K mg base ["_law_row", "_law_word"] "_law_design" (defScope s_law_design) f cdv A outer s H E) (fun cls d _ H => E cls d H) := takes_of rfl rfl rfl rfl
  exact jss_one (js_ret (je_Ty cj_tuple Fx.bi_tuple bt_tuple (ja_cons (je_lc rfl sc_law_design.nd (ji_seq (je_lst (ja_cons (je_str) (ja_cons (je_str) (ja_cons (je_str) (ja_cons (je_str) (ja_cons (je_str) (ja_cons (je_str) (ja_cons (je_str) (ja_cons (je_str) (ja_nil))))))))))) (blkOk_by (N := ["_law_row", "_law_word"]) (sc := defScope s_law_design) (by decide +kernel)) (fun _ _ _ _ _ => pg_name (i := 1) sc_law_design.nd rfl (by first | exact Or.inl rfl | exact Or.inr rfl)) (fun _ _ _ _ _ => jts_one (jt_cmp (oj_eq hr.units) (je_call (j_law_taken Fx) (hr.mono (by decide)) takes0 (ja_cons (je_var 0) (ja_cons (je_int) (ja_nil)))) (je_int))) (fun _ _ _ _ _ => je_var 1)) (ja_nil))))
abbrev s_law_alike : Stmt := top 15
def b_law_alike (R : List D → S → R D) : GS := sSeq (sIf (gB (gF (fIsi) (gaCons (gVar 1) (gaCons (gTup (gaCons (gC (.ty "tuple")) (gaCons (gC (.ty "list")) (gaNil)))) (gaNil))))) (sSeq (sIf (gOr (gNot (gB (gF (fIsi) (gaCons (gVar 0) (gaCons (gTup (gaCons (gC (.ty "tuple")) (gaCons (gC (.ty "list")) (gaNil)))) (gaNil)))))) (gB (gOp2 fNe (gF (fIsi) (gaCons (gVar 0) (gaCons (gC (.ty "list")) (gaNil)))) (gF (fIsi) (gaCons (gVar 1) (gaCons (gC (.ty "list")) (gaNil))))))) (sRet (gC (.bl false))) (sNext)) (sSeq (sIf (gB (gOp2 fNe (gF (f1 fLen) (gaCons (gVar 0) (gaNil))) (gF (f1 fLen) (gaCons (gVar 1) (gaNil))))) (sRet (gC (.bl false))) (sNext)) (sRet (gOp2 fEq (gLc [2] (gRange1 (gaCons (gF (f1 fLen) (gaCons (gVar 1) (gaNil))) (gaNil))) (dName 2) (gNot (gB (gCall 2 (R) (gaCons (gOp2 fIdx (gVar 0) (gVar 2)) (gaCons (gOp2 fIdx (gVar 1) (gVar 2)) (gaNil)))))) (gVar 2)) (gLst (gaNil)))))) (sNext)) (sSeq (sIf (gOr (gB (gOp2 fIs (gVar 1) (gC .non))) (gB (gF (fIsi) (gaCons (gVar 1) (gaCons (gC (.ty "str")) (gaNil)))))) (sRet (gAndV (gOp2 fEq (gVar 0) (gVar 1)) (gOp2 fEq (gF (fIsi) (gaCons (gVar 0) (gaCons (gC (.ty "str")) (gaNil)))) (gF (fIsi) (gaCons (gVar 1) (gaCons (gC (.ty "str")) (gaNil))))))) (sNext)) (sRet (gAndV (gF (fIsi) (gaCons (gVar 0) (gaCons (gC (.ty "int")) (gaNil)))) (gAndV (gOp2 fEq (gF (fIsi) (gaCons (gVar 0) (gaCons (gC (.ty "bool")) (gaNil)))) (gF (fIsi) (gaCons (gVar 1) (gaCons (gC (.ty "bool")) (gaNil))))) (gOp2 fEq (gVar 0) (gVar 1))))))
def F_law_alike : Nat → List D → S → R D
  | 0 => fun _ _ => .no
  | n + 1 => runF 3 (b_law_alike (F_law_alike n))
theorem sc_law_alike : FnScope ["_law_found", "_law_due", "_law_k"] ["_law_found", "_law_due"] (defScope s_law_alike) := ⟨rfl, rfl, rfl, by decide +kernel, rfl, by decide +kernel, by decide +kernel⟩
theorem j_law_alike (Fx : Fx K mg ca) : ∀ n : Nat, JFn P w K mg base ca n "_law_alike" 2 (F_law_alike n)
  | 0 => by
    obtain ⟨f, fd, hm, F⟩ := Fx.d_law_alike
    refine ⟨⟨f, fd, ["_law_found", "_law_due"], hm, F.kp, F.bindsN (fun _ _ _ _ _ _ us hl => match us, hl with | [_, _], _ => rfl), rfl, ⟨fun vs H Q E ⟨ι, ds, s, hr, hm, hl, h⟩ => h.elim, fun A outer s H args us vs Q E _ _ _ _ ⟨ι, ds, s, hr, hm, hl, h⟩ => h.elim⟩⟩⟩
  | n + 1 => by
    have IH : JFn P w K mg base ca n "_law_alike" 2 (F_law_alike n) := j_law_alike Fx n
    obtain ⟨f, fd, hm, F⟩ := Fx.d_law_alike
    refine ⟨⟨f, fd, ["_law_found", "_law_due"], hm, F.kp, F.bindsN (fun _ _ _ _ _ _ us hl => match us, hl with | [_, _], _ => rfl), rfl, fnJD F sc_law_alike fun cdv A outer s H E hr => ?_⟩⟩
    have tk : Takes (cxOf (L2.CX P w) P w K mg base ["_law_found", "_law_due", "_law_k"] "_law_alike" (defScope s_law_alike) f cdv A outer s H E) (fun cls d _ H => E cls d H) := takes_of rfl rfl rfl rfl
    exact jss_cons (js_if (jt_val (je_B cj_isinstance Fx.bi_isinstance bt_isinstance (ja_cons (je_var 1) (ja_cons (je_tup (ja_cons (je_ty Fx.bi_tuple bt_tuple) (ja_cons (je_ty Fx.bi_list bt_list) (ja_nil)))) (ja_nil))))) (jss_cons (js_if (jw_t (jw_or (jt_not (jt_val (je_B cj_isinstance Fx.bi_isinstance bt_isinstance (ja_cons (je_var 0) (ja_cons (je_tup (ja_cons (je_ty Fx.bi_tuple bt_tuple) (ja_cons (je_ty Fx.bi_list bt_list) (ja_nil)))) (ja_nil)))))) (jw_or1 (jt_cmp (oj_ne hr.units) (je_B cj_isinstance Fx.bi_isinstance bt_isinstance (ja_cons (je_var 0) (ja_cons (je_ty Fx.bi_list bt_list) (ja_nil)))) (je_B cj_isinstance Fx.bi_isinstance bt_isinstance (ja_cons (je_var 1) (ja_cons (je_ty Fx.bi_list bt_list) (ja_nil)))))))) (jss_one (js_ret (je_bl))) (jss_nil)) (jss_cons (js_if (jt_cmp (oj_ne hr.units) (je_B cj_len Fx.bi_len bt_len (ja_cons (je_var 0) (ja_nil))) (je_B cj_len Fx.bi_len bt_len (ja_cons (je_var 1) (ja_nil)))) (jss_one (js_ret (je_bl))) (jss_nil)) (jss_one (js_ret (je_cmp (oj_eq hr.units) (je_lc rfl sc_law_alike.nd (ji_range1 Fx.bi_range (ja_cons (je_B cj_len Fx.bi_len bt_len (ja_cons (je_var 1) (ja_nil))) (ja_nil))) (blkOk_by (N := ["_law_found", "_law_due", "_law_k"]) (sc := defScope s_law_alike) (by decide +kernel)) (fun _ _ _ _ _ => pg_name (i := 2) sc_law_alike.nd rfl (by first | exact Or.inl rfl | exact Or.inr rfl)) (fun _ _ _ _ _ => jts_one (jt_not (jt_val (je_call IH hr takes0 (ja_cons (je_ix (je_var 0) (je_var 2)) (ja_cons (je_ix (je_var 1) (je_var 2)) (ja_nil))))))) (fun _ _ _ _ _ => je_var 2)) (je_lst (ja_nil))))))) (jss_nil)) (jss_cons (js_if (jw_t (jw_or (jt_cmp oj_is (je_var 1) (je_non)) (jw_or1 (jt_val (je_B cj_isinstance Fx.bi_isinstance bt_isinstance (ja_cons (je_var 1) (ja_cons (je_ty Fx.bi_str bt_str) (ja_nil)))))))) (jss_one (js_ret (je_and (je_cmp (oj_eq hr.units) (je_var 0) (je_var 1)) (je_one (je_cmp (oj_eq hr.units) (je_B cj_isinstance Fx.bi_isinstance bt_isinstance (ja_cons (je_var 0) (ja_cons (je_ty Fx.bi_str bt_str) (ja_nil)))) (je_B cj_isinstance Fx.bi_isinstance bt_isinstance (ja_cons (je_var 1) (ja_cons (je_ty Fx.bi_str bt_str) (ja_nil))))))))) (jss_nil)) (jss_one (js_ret (je_and (je_B cj_isinstance Fx.bi_isinstance bt_isinstance (ja_cons (je_var 0) (ja_cons (je_ty Fx.bi_int bt_int) (ja_nil)))) (je_and (je_cmp (oj_eq hr.units) (je_B cj_isinstance Fx.bi_isinstance bt_isinstance (ja_cons (je_var 0) (ja_cons (je_ty Fx.bi_bool bt_bool) (ja_nil)))) (je_B cj_isinstance Fx.bi_isinstance bt_isinstance (ja_cons (je_var 1) (ja_cons (je_ty Fx.bi_bool bt_bool) (ja_nil))))) (je_one (je_cmp (oj_eq hr.units) (je_var 0) (je_var 1))))))))
abbrev s_law : Stmt := top 18
def b_law : GS := sSeq (sAsg (gLstM (gaCons (gVar 0) (gaCons (gC (.int 0)) (gaCons (gC (.int 14249)) (gaCons (gC (.int 0)) (gaNil)))))) (dName 1)) (sSeq (sPar 7 8 (gaCons (gCall 1 (F_law_instruction) (gaCons (gVar 1) (gaNil))) (gaCons (gCall 1 (F_law_design) (gaCons (gVar 1) (gaNil))) (gaNil)))) (sSeq (sIf (gOr (gB (gOp2 fIsN (gCall 1 (F_is_instruction) (gaCons (gVar 7) (gaNil))) (gC (.bl true)))) (gB (gOp2 fIsN (gCall 1 (F_is_design) (gaCons (gVar 8) (gaNil))) (gC (.bl true))))) (sRet (gC (.bl false))) (sNext)) (sSeq (sAsg (gLst (gaCons (gC .non) (gaCons (gTup (gaNil)) (gaCons (gTup (gaCons (gC (.str (PySem.Str.ofString "fence"))) (gaCons (gC (.int 0)) (gaNil)))) (gaCons (gTup (gaCons (gC (.str (PySem.Str.ofString "read"))) (gaCons (gC (.int 0)) (gaNil)))) (gaCons (gTup (gaCons (gC (.str (PySem.Str.ofString "read"))) (gaCons (gC (.int 2)) (gaCons (gC (.int 0)) (gaNil))))) (gaCons (gTup (gaCons (gC (.str (PySem.Str.ofString "read"))) (gaCons (gC (.int 0)) (gaCons (gC (.int 3)) (gaNil))))) (gaCons (gTup (gaCons (gC (.str (PySem.Str.ofString "read"))) (gaCons (gC (.int 0)) (gaCons (gC (.int 0)) (gaCons (gC (.int 0)) (gaNil)))))) (gaCons (gTup (gaCons (gC (.str (PySem.Str.ofString "write"))) (gaCons (gC (.int 3)) (gaCons (gC (.int 0)) (gaNil))))) (gaCons (gTup (gaCons (gC (.str (PySem.Str.ofString "write"))) (gaCons (gC (.int 0)) (gaCons (gC (.int 10)) (gaNil))))) (gaCons (gTup (gaCons (gC (.str (PySem.Str.ofString "write"))) (gaCons (gC (.int 0)) (gaNil)))) (gaNil)))))))))))) (dName 2)) (sSeq (sAsg (gOp2 fAdd (gVar 2) (gLst (gaCons (gTup (gaCons (gC (.str (PySem.Str.ofString "copy"))) (gaCons (gC (.int 3)) (gaCons (gC (.int 0)) (gaNil))))) (gaCons (gTup (gaCons (gC (.str (PySem.Str.ofString "copy"))) (gaCons (gC (.int 0)) (gaCons (gC (.int 2)) (gaNil))))) (gaCons (gTup (gaCons (gC (.str (PySem.Str.ofString "guard"))) (gaCons (gC (.int 2)) (gaCons (gC (.int 0)) (gaNil))))) (gaCons (gTup (gaCons (gC (.str (PySem.Str.ofString "guard"))) (gaCons (gC (.int 0)) (gaCons (gC (.int 10)) (gaNil))))) (gaCons (gTup (gaCons (gC (.str (PySem.Str.ofString "guard"))) (gaCons (gC (.int 0)) (gaCons (gNeg (gC (.int 1))) (gaNil))))) (gaCons (gTup (gaCons (gC (.str (PySem.Str.ofString "hop"))) (gaCons (gC (.int 0)) (gaCons (gC (.int 0)) (gaNil))))) (gaCons (gLst (gaCons (gC (.str (PySem.Str.ofString "fence"))) (gaNil))) (gaCons (gC (.str (PySem.Str.ofString "fence"))) (gaCons (gTup (gaCons (gC (.str (PySem.Str.ofString "Read"))) (gaCons (gC (.int 0)) (gaCons (gC (.int 0)) (gaNil))))) (gaNil)))))))))))) (dName 2)) (sSeq (sAsg (gOp2 fAdd (gVar 2) (gLst (gaCons (gTup (gaCons (gC (.str (PySem.Str.ofString "read"))) (gaCons (gC (.bl true)) (gaCons (gC (.int 0)) (gaNil))))) (gaCons (gTup (gaCons (gC (.str (PySem.Str.ofString "write"))) (gaCons (gC (.int 0)) (gaCons (gC .non) (gaNil))))) (gaCons (gTup (gaCons (gC .non) (gaCons (gC (.int 0)) (gaCons (gC (.int 0)) (gaNil))))) (gaCons (gC (.int 5)) (gaNil))))))) (dName 2)) (sSeq (sIf (gB (gOp2 fIsN (gCall 1 (F_is_instruction) (gaCons (gOp2 fIdx (gVar 2) (gCall 2 (F_law_taken) (gaCons (gVar 1) (gaCons (gF (f1 fLen) (gaCons (gVar 2) (gaNil))) (gaNil))))) (gaNil))) (gC (.bl false)))) (sRet (gC (.bl false))) (sNext)) (sSeq (sAsg (gLst (gaCons (gTup (gaCons (gC (.str (PySem.Str.ofString "read"))) (gaCons (gC (.int 1)) (gaCons (gC (.int 2)) (gaNil))))) (gaCons (gTup (gaCons (gC (.str (PySem.Str.ofString "write"))) (gaCons (gC (.int 2)) (gaCons (gC (.int 9)) (gaNil))))) (gaCons (gTup (gaCons (gC (.str (PySem.Str.ofString "copy"))) (gaCons (gC (.int 2)) (gaCons (gC (.int 1)) (gaNil))))) (gaCons (gTup (gaCons (gC (.str (PySem.Str.ofString "fence"))) (gaNil))) (gaCons (gTup (gaCons (gC (.str (PySem.Str.ofString "guard"))) (gaCons (gC (.int 1)) (gaCons (gC (.int 9)) (gaNil))))) (gaNil))))))) (dName 3)) (sSeq (sIf (gB (gOp2 fNe (gLc [9] (gItems (gVar 3)) (dName 9) (gB (gOp2 fIsN (gCall 1 (F_is_instruction) (gaCons (gVar 9) (gaNil))) (gC (.bl true)))) (gVar 9)) (gLst (gaNil)))) (sRet (gC (.bl false))) (sNext)) (sSeq (sAsg (gLst (gaCons (gC (.str (PySem.Str.ofString "gr"))) (gaCons (gC (.str (PySem.Str.ofString "gw"))) (gaCons (gC (.str (PySem.Str.ofString "own"))) (gaCons (gC (.str (PySem.Str.ofString "rr"))) (gaCons (gC (.str (PySem.Str.ofString "rw"))) (gaCons (gC (.str (PySem.Str.ofString "ss"))) (gaCons (gC (.str (PySem.Str.ofString "wr"))) (gaCons (gC (.str (PySem.Str.ofString "ww"))) (gaCons (gC (.str (PySem.Str.ofString "xx"))) (gaCons (gC (.str (PySem.Str.ofString ""))) (gaNil)))))))))))) (dName 4)) (sSeq (sAsg (gF (f1 fTuple) (gaCons (gLc [10] (gRange1 (gaCons (gCall 2 (F_law_taken) (gaCons (gVar 1) (gaCons (gC (.int 4)) (gaNil)))) (gaNil))) (dName 10) (gYes) (gCall 2 (F_law_pick) (gaCons (gVar 1) (gaCons (gVar 4) (gaNil))))) (gaNil))) (dName 5)) (sSeq (sAsg (gAndV (gOp2 fEq (gLc [11] (gItems (gVar 5)) (dName 11) (gB (gOp2 fNotIn (gVar 11) (gSl (gVar 4) (goNone) (goSome (gC (.int 8)))))) (gVar 11)) (gLst (gaNil))) (gOp2 fEq (gF (f1 fList) (gaCons (gVar 5) (gaNil))) (gSortSet (gVar 5)))) (dName 6)) (sSeq (sIf (gNot (gB (gCall 2 (F_law_alike 2) (gaCons (gCall 1 (F_is_design) (gaCons (gVar 5) (gaNil))) (gaCons (gVar 6) (gaNil)))))) (sRet (gC (.bl false))) (sNext)) (sRet (gOp2 fIs (gCall 1 (F_is_design) (gaCons (gCall 2 (F_law_pick) (gaCons (gVar 1) (gaCons (gLst (gaCons (gC .non) (gaCons (gF (f1 fList) (gaCons (gVar 8) (gaNil))) (gaCons (gC (.str (PySem.Str.ofString "rr"))) (gaCons (gTup (gaCons (gC .non) (gaNil))) (gaCons (gTup (gaCons (gC (.int 0)) (gaNil))) (gaCons (gDic0) (gaNil)))))))) (gaNil)))) (gaNil))) (gC (.bl false))))))))))))))))
def F_law : List D → S → R D := runF 12 b_law
theorem sc_law : FnScope ["_law_script", "_law_row", "_law_odd", "_law_good", "_law_words", "_law_drawn", "_law_due", "_law_one", "_law_design_here", "_law_each", "_law_turn", "_law_word"] ["_law_script"] (defScope s_law) := ⟨rfl, rfl, rfl, by decide +kernel, rfl, by decide +kernel, by decide +kernel⟩
theorem j_law (Fx : Fx K mg ca) {f c Pt : Addr} {fd : FuncData} (F : FunD K "law" "law" (defArgs s_law) (defBody s_law) (defScope s_law) [] [] f fd) (hf : He.fAd K ("law", none) = f) (hc : He.codeOf K ("law", none) = c) : FnOk P w K mg base (L2.CX P w) 4 f fd ["_law_script"] (spJ K ca 1 F_law) := by
  refine fnJL (k := 3) F sc_law hf hc fun cdv A outer s H E hcdv hr => ?_
  have tk : Takes (cxOf (L2.CX P w) P w K mg base ["_law_script", "_law_row", "_law_odd", "_law_good", "_law_words", "_law_drawn", "_law_due", "_law_one", "_law_design_here", "_law_each", "_law_turn", "_law_word"] "law" (defScope s_law) f cdv A outer s H E) (fun cls d _ H => E cls d H) := takes_of rfl rfl rfl rfl
  exact jss_cons (js_set 1 sc_law.nd (je_lstM (ja_cons (je_var 0) (ja_cons (je_int) (ja_cons (je_int) (ja_cons (je_int) (ja_nil))))))) (jss_cons (js_par 7 8 rfl sc_law.nd (ja_cons (je_call (j_law_instruction Fx) (hr.mono (by decide)) tk (ja_cons (je_var 1) (ja_nil))) (ja_cons (je_call (j_law_design Fx) (hr.mono (by decide)) tk (ja_cons (je_var 1) (ja_nil))) (ja_nil)))) (jss_cons (js_if (jw_t (jw_or (jt_cmp oj_isnot (je_call (j_is_instruction Fx) (hr.mono (by decide)) tk (ja_cons (je_var 7) (ja_nil))) (je_bl)) (jw_or1 (jt_cmp oj_isnot (je_call (j_is_design Fx) (hr.mono (by decide)) tk (ja_cons (je_var 8) (ja_nil))) (je_bl))))) (jss_one (js_ret (je_bl))) (jss_nil)) (jss_cons (js_set 2 sc_law.nd (je_lst (ja_cons (je_non) (ja_cons (je_tup (ja_nil)) (ja_cons (je_tup (ja_cons (je_str) (ja_cons (je_int) (ja_nil)))) (ja_cons (je_tup (ja_cons (je_str) (ja_cons (je_int) (ja_nil)))) (ja_cons (je_tup (ja_cons (je_str) (ja_cons (je_int) (ja_cons (je_int) (ja_nil))))) (ja_cons (je_tup (ja_cons (je_str) (ja_cons (je_int) (ja_cons (je_int) (ja_nil))))) (ja_cons (je_tup (ja_cons (je_str) (ja_cons (je_int) (ja_cons (je_int) (ja_cons (je_int) (ja_nil)))))) (ja_cons (je_tup (ja_cons (je_str) (ja_cons (je_int) (ja_cons (je_int) (ja_nil))))) (ja_cons (je_tup (ja_cons (je_str) (ja_cons (je_int) (ja_cons (je_int) (ja_nil))))) (ja_cons (je_tup (ja_cons (je_str) (ja_cons (je_int) (ja_nil)))) (ja_nil))))))))))))) (jss_cons (js_set 2 sc_law.nd (je_op oj_add (je_var 2) (je_lst (ja_cons (je_tup (ja_cons (je_str) (ja_cons (je_int) (ja_cons (je_int) (ja_nil))))) (ja_cons (je_tup (ja_cons (je_str) (ja_cons (je_int) (ja_cons (je_int) (ja_nil))))) (ja_cons (je_tup (ja_cons (je_str) (ja_cons (je_int) (ja_cons (je_int) (ja_nil))))) (ja_cons (je_tup (ja_cons (je_str) (ja_cons (je_int) (ja_cons (je_int) (ja_nil))))) (ja_cons (je_tup (ja_cons (je_str) (ja_cons (je_int) (ja_cons (je_neg (je_int)) (ja_nil))))) (ja_cons (je_tup (ja_cons (je_str) (ja_cons (je_int) (ja_cons (je_int) (ja_nil))))) (ja_cons (je_lst (ja_cons (je_str) (ja_nil))) (ja_cons (je_str) (ja_cons (je_tup (ja_cons (je_str) (ja_cons (je_int) (ja_cons (je_int) (ja_nil))))) (ja_nil))))))))))))) (jss_cons (js_set 2 sc_law.nd (je_op oj_add (je_var 2) (je_lst (ja_cons (je_tup (ja_cons (je_str) (ja_cons (je_bl) (ja_cons (je_int) (ja_nil))))) (ja_cons (je_tup (ja_cons (je_str) (ja_cons (je_int) (ja_cons (je_non) (ja_nil))))) (ja_cons (je_tup (ja_cons (je_non) (ja_cons (je_int) (ja_cons (je_int) (ja_nil))))) (ja_cons (je_int) (ja_nil)))))))) (jss_cons (js_if (jt_cmp oj_isnot (je_call (j_is_instruction Fx) (hr.mono (by decide)) tk (ja_cons (je_ix (je_var 2) (je_call (j_law_taken Fx) (hr.mono (by decide)) tk (ja_cons (je_var 1) (ja_cons (je_B cj_len Fx.bi_len bt_len (ja_cons (je_var 2) (ja_nil))) (ja_nil))))) (ja_nil))) (je_bl)) (jss_one (js_ret (je_bl))) (jss_nil)) (jss_cons (js_set 3 sc_law.nd (je_lst (ja_cons (je_tup (ja_cons (je_str) (ja_cons (je_int) (ja_cons (je_int) (ja_nil))))) (ja_cons (je_tup (ja_cons (je_str) (ja_cons (je_int) (ja_cons (je_int) (ja_nil))))) (ja_cons (je_tup (ja_cons (je_str) (ja_cons (je_int) (ja_cons (je_int) (ja_nil))))) (ja_cons (je_tup (ja_cons (je_str) (ja_nil))) (ja_cons (je_tup (ja_cons (je_str) (ja_cons (je_int) (ja_cons (je_int) (ja_nil))))) (ja_nil)))))))) (jss_cons (js_if (jt_cmp (oj_ne hr.units) (je_lc rfl sc_law.nd (ji_seq (je_var 3)) (blkOk_by (N := ["_law_script", "_law_row", "_law_odd", "_law_good", "_law_words", "_law_drawn", "_law_due", "_law_one", "_law_design_here", "_law_each", "_law_turn", "_law_word"]) (sc := defScope s_law) (by decide +kernel)) (fun _ _ _ _ _ => pg_name (i := 9) sc_law.nd rfl (by first | exact Or.inl rfl | exact Or.inr rfl)) (fun _ _ _ _ _ => jts_one (jt_cmp oj_isnot (je_call (j_is_instruction Fx) (hr.mono (by decide)) takes0 (ja_cons (je_var 9) (ja_nil))) (je_bl))) (fun _ _ _ _ _ => je_var 9)) (je_lst (ja_nil))) (jss_one (js_ret (je_bl))) (jss_nil)) (jss_cons (js_set 4 sc_law.nd (je_lst (ja_cons (je_str) (ja_cons (je_str) (ja_cons (je_str) (ja_cons (je_str) (ja_cons (je_str) (ja_cons (je_str) (ja_cons (je_str) (ja_cons (je_str) (ja_cons (je_str) (ja_cons (je_str) (ja_nil))))))))))))) (jss_cons (js_set 5 sc_law.nd (je_Ty cj_tuple Fx.bi_tuple bt_tuple (ja_cons (je_lc rfl sc_law.nd (ji_range1 Fx.bi_range (ja_cons (je_call (j_law_taken Fx) (hr.mono (by decide)) tk (ja_cons (je_var 1) (ja_cons (je_int) (ja_nil)))) (ja_nil))) (blkOk_by (N := ["_law_script", "_law_row", "_law_odd", "_law_good", "_law_words", "_law_drawn", "_law_due", "_law_one", "_law_design_here", "_law_each", "_law_turn", "_law_word"]) (sc := defScope s_law) (by decide +kernel)) (fun _ _ _ _ _ => pg_name (i := 10) sc_law.nd rfl (by first | exact Or.inl rfl | exact Or.inr rfl)) (fun _ _ _ _ _ => jts_nil) (fun _ _ _ _ _ => je_call (j_law_pick Fx) (hr.mono (by decide)) takes0 (ja_cons (je_var 1) (ja_cons (je_var 4) (ja_nil))))) (ja_nil)))) (jss_cons (js_set 6 sc_law.nd (je_and (je_cmp (oj_eq hr.units) (je_lc rfl sc_law.nd (ji_seq (je_var 5)) (blkOk_by (N := ["_law_script", "_law_row", "_law_odd", "_law_good", "_law_words", "_law_drawn", "_law_due", "_law_one", "_law_design_here", "_law_each", "_law_turn", "_law_word"]) (sc := defScope s_law) (by decide +kernel)) (fun _ _ _ _ _ => pg_name (i := 11) sc_law.nd rfl (by first | exact Or.inl rfl | exact Or.inr rfl)) (fun _ _ _ _ _ => jts_one (jt_cmp (oj_notin (J.Room.u65 hr)) (je_var 11) (je_slice (je_var 4) (jo_none) (jo_some (je_int))))) (fun _ _ _ _ _ => je_var 11)) (je_lst (ja_nil))) (je_one (je_cmp (oj_eq hr.units) (je_Ty cj_list Fx.bi_list bt_list (ja_cons (je_var 5) (ja_nil))) (je_sortSet rfl Fx.bi_sorted Fx.bi_set (je_var 5)))))) (jss_cons (js_if (jt_not (jt_val (je_call (j_law_alike Fx 2) (hr.mono (by decide)) tk (ja_cons (je_call (j_is_design Fx) (hr.mono (by decide)) tk (ja_cons (je_var 5) (ja_nil))) (ja_cons (je_var 6) (ja_nil)))))) (jss_one (js_ret (je_bl))) (jss_nil)) (jss_one (js_ret (je_cmp oj_is (je_call (j_is_design Fx) (hr.mono (by decide)) tk (ja_cons (je_call (j_law_pick Fx) (hr.mono (by decide)) tk (ja_cons (je_var 1) (ja_cons (je_lst (ja_cons (je_non) (ja_cons (je_Ty cj_list Fx.bi_list bt_list (ja_cons (je_var 8) (ja_nil))) (ja_cons (je_str) (ja_cons (je_tup (ja_cons (je_non) (ja_nil))) (ja_cons (je_tup (ja_cons (je_int) (ja_nil))) (ja_cons (je_dict0) (ja_nil)))))))) (ja_nil)))) (ja_nil))) (je_bl))))))))))))))))
end
end G


set_option Elab.async false
set_option linter.all false
namespace G
open PySem PySem.Spec L2 J
@[simp] theorem ok_0 : PyData.strOk (PySem.Str.ofString "read") = true := by decide +kernel
@[simp] theorem len_0 : (PySem.Str.ofString "read").length = 4 := by decide +kernel
@[simp] theorem ne_0_1 : (PySem.Str.ofString "read" = PySem.Str.ofString "write") = False := eq_false (by decide +kernel)
@[simp] theorem nb_0_1 : (PySem.Str.ofString "read" == PySem.Str.ofString "write") = false := by decide +kernel
@[simp] theorem ne_0_2 : (PySem.Str.ofString "read" = PySem.Str.ofString "copy") = False := eq_false (by decide +kernel)
@[simp] theorem nb_0_2 : (PySem.Str.ofString "read" == PySem.Str.ofString "copy") = false := by decide +kernel
@[simp] theorem ne_0_3 : (PySem.Str.ofString "read" = PySem.Str.ofString "fence") = False := eq_false (by decide +kernel)
@[simp] theorem nb_0_3 : (PySem.Str.ofString "read" == PySem.Str.ofString "fence") = false := by decide +kernel
@[simp] theorem ne_0_4 : (PySem.Str.ofString "read" = PySem.Str.ofString "guard") = False := eq_false (by decide +kernel)
@[simp] theorem nb_0_4 : (PySem.Str.ofString "read" == PySem.Str.ofString "guard") = false := by decide +kernel
@[simp] theorem ne_0_5 : (PySem.Str.ofString "read" = PySem.Str.ofString "gr") = False := eq_false (by decide +kernel)
@[simp] theorem nb_0_5 : (PySem.Str.ofString "read" == PySem.Str.ofString "gr") = false := by decide +kernel
@[simp] theorem ne_0_6 : (PySem.Str.ofString "read" = PySem.Str.ofString "gw") = False := eq_false (by decide +kernel)
@[simp] theorem nb_0_6 : (PySem.Str.ofString "read" == PySem.Str.ofString "gw") = false := by decide +kernel
@[simp] theorem ne_0_7 : (PySem.Str.ofString "read" = PySem.Str.ofString "own") = False := eq_false (by decide +kernel)
@[simp] theorem nb_0_7 : (PySem.Str.ofString "read" == PySem.Str.ofString "own") = false := by decide +kernel
@[simp] theorem ne_0_8 : (PySem.Str.ofString "read" = PySem.Str.ofString "rr") = False := eq_false (by decide +kernel)
@[simp] theorem nb_0_8 : (PySem.Str.ofString "read" == PySem.Str.ofString "rr") = false := by decide +kernel
@[simp] theorem ne_0_9 : (PySem.Str.ofString "read" = PySem.Str.ofString "rw") = False := eq_false (by decide +kernel)
@[simp] theorem nb_0_9 : (PySem.Str.ofString "read" == PySem.Str.ofString "rw") = false := by decide +kernel
@[simp] theorem ne_0_10 : (PySem.Str.ofString "read" = PySem.Str.ofString "ss") = False := eq_false (by decide +kernel)
@[simp] theorem nb_0_10 : (PySem.Str.ofString "read" == PySem.Str.ofString "ss") = false := by decide +kernel
@[simp] theorem ne_0_11 : (PySem.Str.ofString "read" = PySem.Str.ofString "wr") = False := eq_false (by decide +kernel)
@[simp] theorem nb_0_11 : (PySem.Str.ofString "read" == PySem.Str.ofString "wr") = false := by decide +kernel
@[simp] theorem ne_0_12 : (PySem.Str.ofString "read" = PySem.Str.ofString "ww") = False := eq_false (by decide +kernel)
@[simp] theorem nb_0_12 : (PySem.Str.ofString "read" == PySem.Str.ofString "ww") = false := by decide +kernel
@[simp] theorem ne_0_13 : (PySem.Str.ofString "read" = PySem.Str.ofString "xx") = False := eq_false (by decide +kernel)
@[simp] theorem nb_0_13 : (PySem.Str.ofString "read" == PySem.Str.ofString "xx") = false := by decide +kernel
@[simp] theorem ne_0_14 : (PySem.Str.ofString "read" = PySem.Str.ofString "") = False := eq_false (by decide +kernel)
@[simp] theorem nb_0_14 : (PySem.Str.ofString "read" == PySem.Str.ofString "") = false := by decide +kernel
@[simp] theorem ne_0_15 : (PySem.Str.ofString "read" = PySem.Str.ofString "hop") = False := eq_false (by decide +kernel)
@[simp] theorem nb_0_15 : (PySem.Str.ofString "read" == PySem.Str.ofString "hop") = false := by decide +kernel
@[simp] theorem ne_0_16 : (PySem.Str.ofString "read" = PySem.Str.ofString "Read") = False := eq_false (by decide +kernel)
@[simp] theorem nb_0_16 : (PySem.Str.ofString "read" == PySem.Str.ofString "Read") = false := by decide +kernel
@[simp] theorem ok_1 : PyData.strOk (PySem.Str.ofString "write") = true := by decide +kernel
@[simp] theorem len_1 : (PySem.Str.ofString "write").length = 5 := by decide +kernel
@[simp] theorem ne_1_0 : (PySem.Str.ofString "write" = PySem.Str.ofString "read") = False := eq_false (by decide +kernel)
@[simp] theorem nb_1_0 : (PySem.Str.ofString "write" == PySem.Str.ofString "read") = false := by decide +kernel
@[simp] theorem ne_1_2 : (PySem.Str.ofString "write" = PySem.Str.ofString "copy") = False := eq_false (by decide +kernel)
@[simp] theorem nb_1_2 : (PySem.Str.ofString "write" == PySem.Str.ofString "copy") = false := by decide +kernel
@[simp] theorem ne_1_3 : (PySem.Str.ofString "write" = PySem.Str.ofString "fence") = False := eq_false (by decide +kernel)
@[simp] theorem nb_1_3 : (PySem.Str.ofString "write" == PySem.Str.ofString "fence") = false := by decide +kernel
@[simp] theorem ne_1_4 : (PySem.Str.ofString "write" = PySem.Str.ofString "guard") = False := eq_false (by decide +kernel)
@[simp] theorem nb_1_4 : (PySem.Str.ofString "write" == PySem.Str.ofString "guard") = false := by decide +kernel
@[simp] theorem ne_1_5 : (PySem.Str.ofString "write" = PySem.Str.ofString "gr") = False := eq_false (by decide +kernel)
@[simp] theorem nb_1_5 : (PySem.Str.ofString "write" == PySem.Str.ofString "gr") = false := by decide +kernel
@[simp] theorem ne_1_6 : (PySem.Str.ofString "write" = PySem.Str.ofString "gw") = False := eq_false (by decide +kernel)
@[simp] theorem nb_1_6 : (PySem.Str.ofString "write" == PySem.Str.ofString "gw") = false := by decide +kernel
@[simp] theorem ne_1_7 : (PySem.Str.ofString "write" = PySem.Str.ofString "own") = False := eq_false (by decide +kernel)
@[simp] theorem nb_1_7 : (PySem.Str.ofString "write" == PySem.Str.ofString "own") = false := by decide +kernel
@[simp] theorem ne_1_8 : (PySem.Str.ofString "write" = PySem.Str.ofString "rr") = False := eq_false (by decide +kernel)
@[simp] theorem nb_1_8 : (PySem.Str.ofString "write" == PySem.Str.ofString "rr") = false := by decide +kernel
@[simp] theorem ne_1_9 : (PySem.Str.ofString "write" = PySem.Str.ofString "rw") = False := eq_false (by decide +kernel)
@[simp] theorem nb_1_9 : (PySem.Str.ofString "write" == PySem.Str.ofString "rw") = false := by decide +kernel
@[simp] theorem ne_1_10 : (PySem.Str.ofString "write" = PySem.Str.ofString "ss") = False := eq_false (by decide +kernel)
@[simp] theorem nb_1_10 : (PySem.Str.ofString "write" == PySem.Str.ofString "ss") = false := by decide +kernel
@[simp] theorem ne_1_11 : (PySem.Str.ofString "write" = PySem.Str.ofString "wr") = False := eq_false (by decide +kernel)
@[simp] theorem nb_1_11 : (PySem.Str.ofString "write" == PySem.Str.ofString "wr") = false := by decide +kernel
@[simp] theorem ne_1_12 : (PySem.Str.ofString "write" = PySem.Str.ofString "ww") = False := eq_false (by decide +kernel)
@[simp] theorem nb_1_12 : (PySem.Str.ofString "write" == PySem.Str.ofString "ww") = false := by decide +kernel
@[simp] theorem ne_1_13 : (PySem.Str.ofString "write" = PySem.Str.ofString "xx") = False := eq_false (by decide +kernel)
@[simp] theorem nb_1_13 : (PySem.Str.ofString "write" == PySem.Str.ofString "xx") = false := by decide +kernel
@[simp] theorem ne_1_14 : (PySem.Str.ofString "write" = PySem.Str.ofString "") = False := eq_false (by decide +kernel)
@[simp] theorem nb_1_14 : (PySem.Str.ofString "write" == PySem.Str.ofString "") = false := by decide +kernel
@[simp] theorem ne_1_15 : (PySem.Str.ofString "write" = PySem.Str.ofString "hop") = False := eq_false (by decide +kernel)
@[simp] theorem nb_1_15 : (PySem.Str.ofString "write" == PySem.Str.ofString "hop") = false := by decide +kernel
@[simp] theorem ne_1_16 : (PySem.Str.ofString "write" = PySem.Str.ofString "Read") = False := eq_false (by decide +kernel)
@[simp] theorem nb_1_16 : (PySem.Str.ofString "write" == PySem.Str.ofString "Read") = false := by decide +kernel
@[simp] theorem ok_2 : PyData.strOk (PySem.Str.ofString "copy") = true := by decide +kernel
@[simp] theorem len_2 : (PySem.Str.ofString "copy").length = 4 := by decide +kernel
@[simp] theorem ne_2_0 : (PySem.Str.ofString "copy" = PySem.Str.ofString "read") = False := eq_false (by decide +kernel)
@[simp] theorem nb_2_0 : (PySem.Str.ofString "copy" == PySem.Str.ofString "read") = false := by decide +kernel
@[simp] theorem ne_2_1 : (PySem.Str.ofString "copy" = PySem.Str.ofString "write") = False := eq_false (by decide +kernel)
@[simp] theorem nb_2_1 : (PySem.Str.ofString "copy" == PySem.Str.ofString "write") = false := by decide +kernel
@[simp] theorem ne_2_3 : (PySem.Str.ofString "copy" = PySem.Str.ofString "fence") = False := eq_false (by decide +kernel)
@[simp] theorem nb_2_3 : (PySem.Str.ofString "copy" == PySem.Str.ofString "fence") = false := by decide +kernel
@[simp] theorem ne_2_4 : (PySem.Str.ofString "copy" = PySem.Str.ofString "guard") = False := eq_false (by decide +kernel)
@[simp] theorem nb_2_4 : (PySem.Str.ofString "copy" == PySem.Str.ofString "guard") = false := by decide +kernel
@[simp] theorem ne_2_5 : (PySem.Str.ofString "copy" = PySem.Str.ofString "gr") = False := eq_false (by decide +kernel)
@[simp] theorem nb_2_5 : (PySem.Str.ofString "copy" == PySem.Str.ofString "gr") = false := by decide +kernel
@[simp] theorem ne_2_6 : (PySem.Str.ofString "copy" = PySem.Str.ofString "gw") = False := eq_false (by decide +kernel)
@[simp] theorem nb_2_6 : (PySem.Str.ofString "copy" == PySem.Str.ofString "gw") = false := by decide +kernel
@[simp] theorem ne_2_7 : (PySem.Str.ofString "copy" = PySem.Str.ofString "own") = False := eq_false (by decide +kernel)
@[simp] theorem nb_2_7 : (PySem.Str.ofString "copy" == PySem.Str.ofString "own") = false := by decide +kernel
@[simp] theorem ne_2_8 : (PySem.Str.ofString "copy" = PySem.Str.ofString "rr") = False := eq_false (by decide +kernel)
@[simp] theorem nb_2_8 : (PySem.Str.ofString "copy" == PySem.Str.ofString "rr") = false := by decide +kernel
@[simp] theorem ne_2_9 : (PySem.Str.ofString "copy" = PySem.Str.ofString "rw") = False := eq_false (by decide +kernel)
@[simp] theorem nb_2_9 : (PySem.Str.ofString "copy" == PySem.Str.ofString "rw") = false := by decide +kernel
@[simp] theorem ne_2_10 : (PySem.Str.ofString "copy" = PySem.Str.ofString "ss") = False := eq_false (by decide +kernel)
@[simp] theorem nb_2_10 : (PySem.Str.ofString "copy" == PySem.Str.ofString "ss") = false := by decide +kernel
@[simp] theorem ne_2_11 : (PySem.Str.ofString "copy" = PySem.Str.ofString "wr") = False := eq_false (by decide +kernel)
@[simp] theorem nb_2_11 : (PySem.Str.ofString "copy" == PySem.Str.ofString "wr") = false := by decide +kernel
@[simp] theorem ne_2_12 : (PySem.Str.ofString "copy" = PySem.Str.ofString "ww") = False := eq_false (by decide +kernel)
@[simp] theorem nb_2_12 : (PySem.Str.ofString "copy" == PySem.Str.ofString "ww") = false := by decide +kernel
@[simp] theorem ne_2_13 : (PySem.Str.ofString "copy" = PySem.Str.ofString "xx") = False := eq_false (by decide +kernel)
@[simp] theorem nb_2_13 : (PySem.Str.ofString "copy" == PySem.Str.ofString "xx") = false := by decide +kernel
@[simp] theorem ne_2_14 : (PySem.Str.ofString "copy" = PySem.Str.ofString "") = False := eq_false (by decide +kernel)
@[simp] theorem nb_2_14 : (PySem.Str.ofString "copy" == PySem.Str.ofString "") = false := by decide +kernel
@[simp] theorem ne_2_15 : (PySem.Str.ofString "copy" = PySem.Str.ofString "hop") = False := eq_false (by decide +kernel)
@[simp] theorem nb_2_15 : (PySem.Str.ofString "copy" == PySem.Str.ofString "hop") = false := by decide +kernel
@[simp] theorem ne_2_16 : (PySem.Str.ofString "copy" = PySem.Str.ofString "Read") = False := eq_false (by decide +kernel)
@[simp] theorem nb_2_16 : (PySem.Str.ofString "copy" == PySem.Str.ofString "Read") = false := by decide +kernel
@[simp] theorem ok_3 : PyData.strOk (PySem.Str.ofString "fence") = true := by decide +kernel
@[simp] theorem len_3 : (PySem.Str.ofString "fence").length = 5 := by decide +kernel
@[simp] theorem ne_3_0 : (PySem.Str.ofString "fence" = PySem.Str.ofString "read") = False := eq_false (by decide +kernel)
@[simp] theorem nb_3_0 : (PySem.Str.ofString "fence" == PySem.Str.ofString "read") = false := by decide +kernel
@[simp] theorem ne_3_1 : (PySem.Str.ofString "fence" = PySem.Str.ofString "write") = False := eq_false (by decide +kernel)
@[simp] theorem nb_3_1 : (PySem.Str.ofString "fence" == PySem.Str.ofString "write") = false := by decide +kernel
@[simp] theorem ne_3_2 : (PySem.Str.ofString "fence" = PySem.Str.ofString "copy") = False := eq_false (by decide +kernel)
@[simp] theorem nb_3_2 : (PySem.Str.ofString "fence" == PySem.Str.ofString "copy") = false := by decide +kernel
@[simp] theorem ne_3_4 : (PySem.Str.ofString "fence" = PySem.Str.ofString "guard") = False := eq_false (by decide +kernel)
@[simp] theorem nb_3_4 : (PySem.Str.ofString "fence" == PySem.Str.ofString "guard") = false := by decide +kernel
@[simp] theorem ne_3_5 : (PySem.Str.ofString "fence" = PySem.Str.ofString "gr") = False := eq_false (by decide +kernel)
@[simp] theorem nb_3_5 : (PySem.Str.ofString "fence" == PySem.Str.ofString "gr") = false := by decide +kernel
@[simp] theorem ne_3_6 : (PySem.Str.ofString "fence" = PySem.Str.ofString "gw") = False := eq_false (by decide +kernel)
@[simp] theorem nb_3_6 : (PySem.Str.ofString "fence" == PySem.Str.ofString "gw") = false := by decide +kernel
@[simp] theorem ne_3_7 : (PySem.Str.ofString "fence" = PySem.Str.ofString "own") = False := eq_false (by decide +kernel)
@[simp] theorem nb_3_7 : (PySem.Str.ofString "fence" == PySem.Str.ofString "own") = false := by decide +kernel
@[simp] theorem ne_3_8 : (PySem.Str.ofString "fence" = PySem.Str.ofString "rr") = False := eq_false (by decide +kernel)
@[simp] theorem nb_3_8 : (PySem.Str.ofString "fence" == PySem.Str.ofString "rr") = false := by decide +kernel
@[simp] theorem ne_3_9 : (PySem.Str.ofString "fence" = PySem.Str.ofString "rw") = False := eq_false (by decide +kernel)
@[simp] theorem nb_3_9 : (PySem.Str.ofString "fence" == PySem.Str.ofString "rw") = false := by decide +kernel
@[simp] theorem ne_3_10 : (PySem.Str.ofString "fence" = PySem.Str.ofString "ss") = False := eq_false (by decide +kernel)
@[simp] theorem nb_3_10 : (PySem.Str.ofString "fence" == PySem.Str.ofString "ss") = false := by decide +kernel
@[simp] theorem ne_3_11 : (PySem.Str.ofString "fence" = PySem.Str.ofString "wr") = False := eq_false (by decide +kernel)
@[simp] theorem nb_3_11 : (PySem.Str.ofString "fence" == PySem.Str.ofString "wr") = false := by decide +kernel
@[simp] theorem ne_3_12 : (PySem.Str.ofString "fence" = PySem.Str.ofString "ww") = False := eq_false (by decide +kernel)
@[simp] theorem nb_3_12 : (PySem.Str.ofString "fence" == PySem.Str.ofString "ww") = false := by decide +kernel
@[simp] theorem ne_3_13 : (PySem.Str.ofString "fence" = PySem.Str.ofString "xx") = False := eq_false (by decide +kernel)
@[simp] theorem nb_3_13 : (PySem.Str.ofString "fence" == PySem.Str.ofString "xx") = false := by decide +kernel
@[simp] theorem ne_3_14 : (PySem.Str.ofString "fence" = PySem.Str.ofString "") = False := eq_false (by decide +kernel)
@[simp] theorem nb_3_14 : (PySem.Str.ofString "fence" == PySem.Str.ofString "") = false := by decide +kernel
@[simp] theorem ne_3_15 : (PySem.Str.ofString "fence" = PySem.Str.ofString "hop") = False := eq_false (by decide +kernel)
@[simp] theorem nb_3_15 : (PySem.Str.ofString "fence" == PySem.Str.ofString "hop") = false := by decide +kernel
@[simp] theorem ne_3_16 : (PySem.Str.ofString "fence" = PySem.Str.ofString "Read") = False := eq_false (by decide +kernel)
@[simp] theorem nb_3_16 : (PySem.Str.ofString "fence" == PySem.Str.ofString "Read") = false := by decide +kernel
@[simp] theorem ok_4 : PyData.strOk (PySem.Str.ofString "guard") = true := by decide +kernel
@[simp] theorem len_4 : (PySem.Str.ofString "guard").length = 5 := by decide +kernel
@[simp] theorem ne_4_0 : (PySem.Str.ofString "guard" = PySem.Str.ofString "read") = False := eq_false (by decide +kernel)
@[simp] theorem nb_4_0 : (PySem.Str.ofString "guard" == PySem.Str.ofString "read") = false := by decide +kernel
@[simp] theorem ne_4_1 : (PySem.Str.ofString "guard" = PySem.Str.ofString "write") = False := eq_false (by decide +kernel)
@[simp] theorem nb_4_1 : (PySem.Str.ofString "guard" == PySem.Str.ofString "write") = false := by decide +kernel
@[simp] theorem ne_4_2 : (PySem.Str.ofString "guard" = PySem.Str.ofString "copy") = False := eq_false (by decide +kernel)
@[simp] theorem nb_4_2 : (PySem.Str.ofString "guard" == PySem.Str.ofString "copy") = false := by decide +kernel
@[simp] theorem ne_4_3 : (PySem.Str.ofString "guard" = PySem.Str.ofString "fence") = False := eq_false (by decide +kernel)
@[simp] theorem nb_4_3 : (PySem.Str.ofString "guard" == PySem.Str.ofString "fence") = false := by decide +kernel
@[simp] theorem ne_4_5 : (PySem.Str.ofString "guard" = PySem.Str.ofString "gr") = False := eq_false (by decide +kernel)
@[simp] theorem nb_4_5 : (PySem.Str.ofString "guard" == PySem.Str.ofString "gr") = false := by decide +kernel
@[simp] theorem ne_4_6 : (PySem.Str.ofString "guard" = PySem.Str.ofString "gw") = False := eq_false (by decide +kernel)
@[simp] theorem nb_4_6 : (PySem.Str.ofString "guard" == PySem.Str.ofString "gw") = false := by decide +kernel
@[simp] theorem ne_4_7 : (PySem.Str.ofString "guard" = PySem.Str.ofString "own") = False := eq_false (by decide +kernel)
@[simp] theorem nb_4_7 : (PySem.Str.ofString "guard" == PySem.Str.ofString "own") = false := by decide +kernel
@[simp] theorem ne_4_8 : (PySem.Str.ofString "guard" = PySem.Str.ofString "rr") = False := eq_false (by decide +kernel)
@[simp] theorem nb_4_8 : (PySem.Str.ofString "guard" == PySem.Str.ofString "rr") = false := by decide +kernel
@[simp] theorem ne_4_9 : (PySem.Str.ofString "guard" = PySem.Str.ofString "rw") = False := eq_false (by decide +kernel)
@[simp] theorem nb_4_9 : (PySem.Str.ofString "guard" == PySem.Str.ofString "rw") = false := by decide +kernel
@[simp] theorem ne_4_10 : (PySem.Str.ofString "guard" = PySem.Str.ofString "ss") = False := eq_false (by decide +kernel)
@[simp] theorem nb_4_10 : (PySem.Str.ofString "guard" == PySem.Str.ofString "ss") = false := by decide +kernel
@[simp] theorem ne_4_11 : (PySem.Str.ofString "guard" = PySem.Str.ofString "wr") = False := eq_false (by decide +kernel)
@[simp] theorem nb_4_11 : (PySem.Str.ofString "guard" == PySem.Str.ofString "wr") = false := by decide +kernel
@[simp] theorem ne_4_12 : (PySem.Str.ofString "guard" = PySem.Str.ofString "ww") = False := eq_false (by decide +kernel)
@[simp] theorem nb_4_12 : (PySem.Str.ofString "guard" == PySem.Str.ofString "ww") = false := by decide +kernel
@[simp] theorem ne_4_13 : (PySem.Str.ofString "guard" = PySem.Str.ofString "xx") = False := eq_false (by decide +kernel)
@[simp] theorem nb_4_13 : (PySem.Str.ofString "guard" == PySem.Str.ofString "xx") = false := by decide +kernel
@[simp] theorem ne_4_14 : (PySem.Str.ofString "guard" = PySem.Str.ofString "") = False := eq_false (by decide +kernel)
@[simp] theorem nb_4_14 : (PySem.Str.ofString "guard" == PySem.Str.ofString "") = false := by decide +kernel
@[simp] theorem ne_4_15 : (PySem.Str.ofString "guard" = PySem.Str.ofString "hop") = False := eq_false (by decide +kernel)
@[simp] theorem nb_4_15 : (PySem.Str.ofString "guard" == PySem.Str.ofString "hop") = false := by decide +kernel
@[simp] theorem ne_4_16 : (PySem.Str.ofString "guard" = PySem.Str.ofString "Read") = False := eq_false (by decide +kernel)
@[simp] theorem nb_4_16 : (PySem.Str.ofString "guard" == PySem.Str.ofString "Read") = false := by decide +kernel
@[simp] theorem ok_5 : PyData.strOk (PySem.Str.ofString "gr") = true := by decide +kernel
@[simp] theorem len_5 : (PySem.Str.ofString "gr").length = 2 := by decide +kernel
@[simp] theorem ne_5_0 : (PySem.Str.ofString "gr" = PySem.Str.ofString "read") = False := eq_false (by decide +kernel)
@[simp] theorem nb_5_0 : (PySem.Str.ofString "gr" == PySem.Str.ofString "read") = false := by decide +kernel
@[simp] theorem ne_5_1 : (PySem.Str.ofString "gr" = PySem.Str.ofString "write") = False := eq_false (by decide +kernel)
@[simp] theorem nb_5_1 : (PySem.Str.ofString "gr" == PySem.Str.ofString "write") = false := by decide +kernel
@[simp] theorem ne_5_2 : (PySem.Str.ofString "gr" = PySem.Str.ofString "copy") = False := eq_false (by decide +kernel)
@[simp] theorem nb_5_2 : (PySem.Str.ofString "gr" == PySem.Str.ofString "copy") = false := by decide +kernel
@[simp] theorem ne_5_3 : (PySem.Str.ofString "gr" = PySem.Str.ofString "fence") = False := eq_false (by decide +kernel)
@[simp] theorem nb_5_3 : (PySem.Str.ofString "gr" == PySem.Str.ofString "fence") = false := by decide +kernel
@[simp] theorem ne_5_4 : (PySem.Str.ofString "gr" = PySem.Str.ofString "guard") = False := eq_false (by decide +kernel)
@[simp] theorem nb_5_4 : (PySem.Str.ofString "gr" == PySem.Str.ofString "guard") = false := by decide +kernel
@[simp] theorem ne_5_6 : (PySem.Str.ofString "gr" = PySem.Str.ofString "gw") = False := eq_false (by decide +kernel)
@[simp] theorem nb_5_6 : (PySem.Str.ofString "gr" == PySem.Str.ofString "gw") = false := by decide +kernel
@[simp] theorem ne_5_7 : (PySem.Str.ofString "gr" = PySem.Str.ofString "own") = False := eq_false (by decide +kernel)
@[simp] theorem nb_5_7 : (PySem.Str.ofString "gr" == PySem.Str.ofString "own") = false := by decide +kernel
@[simp] theorem ne_5_8 : (PySem.Str.ofString "gr" = PySem.Str.ofString "rr") = False := eq_false (by decide +kernel)
@[simp] theorem nb_5_8 : (PySem.Str.ofString "gr" == PySem.Str.ofString "rr") = false := by decide +kernel
@[simp] theorem ne_5_9 : (PySem.Str.ofString "gr" = PySem.Str.ofString "rw") = False := eq_false (by decide +kernel)
@[simp] theorem nb_5_9 : (PySem.Str.ofString "gr" == PySem.Str.ofString "rw") = false := by decide +kernel
@[simp] theorem ne_5_10 : (PySem.Str.ofString "gr" = PySem.Str.ofString "ss") = False := eq_false (by decide +kernel)
@[simp] theorem nb_5_10 : (PySem.Str.ofString "gr" == PySem.Str.ofString "ss") = false := by decide +kernel
@[simp] theorem ne_5_11 : (PySem.Str.ofString "gr" = PySem.Str.ofString "wr") = False := eq_false (by decide +kernel)
@[simp] theorem nb_5_11 : (PySem.Str.ofString "gr" == PySem.Str.ofString "wr") = false := by decide +kernel
@[simp] theorem ne_5_12 : (PySem.Str.ofString "gr" = PySem.Str.ofString "ww") = False := eq_false (by decide +kernel)
@[simp] theorem nb_5_12 : (PySem.Str.ofString "gr" == PySem.Str.ofString "ww") = false := by decide +kernel
@[simp] theorem ne_5_13 : (PySem.Str.ofString "gr" = PySem.Str.ofString "xx") = False := eq_false (by decide +kernel)
@[simp] theorem nb_5_13 : (PySem.Str.ofString "gr" == PySem.Str.ofString "xx") = false := by decide +kernel
@[simp] theorem ne_5_14 : (PySem.Str.ofString "gr" = PySem.Str.ofString "") = False := eq_false (by decide +kernel)
@[simp] theorem nb_5_14 : (PySem.Str.ofString "gr" == PySem.Str.ofString "") = false := by decide +kernel
@[simp] theorem ne_5_15 : (PySem.Str.ofString "gr" = PySem.Str.ofString "hop") = False := eq_false (by decide +kernel)
@[simp] theorem nb_5_15 : (PySem.Str.ofString "gr" == PySem.Str.ofString "hop") = false := by decide +kernel
@[simp] theorem ne_5_16 : (PySem.Str.ofString "gr" = PySem.Str.ofString "Read") = False := eq_false (by decide +kernel)
@[simp] theorem nb_5_16 : (PySem.Str.ofString "gr" == PySem.Str.ofString "Read") = false := by decide +kernel
@[simp] theorem ok_6 : PyData.strOk (PySem.Str.ofString "gw") = true := by decide +kernel
@[simp] theorem len_6 : (PySem.Str.ofString "gw").length = 2 := by decide +kernel
@[simp] theorem ne_6_0 : (PySem.Str.ofString "gw" = PySem.Str.ofString "read") = False := eq_false (by decide +kernel)
@[simp] theorem nb_6_0 : (PySem.Str.ofString "gw" == PySem.Str.ofString "read") = false := by decide +kernel
@[simp] theorem ne_6_1 : (PySem.Str.ofString "gw" = PySem.Str.ofString "write") = False := eq_false (by decide +kernel)
@[simp] theorem nb_6_1 : (PySem.Str.ofString "gw" == PySem.Str.ofString "write") = false := by decide +kernel
@[simp] theorem ne_6_2 : (PySem.Str.ofString "gw" = PySem.Str.ofString "copy") = False := eq_false (by decide +kernel)
@[simp] theorem nb_6_2 : (PySem.Str.ofString "gw" == PySem.Str.ofString "copy") = false := by decide +kernel
@[simp] theorem ne_6_3 : (PySem.Str.ofString "gw" = PySem.Str.ofString "fence") = False := eq_false (by decide +kernel)
@[simp] theorem nb_6_3 : (PySem.Str.ofString "gw" == PySem.Str.ofString "fence") = false := by decide +kernel
@[simp] theorem ne_6_4 : (PySem.Str.ofString "gw" = PySem.Str.ofString "guard") = False := eq_false (by decide +kernel)
@[simp] theorem nb_6_4 : (PySem.Str.ofString "gw" == PySem.Str.ofString "guard") = false := by decide +kernel
@[simp] theorem ne_6_5 : (PySem.Str.ofString "gw" = PySem.Str.ofString "gr") = False := eq_false (by decide +kernel)
@[simp] theorem nb_6_5 : (PySem.Str.ofString "gw" == PySem.Str.ofString "gr") = false := by decide +kernel
@[simp] theorem ne_6_7 : (PySem.Str.ofString "gw" = PySem.Str.ofString "own") = False := eq_false (by decide +kernel)
@[simp] theorem nb_6_7 : (PySem.Str.ofString "gw" == PySem.Str.ofString "own") = false := by decide +kernel
@[simp] theorem ne_6_8 : (PySem.Str.ofString "gw" = PySem.Str.ofString "rr") = False := eq_false (by decide +kernel)
@[simp] theorem nb_6_8 : (PySem.Str.ofString "gw" == PySem.Str.ofString "rr") = false := by decide +kernel
@[simp] theorem ne_6_9 : (PySem.Str.ofString "gw" = PySem.Str.ofString "rw") = False := eq_false (by decide +kernel)
@[simp] theorem nb_6_9 : (PySem.Str.ofString "gw" == PySem.Str.ofString "rw") = false := by decide +kernel
@[simp] theorem ne_6_10 : (PySem.Str.ofString "gw" = PySem.Str.ofString "ss") = False := eq_false (by decide +kernel)
@[simp] theorem nb_6_10 : (PySem.Str.ofString "gw" == PySem.Str.ofString "ss") = false := by decide +kernel
@[simp] theorem ne_6_11 : (PySem.Str.ofString "gw" = PySem.Str.ofString "wr") = False := eq_false (by decide +kernel)
@[simp] theorem nb_6_11 : (PySem.Str.ofString "gw" == PySem.Str.ofString "wr") = false := by decide +kernel
@[simp] theorem ne_6_12 : (PySem.Str.ofString "gw" = PySem.Str.ofString "ww") = False := eq_false (by decide +kernel)
@[simp] theorem nb_6_12 : (PySem.Str.ofString "gw" == PySem.Str.ofString "ww") = false := by decide +kernel
@[simp] theorem ne_6_13 : (PySem.Str.ofString "gw" = PySem.Str.ofString "xx") = False := eq_false (by decide +kernel)
@[simp] theorem nb_6_13 : (PySem.Str.ofString "gw" == PySem.Str.ofString "xx") = false := by decide +kernel
@[simp] theorem ne_6_14 : (PySem.Str.ofString "gw" = PySem.Str.ofString "") = False := eq_false (by decide +kernel)
@[simp] theorem nb_6_14 : (PySem.Str.ofString "gw" == PySem.Str.ofString "") = false := by decide +kernel
@[simp] theorem ne_6_15 : (PySem.Str.ofString "gw" = PySem.Str.ofString "hop") = False := eq_false (by decide +kernel)
@[simp] theorem nb_6_15 : (PySem.Str.ofString "gw" == PySem.Str.ofString "hop") = false := by decide +kernel
@[simp] theorem ne_6_16 : (PySem.Str.ofString "gw" = PySem.Str.ofString "Read") = False := eq_false (by decide +kernel)
@[simp] theorem nb_6_16 : (PySem.Str.ofString "gw" == PySem.Str.ofString "Read") = false := by decide +kernel
@[simp] theorem ok_7 : PyData.strOk (PySem.Str.ofString "own") = true := by decide +kernel
@[simp] theorem len_7 : (PySem.Str.ofString "own").length = 3 := by decide +kernel
@[simp] theorem ne_7_0 : (PySem.Str.ofString "own" = PySem.Str.ofString "read") = False := eq_false (by decide +kernel)
@[simp] theorem nb_7_0 : (PySem.Str.ofString "own" == PySem.Str.ofString "read") = false := by decide +kernel
@[simp] theorem ne_7_1 : (PySem.Str.ofString "own" = PySem.Str.ofString "write") = False := eq_false (by decide +kernel)
@[simp] theorem nb_7_1 : (PySem.Str.ofString "own" == PySem.Str.ofString "write") = false := by decide +kernel
@[simp] theorem ne_7_2 : (PySem.Str.ofString "own" = PySem.Str.ofString "copy") = False := eq_false (by decide +kernel)
@[simp] theorem nb_7_2 : (PySem.Str.ofString "own" == PySem.Str.ofString "copy") = false := by decide +kernel
@[simp] theorem ne_7_3 : (PySem.Str.ofString "own" = PySem.Str.ofString "fence") = False := eq_false (by decide +kernel)
@[simp] theorem nb_7_3 : (PySem.Str.ofString "own" == PySem.Str.ofString "fence") = false := by decide +kernel
@[simp] theorem ne_7_4 : (PySem.Str.ofString "own" = PySem.Str.ofString "guard") = False := eq_false (by decide +kernel)
@[simp] theorem nb_7_4 : (PySem.Str.ofString "own" == PySem.Str.ofString "guard") = false := by decide +kernel
@[simp] theorem ne_7_5 : (PySem.Str.ofString "own" = PySem.Str.ofString "gr") = False := eq_false (by decide +kernel)
@[simp] theorem nb_7_5 : (PySem.Str.ofString "own" == PySem.Str.ofString "gr") = false := by decide +kernel
@[simp] theorem ne_7_6 : (PySem.Str.ofString "own" = PySem.Str.ofString "gw") = False := eq_false (by decide +kernel)
@[simp] theorem nb_7_6 : (PySem.Str.ofString "own" == PySem.Str.ofString "gw") = false := by decide +kernel
@[simp] theorem ne_7_8 : (PySem.Str.ofString "own" = PySem.Str.ofString "rr") = False := eq_false (by decide +kernel)
@[simp] theorem nb_7_8 : (PySem.Str.ofString "own" == PySem.Str.ofString "rr") = false := by decide +kernel
@[simp] theorem ne_7_9 : (PySem.Str.ofString "own" = PySem.Str.ofString "rw") = False := eq_false (by decide +kernel)
@[simp] theorem nb_7_9 : (PySem.Str.ofString "own" == PySem.Str.ofString "rw") = false := by decide +kernel
@[simp] theorem ne_7_10 : (PySem.Str.ofString "own" = PySem.Str.ofString "ss") = False := eq_false (by decide +kernel)
@[simp] theorem nb_7_10 : (PySem.Str.ofString "own" == PySem.Str.ofString "ss") = false := by decide +kernel
@[simp] theorem ne_7_11 : (PySem.Str.ofString "own" = PySem.Str.ofString "wr") = False := eq_false (by decide +kernel)
@[simp] theorem nb_7_11 : (PySem.Str.ofString "own" == PySem.Str.ofString "wr") = false := by decide +kernel
@[simp] theorem ne_7_12 : (PySem.Str.ofString "own" = PySem.Str.ofString "ww") = False := eq_false (by decide +kernel)
@[simp] theorem nb_7_12 : (PySem.Str.ofString "own" == PySem.Str.ofString "ww") = false := by decide +kernel
@[simp] theorem ne_7_13 : (PySem.Str.ofString "own" = PySem.Str.ofString "xx") = False := eq_false (by decide +kernel)
@[simp] theorem nb_7_13 : (PySem.Str.ofString "own" == PySem.Str.ofString "xx") = false := by decide +kernel
@[simp] theorem ne_7_14 : (PySem.Str.ofString "own" = PySem.Str.ofString "") = False := eq_false (by decide +kernel)
@[simp] theorem nb_7_14 : (PySem.Str.ofString "own" == PySem.Str.ofString "") = false := by decide +kernel
@[simp] theorem ne_7_15 : (PySem.Str.ofString "own" = PySem.Str.ofString "hop") = False := eq_false (by decide +kernel)
@[simp] theorem nb_7_15 : (PySem.Str.ofString "own" == PySem.Str.ofString "hop") = false := by decide +kernel
@[simp] theorem ne_7_16 : (PySem.Str.ofString "own" = PySem.Str.ofString "Read") = False := eq_false (by decide +kernel)
@[simp] theorem nb_7_16 : (PySem.Str.ofString "own" == PySem.Str.ofString "Read") = false := by decide +kernel
@[simp] theorem ok_8 : PyData.strOk (PySem.Str.ofString "rr") = true := by decide +kernel
@[simp] theorem len_8 : (PySem.Str.ofString "rr").length = 2 := by decide +kernel
@[simp] theorem ne_8_0 : (PySem.Str.ofString "rr" = PySem.Str.ofString "read") = False := eq_false (by decide +kernel)
@[simp] theorem nb_8_0 : (PySem.Str.ofString "rr" == PySem.Str.ofString "read") = false := by decide +kernel
@[simp] theorem ne_8_1 : (PySem.Str.ofString "rr" = PySem.Str.ofString "write") = False := eq_false (by decide +kernel)
@[simp] theorem nb_8_1 : (PySem.Str.ofString "rr" == PySem.Str.ofString "write") = false := by decide +kernel
@[simp] theorem ne_8_2 : (PySem.Str.ofString "rr" = PySem.Str.ofString "copy") = False := eq_false (by decide +kernel)
@[simp] theorem nb_8_2 : (PySem.Str.ofString "rr" == PySem.Str.ofString "copy") = false := by decide +kernel
@[simp] theorem ne_8_3 : (PySem.Str.ofString "rr" = PySem.Str.ofString "fence") = False := eq_false (by decide +kernel)
@[simp] theorem nb_8_3 : (PySem.Str.ofString "rr" == PySem.Str.ofString "fence") = false := by decide +kernel
@[simp] theorem ne_8_4 : (PySem.Str.ofString "rr" = PySem.Str.ofString "guard") = False := eq_false (by decide +kernel)
@[simp] theorem nb_8_4 : (PySem.Str.ofString "rr" == PySem.Str.ofString "guard") = false := by decide +kernel
@[simp] theorem ne_8_5 : (PySem.Str.ofString "rr" = PySem.Str.ofString "gr") = False := eq_false (by decide +kernel)
@[simp] theorem nb_8_5 : (PySem.Str.ofString "rr" == PySem.Str.ofString "gr") = false := by decide +kernel
@[simp] theorem ne_8_6 : (PySem.Str.ofString "rr" = PySem.Str.ofString "gw") = False := eq_false (by decide +kernel)
@[simp] theorem nb_8_6 : (PySem.Str.ofString "rr" == PySem.Str.ofString "gw") = false := by decide +kernel
@[simp] theorem ne_8_7 : (PySem.Str.ofString "rr" = PySem.Str.ofString "own") = False := eq_false (by decide +kernel)
@[simp] theorem nb_8_7 : (PySem.Str.ofString "rr" == PySem.Str.ofString "own") = false := by decide +kernel
@[simp] theorem ne_8_9 : (PySem.Str.ofString "rr" = PySem.Str.ofString "rw") = False := eq_false (by decide +kernel)
@[simp] theorem nb_8_9 : (PySem.Str.ofString "rr" == PySem.Str.ofString "rw") = false := by decide +kernel
@[simp] theorem ne_8_10 : (PySem.Str.ofString "rr" = PySem.Str.ofString "ss") = False := eq_false (by decide +kernel)
@[simp] theorem nb_8_10 : (PySem.Str.ofString "rr" == PySem.Str.ofString "ss") = false := by decide +kernel
@[simp] theorem ne_8_11 : (PySem.Str.ofString "rr" = PySem.Str.ofString "wr") = False := eq_false (by decide +kernel)
@[simp] theorem nb_8_11 : (PySem.Str.ofString "rr" == PySem.Str.ofString "wr") = false := by decide +kernel
@[simp] theorem ne_8_12 : (PySem.Str.ofString "rr" = PySem.Str.ofString "ww") = False := eq_false (by decide +kernel)
@[simp] theorem nb_8_12 : (PySem.Str.ofString "rr" == PySem.Str.ofString "ww") = false := by decide +kernel
@[simp] theorem ne_8_13 : (PySem.Str.ofString "rr" = PySem.Str.ofString "xx") = False := eq_false (by decide +kernel)
@[simp] theorem nb_8_13 : (PySem.Str.ofString "rr" == PySem.Str.ofString "xx") = false := by decide +kernel
@[simp] theorem ne_8_14 : (PySem.Str.ofString "rr" = PySem.Str.ofString "") = False := eq_false (by decide +kernel)
@[simp] theorem nb_8_14 : (PySem.Str.ofString "rr" == PySem.Str.ofString "") = false := by decide +kernel
@[simp] theorem ne_8_15 : (PySem.Str.ofString "rr" = PySem.Str.ofString "hop") = False := eq_false (by decide +kernel)
@[simp] theorem nb_8_15 : (PySem.Str.ofString "rr" == PySem.Str.ofString "hop") = false := by decide +kernel
@[simp] theorem ne_8_16 : (PySem.Str.ofString "rr" = PySem.Str.ofString "Read") = False := eq_false (by decide +kernel)
@[simp] theorem nb_8_16 : (PySem.Str.ofString "rr" == PySem.Str.ofString "Read") = false := by decide +kernel
@[simp] theorem ok_9 : PyData.strOk (PySem.Str.ofString "rw") = true := by decide +kernel
@[simp] theorem len_9 : (PySem.Str.ofString "rw").length = 2 := by decide +kernel
@[simp] theorem ne_9_0 : (PySem.Str.ofString "rw" = PySem.Str.ofString "read") = False := eq_false (by decide +kernel)
@[simp] theorem nb_9_0 : (PySem.Str.ofString "rw" == PySem.Str.ofString "read") = false := by decide +kernel
@[simp] theorem ne_9_1 : (PySem.Str.ofString "rw" = PySem.Str.ofString "write") = False := eq_false (by decide +kernel)
@[simp] theorem nb_9_1 : (PySem.Str.ofString "rw" == PySem.Str.ofString "write") = false := by decide +kernel
@[simp] theorem ne_9_2 : (PySem.Str.ofString "rw" = PySem.Str.ofString "copy") = False := eq_false (by decide +kernel)
@[simp] theorem nb_9_2 : (PySem.Str.ofString "rw" == PySem.Str.ofString "copy") = false := by decide +kernel
@[simp] theorem ne_9_3 : (PySem.Str.ofString "rw" = PySem.Str.ofString "fence") = False := eq_false (by decide +kernel)
@[simp] theorem nb_9_3 : (PySem.Str.ofString "rw" == PySem.Str.ofString "fence") = false := by decide +kernel
@[simp] theorem ne_9_4 : (PySem.Str.ofString "rw" = PySem.Str.ofString "guard") = False := eq_false (by decide +kernel)
@[simp] theorem nb_9_4 : (PySem.Str.ofString "rw" == PySem.Str.ofString "guard") = false := by decide +kernel
@[simp] theorem ne_9_5 : (PySem.Str.ofString "rw" = PySem.Str.ofString "gr") = False := eq_false (by decide +kernel)
@[simp] theorem nb_9_5 : (PySem.Str.ofString "rw" == PySem.Str.ofString "gr") = false := by decide +kernel
@[simp] theorem ne_9_6 : (PySem.Str.ofString "rw" = PySem.Str.ofString "gw") = False := eq_false (by decide +kernel)
@[simp] theorem nb_9_6 : (PySem.Str.ofString "rw" == PySem.Str.ofString "gw") = false := by decide +kernel
@[simp] theorem ne_9_7 : (PySem.Str.ofString "rw" = PySem.Str.ofString "own") = False := eq_false (by decide +kernel)
@[simp] theorem nb_9_7 : (PySem.Str.ofString "rw" == PySem.Str.ofString "own") = false := by decide +kernel
@[simp] theorem ne_9_8 : (PySem.Str.ofString "rw" = PySem.Str.ofString "rr") = False := eq_false (by decide +kernel)
@[simp] theorem nb_9_8 : (PySem.Str.ofString "rw" == PySem.Str.ofString "rr") = false := by decide +kernel
@[simp] theorem ne_9_10 : (PySem.Str.ofString "rw" = PySem.Str.ofString "ss") = False := eq_false (by decide +kernel)
@[simp] theorem nb_9_10 : (PySem.Str.ofString "rw" == PySem.Str.ofString "ss") = false := by decide +kernel
@[simp] theorem ne_9_11 : (PySem.Str.ofString "rw" = PySem.Str.ofString "wr") = False := eq_false (by decide +kernel)
@[simp] theorem nb_9_11 : (PySem.Str.ofString "rw" == PySem.Str.ofString "wr") = false := by decide +kernel
@[simp] theorem ne_9_12 : (PySem.Str.ofString "rw" = PySem.Str.ofString "ww") = False := eq_false (by decide +kernel)
@[simp] theorem nb_9_12 : (PySem.Str.ofString "rw" == PySem.Str.ofString "ww") = false := by decide +kernel
@[simp] theorem ne_9_13 : (PySem.Str.ofString "rw" = PySem.Str.ofString "xx") = False := eq_false (by decide +kernel)
@[simp] theorem nb_9_13 : (PySem.Str.ofString "rw" == PySem.Str.ofString "xx") = false := by decide +kernel
@[simp] theorem ne_9_14 : (PySem.Str.ofString "rw" = PySem.Str.ofString "") = False := eq_false (by decide +kernel)
@[simp] theorem nb_9_14 : (PySem.Str.ofString "rw" == PySem.Str.ofString "") = false := by decide +kernel
@[simp] theorem ne_9_15 : (PySem.Str.ofString "rw" = PySem.Str.ofString "hop") = False := eq_false (by decide +kernel)
@[simp] theorem nb_9_15 : (PySem.Str.ofString "rw" == PySem.Str.ofString "hop") = false := by decide +kernel
@[simp] theorem ne_9_16 : (PySem.Str.ofString "rw" = PySem.Str.ofString "Read") = False := eq_false (by decide +kernel)
@[simp] theorem nb_9_16 : (PySem.Str.ofString "rw" == PySem.Str.ofString "Read") = false := by decide +kernel
@[simp] theorem ok_10 : PyData.strOk (PySem.Str.ofString "ss") = true := by decide +kernel
@[simp] theorem len_10 : (PySem.Str.ofString "ss").length = 2 := by decide +kernel
@[simp] theorem ne_10_0 : (PySem.Str.ofString "ss" = PySem.Str.ofString "read") = False := eq_false (by decide +kernel)
@[simp] theorem nb_10_0 : (PySem.Str.ofString "ss" == PySem.Str.ofString "read") = false := by decide +kernel
@[simp] theorem ne_10_1 : (PySem.Str.ofString "ss" = PySem.Str.ofString "write") = False := eq_false (by decide +kernel)
@[simp] theorem nb_10_1 : (PySem.Str.ofString "ss" == PySem.Str.ofString "write") = false := by decide +kernel
@[simp] theorem ne_10_2 : (PySem.Str.ofString "ss" = PySem.Str.ofString "copy") = False := eq_false (by decide +kernel)
@[simp] theorem nb_10_2 : (PySem.Str.ofString "ss" == PySem.Str.ofString "copy") = false := by decide +kernel
@[simp] theorem ne_10_3 : (PySem.Str.ofString "ss" = PySem.Str.ofString "fence") = False := eq_false (by decide +kernel)
@[simp] theorem nb_10_3 : (PySem.Str.ofString "ss" == PySem.Str.ofString "fence") = false := by decide +kernel
@[simp] theorem ne_10_4 : (PySem.Str.ofString "ss" = PySem.Str.ofString "guard") = False := eq_false (by decide +kernel)
@[simp] theorem nb_10_4 : (PySem.Str.ofString "ss" == PySem.Str.ofString "guard") = false := by decide +kernel
@[simp] theorem ne_10_5 : (PySem.Str.ofString "ss" = PySem.Str.ofString "gr") = False := eq_false (by decide +kernel)
@[simp] theorem nb_10_5 : (PySem.Str.ofString "ss" == PySem.Str.ofString "gr") = false := by decide +kernel
@[simp] theorem ne_10_6 : (PySem.Str.ofString "ss" = PySem.Str.ofString "gw") = False := eq_false (by decide +kernel)
@[simp] theorem nb_10_6 : (PySem.Str.ofString "ss" == PySem.Str.ofString "gw") = false := by decide +kernel
@[simp] theorem ne_10_7 : (PySem.Str.ofString "ss" = PySem.Str.ofString "own") = False := eq_false (by decide +kernel)
@[simp] theorem nb_10_7 : (PySem.Str.ofString "ss" == PySem.Str.ofString "own") = false := by decide +kernel
@[simp] theorem ne_10_8 : (PySem.Str.ofString "ss" = PySem.Str.ofString "rr") = False := eq_false (by decide +kernel)
@[simp] theorem nb_10_8 : (PySem.Str.ofString "ss" == PySem.Str.ofString "rr") = false := by decide +kernel
@[simp] theorem ne_10_9 : (PySem.Str.ofString "ss" = PySem.Str.ofString "rw") = False := eq_false (by decide +kernel)
@[simp] theorem nb_10_9 : (PySem.Str.ofString "ss" == PySem.Str.ofString "rw") = false := by decide +kernel
@[simp] theorem ne_10_11 : (PySem.Str.ofString "ss" = PySem.Str.ofString "wr") = False := eq_false (by decide +kernel)
@[simp] theorem nb_10_11 : (PySem.Str.ofString "ss" == PySem.Str.ofString "wr") = false := by decide +kernel
@[simp] theorem ne_10_12 : (PySem.Str.ofString "ss" = PySem.Str.ofString "ww") = False := eq_false (by decide +kernel)
@[simp] theorem nb_10_12 : (PySem.Str.ofString "ss" == PySem.Str.ofString "ww") = false := by decide +kernel
@[simp] theorem ne_10_13 : (PySem.Str.ofString "ss" = PySem.Str.ofString "xx") = False := eq_false (by decide +kernel)
@[simp] theorem nb_10_13 : (PySem.Str.ofString "ss" == PySem.Str.ofString "xx") = false := by decide +kernel
@[simp] theorem ne_10_14 : (PySem.Str.ofString "ss" = PySem.Str.ofString "") = False := eq_false (by decide +kernel)
@[simp] theorem nb_10_14 : (PySem.Str.ofString "ss" == PySem.Str.ofString "") = false := by decide +kernel
@[simp] theorem ne_10_15 : (PySem.Str.ofString "ss" = PySem.Str.ofString "hop") = False := eq_false (by decide +kernel)
@[simp] theorem nb_10_15 : (PySem.Str.ofString "ss" == PySem.Str.ofString "hop") = false := by decide +kernel
@[simp] theorem ne_10_16 : (PySem.Str.ofString "ss" = PySem.Str.ofString "Read") = False := eq_false (by decide +kernel)
@[simp] theorem nb_10_16 : (PySem.Str.ofString "ss" == PySem.Str.ofString "Read") = false := by decide +kernel
@[simp] theorem ok_11 : PyData.strOk (PySem.Str.ofString "wr") = true := by decide +kernel
@[simp] theorem len_11 : (PySem.Str.ofString "wr").length = 2 := by decide +kernel
@[simp] theorem ne_11_0 : (PySem.Str.ofString "wr" = PySem.Str.ofString "read") = False := eq_false (by decide +kernel)
@[simp] theorem nb_11_0 : (PySem.Str.ofString "wr" == PySem.Str.ofString "read") = false := by decide +kernel
@[simp] theorem ne_11_1 : (PySem.Str.ofString "wr" = PySem.Str.ofString "write") = False := eq_false (by decide +kernel)
@[simp] theorem nb_11_1 : (PySem.Str.ofString "wr" == PySem.Str.ofString "write") = false := by decide +kernel
@[simp] theorem ne_11_2 : (PySem.Str.ofString "wr" = PySem.Str.ofString "copy") = False := eq_false (by decide +kernel)
@[simp] theorem nb_11_2 : (PySem.Str.ofString "wr" == PySem.Str.ofString "copy") = false := by decide +kernel
@[simp] theorem ne_11_3 : (PySem.Str.ofString "wr" = PySem.Str.ofString "fence") = False := eq_false (by decide +kernel)
@[simp] theorem nb_11_3 : (PySem.Str.ofString "wr" == PySem.Str.ofString "fence") = false := by decide +kernel
@[simp] theorem ne_11_4 : (PySem.Str.ofString "wr" = PySem.Str.ofString "guard") = False := eq_false (by decide +kernel)
@[simp] theorem nb_11_4 : (PySem.Str.ofString "wr" == PySem.Str.ofString "guard") = false := by decide +kernel
@[simp] theorem ne_11_5 : (PySem.Str.ofString "wr" = PySem.Str.ofString "gr") = False := eq_false (by decide +kernel)
@[simp] theorem nb_11_5 : (PySem.Str.ofString "wr" == PySem.Str.ofString "gr") = false := by decide +kernel
@[simp] theorem ne_11_6 : (PySem.Str.ofString "wr" = PySem.Str.ofString "gw") = False := eq_false (by decide +kernel)
@[simp] theorem nb_11_6 : (PySem.Str.ofString "wr" == PySem.Str.ofString "gw") = false := by decide +kernel
@[simp] theorem ne_11_7 : (PySem.Str.ofString "wr" = PySem.Str.ofString "own") = False := eq_false (by decide +kernel)
@[simp] theorem nb_11_7 : (PySem.Str.ofString "wr" == PySem.Str.ofString "own") = false := by decide +kernel
@[simp] theorem ne_11_8 : (PySem.Str.ofString "wr" = PySem.Str.ofString "rr") = False := eq_false (by decide +kernel)
@[simp] theorem nb_11_8 : (PySem.Str.ofString "wr" == PySem.Str.ofString "rr") = false := by decide +kernel
@[simp] theorem ne_11_9 : (PySem.Str.ofString "wr" = PySem.Str.ofString "rw") = False := eq_false (by decide +kernel)
@[simp] theorem nb_11_9 : (PySem.Str.ofString "wr" == PySem.Str.ofString "rw") = false := by decide +kernel
@[simp] theorem ne_11_10 : (PySem.Str.ofString "wr" = PySem.Str.ofString "ss") = False := eq_false (by decide +kernel)
@[simp] theorem nb_11_10 : (PySem.Str.ofString "wr" == PySem.Str.ofString "ss") = false := by decide +kernel
@[simp] theorem ne_11_12 : (PySem.Str.ofString "wr" = PySem.Str.ofString "ww") = False := eq_false (by decide +kernel)
@[simp] theorem nb_11_12 : (PySem.Str.ofString "wr" == PySem.Str.ofString "ww") = false := by decide +kernel
@[simp] theorem ne_11_13 : (PySem.Str.ofString "wr" = PySem.Str.ofString "xx") = False := eq_false (by decide +kernel)
@[simp] theorem nb_11_13 : (PySem.Str.ofString "wr" == PySem.Str.ofString "xx") = false := by decide +kernel
@[simp] theorem ne_11_14 : (PySem.Str.ofString "wr" = PySem.Str.ofString "") = False := eq_false (by decide +kernel)
@[simp] theorem nb_11_14 : (PySem.Str.ofString "wr" == PySem.Str.ofString "") = false := by decide +kernel
@[simp] theorem ne_11_15 : (PySem.Str.ofString "wr" = PySem.Str.ofString "hop") = False := eq_false (by decide +kernel)
@[simp] theorem nb_11_15 : (PySem.Str.ofString "wr" == PySem.Str.ofString "hop") = false := by decide +kernel
@[simp] theorem ne_11_16 : (PySem.Str.ofString "wr" = PySem.Str.ofString "Read") = False := eq_false (by decide +kernel)
@[simp] theorem nb_11_16 : (PySem.Str.ofString "wr" == PySem.Str.ofString "Read") = false := by decide +kernel
@[simp] theorem ok_12 : PyData.strOk (PySem.Str.ofString "ww") = true := by decide +kernel
@[simp] theorem len_12 : (PySem.Str.ofString "ww").length = 2 := by decide +kernel
@[simp] theorem ne_12_0 : (PySem.Str.ofString "ww" = PySem.Str.ofString "read") = False := eq_false (by decide +kernel)
@[simp] theorem nb_12_0 : (PySem.Str.ofString "ww" == PySem.Str.ofString "read") = false := by decide +kernel
@[simp] theorem ne_12_1 : (PySem.Str.ofString "ww" = PySem.Str.ofString "write") = False := eq_false (by decide +kernel)
@[simp] theorem nb_12_1 : (PySem.Str.ofString "ww" == PySem.Str.ofString "write") = false := by decide +kernel
@[simp] theorem ne_12_2 : (PySem.Str.ofString "ww" = PySem.Str.ofString "copy") = False := eq_false (by decide +kernel)
@[simp] theorem nb_12_2 : (PySem.Str.ofString "ww" == PySem.Str.ofString "copy") = false := by decide +kernel
@[simp] theorem ne_12_3 : (PySem.Str.ofString "ww" = PySem.Str.ofString "fence") = False := eq_false (by decide +kernel)
@[simp] theorem nb_12_3 : (PySem.Str.ofString "ww" == PySem.Str.ofString "fence") = false := by decide +kernel
@[simp] theorem ne_12_4 : (PySem.Str.ofString "ww" = PySem.Str.ofString "guard") = False := eq_false (by decide +kernel)
@[simp] theorem nb_12_4 : (PySem.Str.ofString "ww" == PySem.Str.ofString "guard") = false := by decide +kernel
@[simp] theorem ne_12_5 : (PySem.Str.ofString "ww" = PySem.Str.ofString "gr") = False := eq_false (by decide +kernel)
@[simp] theorem nb_12_5 : (PySem.Str.ofString "ww" == PySem.Str.ofString "gr") = false := by decide +kernel
@[simp] theorem ne_12_6 : (PySem.Str.ofString "ww" = PySem.Str.ofString "gw") = False := eq_false (by decide +kernel)
@[simp] theorem nb_12_6 : (PySem.Str.ofString "ww" == PySem.Str.ofString "gw") = false := by decide +kernel
@[simp] theorem ne_12_7 : (PySem.Str.ofString "ww" = PySem.Str.ofString "own") = False := eq_false (by decide +kernel)
@[simp] theorem nb_12_7 : (PySem.Str.ofString "ww" == PySem.Str.ofString "own") = false := by decide +kernel
@[simp] theorem ne_12_8 : (PySem.Str.ofString "ww" = PySem.Str.ofString "rr") = False := eq_false (by decide +kernel)
@[simp] theorem nb_12_8 : (PySem.Str.ofString "ww" == PySem.Str.ofString "rr") = false := by decide +kernel
@[simp] theorem ne_12_9 : (PySem.Str.ofString "ww" = PySem.Str.ofString "rw") = False := eq_false (by decide +kernel)
@[simp] theorem nb_12_9 : (PySem.Str.ofString "ww" == PySem.Str.ofString "rw") = false := by decide +kernel
@[simp] theorem ne_12_10 : (PySem.Str.ofString "ww" = PySem.Str.ofString "ss") = False := eq_false (by decide +kernel)
@[simp] theorem nb_12_10 : (PySem.Str.ofString "ww" == PySem.Str.ofString "ss") = false := by decide +kernel
@[simp] theorem ne_12_11 : (PySem.Str.ofString "ww" = PySem.Str.ofString "wr") = False := eq_false (by decide +kernel)
@[simp] theorem nb_12_11 : (PySem.Str.ofString "ww" == PySem.Str.ofString "wr") = false := by decide +kernel
@[simp] theorem ne_12_13 : (PySem.Str.ofString "ww" = PySem.Str.ofString "xx") = False := eq_false (by decide +kernel)
@[simp] theorem nb_12_13 : (PySem.Str.ofString "ww" == PySem.Str.ofString "xx") = false := by decide +kernel
@[simp] theorem ne_12_14 : (PySem.Str.ofString "ww" = PySem.Str.ofString "") = False := eq_false (by decide +kernel)
@[simp] theorem nb_12_14 : (PySem.Str.ofString "ww" == PySem.Str.ofString "") = false := by decide +kernel
@[simp] theorem ne_12_15 : (PySem.Str.ofString "ww" = PySem.Str.ofString "hop") = False := eq_false (by decide +kernel)
@[simp] theorem nb_12_15 : (PySem.Str.ofString "ww" == PySem.Str.ofString "hop") = false := by decide +kernel
@[simp] theorem ne_12_16 : (PySem.Str.ofString "ww" = PySem.Str.ofString "Read") = False := eq_false (by decide +kernel)
@[simp] theorem nb_12_16 : (PySem.Str.ofString "ww" == PySem.Str.ofString "Read") = false := by decide +kernel
@[simp] theorem ok_13 : PyData.strOk (PySem.Str.ofString "xx") = true := by decide +kernel
@[simp] theorem len_13 : (PySem.Str.ofString "xx").length = 2 := by decide +kernel
@[simp] theorem ne_13_0 : (PySem.Str.ofString "xx" = PySem.Str.ofString "read") = False := eq_false (by decide +kernel)
@[simp] theorem nb_13_0 : (PySem.Str.ofString "xx" == PySem.Str.ofString "read") = false := by decide +kernel
@[simp] theorem ne_13_1 : (PySem.Str.ofString "xx" = PySem.Str.ofString "write") = False := eq_false (by decide +kernel)
@[simp] theorem nb_13_1 : (PySem.Str.ofString "xx" == PySem.Str.ofString "write") = false := by decide +kernel
@[simp] theorem ne_13_2 : (PySem.Str.ofString "xx" = PySem.Str.ofString "copy") = False := eq_false (by decide +kernel)
@[simp] theorem nb_13_2 : (PySem.Str.ofString "xx" == PySem.Str.ofString "copy") = false := by decide +kernel
@[simp] theorem ne_13_3 : (PySem.Str.ofString "xx" = PySem.Str.ofString "fence") = False := eq_false (by decide +kernel)
@[simp] theorem nb_13_3 : (PySem.Str.ofString "xx" == PySem.Str.ofString "fence") = false := by decide +kernel
@[simp] theorem ne_13_4 : (PySem.Str.ofString "xx" = PySem.Str.ofString "guard") = False := eq_false (by decide +kernel)
@[simp] theorem nb_13_4 : (PySem.Str.ofString "xx" == PySem.Str.ofString "guard") = false := by decide +kernel
@[simp] theorem ne_13_5 : (PySem.Str.ofString "xx" = PySem.Str.ofString "gr") = False := eq_false (by decide +kernel)
@[simp] theorem nb_13_5 : (PySem.Str.ofString "xx" == PySem.Str.ofString "gr") = false := by decide +kernel
@[simp] theorem ne_13_6 : (PySem.Str.ofString "xx" = PySem.Str.ofString "gw") = False := eq_false (by decide +kernel)
@[simp] theorem nb_13_6 : (PySem.Str.ofString "xx" == PySem.Str.ofString "gw") = false := by decide +kernel
@[simp] theorem ne_13_7 : (PySem.Str.ofString "xx" = PySem.Str.ofString "own") = False := eq_false (by decide +kernel)
@[simp] theorem nb_13_7 : (PySem.Str.ofString "xx" == PySem.Str.ofString "own") = false := by decide +kernel
@[simp] theorem ne_13_8 : (PySem.Str.ofString "xx" = PySem.Str.ofString "rr") = False := eq_false (by decide +kernel)
@[simp] theorem nb_13_8 : (PySem.Str.ofString "xx" == PySem.Str.ofString "rr") = false := by decide +kernel
@[simp] theorem ne_13_9 : (PySem.Str.ofString "xx" = PySem.Str.ofString "rw") = False := eq_false (by decide +kernel)
@[simp] theorem nb_13_9 : (PySem.Str.ofString "xx" == PySem.Str.ofString "rw") = false := by decide +kernel
@[simp] theorem ne_13_10 : (PySem.Str.ofString "xx" = PySem.Str.ofString "ss") = False := eq_false (by decide +kernel)
@[simp] theorem nb_13_10 : (PySem.Str.ofString "xx" == PySem.Str.ofString "ss") = false := by decide +kernel
@[simp] theorem ne_13_11 : (PySem.Str.ofString "xx" = PySem.Str.ofString "wr") = False := eq_false (by decide +kernel)
@[simp] theorem nb_13_11 : (PySem.Str.ofString "xx" == PySem.Str.ofString "wr") = false := by decide +kernel
@[simp] theorem ne_13_12 : (PySem.Str.ofString "xx" = PySem.Str.ofString "ww") = False := eq_false (by decide +kernel)
@[simp] theorem nb_13_12 : (PySem.Str.ofString "xx" == PySem.Str.ofString "ww") = false := by decide +kernel
@[simp] theorem ne_13_14 : (PySem.Str.ofString "xx" = PySem.Str.ofString "") = False := eq_false (by decide +kernel)
@[simp] theorem nb_13_14 : (PySem.Str.ofString "xx" == PySem.Str.ofString "") = false := by decide +kernel
@[simp] theorem ne_13_15 : (PySem.Str.ofString "xx" = PySem.Str.ofString "hop") = False := eq_false (by decide +kernel)
@[simp] theorem nb_13_15 : (PySem.Str.ofString "xx" == PySem.Str.ofString "hop") = false := by decide +kernel
@[simp] theorem ne_13_16 : (PySem.Str.ofString "xx" = PySem.Str.ofString "Read") = False := eq_false (by decide +kernel)
@[simp] theorem nb_13_16 : (PySem.Str.ofString "xx" == PySem.Str.ofString "Read") = false := by decide +kernel
@[simp] theorem ok_14 : PyData.strOk (PySem.Str.ofString "") = true := by decide +kernel
@[simp] theorem len_14 : (PySem.Str.ofString "").length = 0 := by decide +kernel
@[simp] theorem ne_14_0 : (PySem.Str.ofString "" = PySem.Str.ofString "read") = False := eq_false (by decide +kernel)
@[simp] theorem nb_14_0 : (PySem.Str.ofString "" == PySem.Str.ofString "read") = false := by decide +kernel
@[simp] theorem ne_14_1 : (PySem.Str.ofString "" = PySem.Str.ofString "write") = False := eq_false (by decide +kernel)
@[simp] theorem nb_14_1 : (PySem.Str.ofString "" == PySem.Str.ofString "write") = false := by decide +kernel
@[simp] theorem ne_14_2 : (PySem.Str.ofString "" = PySem.Str.ofString "copy") = False := eq_false (by decide +kernel)
@[simp] theorem nb_14_2 : (PySem.Str.ofString "" == PySem.Str.ofString "copy") = false := by decide +kernel
@[simp] theorem ne_14_3 : (PySem.Str.ofString "" = PySem.Str.ofString "fence") = False := eq_false (by decide +kernel)
@[simp] theorem nb_14_3 : (PySem.Str.ofString "" == PySem.Str.ofString "fence") = false := by decide +kernel
@[simp] theorem ne_14_4 : (PySem.Str.ofString "" = PySem.Str.ofString "guard") = False := eq_false (by decide +kernel)
@[simp] theorem nb_14_4 : (PySem.Str.ofString "" == PySem.Str.ofString "guard") = false := by decide +kernel
@[simp] theorem ne_14_5 : (PySem.Str.ofString "" = PySem.Str.ofString "gr") = False := eq_false (by decide +kernel)
@[simp] theorem nb_14_5 : (PySem.Str.ofString "" == PySem.Str.ofString "gr") = false := by decide +kernel
@[simp] theorem ne_14_6 : (PySem.Str.ofString "" = PySem.Str.ofString "gw") = False := eq_false (by decide +kernel)
@[simp] theorem nb_14_6 : (PySem.Str.ofString "" == PySem.Str.ofString "gw") = false := by decide +kernel
@[simp] theorem ne_14_7 : (PySem.Str.ofString "" = PySem.Str.ofString "own") = False := eq_false (by decide +kernel)
@[simp] theorem nb_14_7 : (PySem.Str.ofString "" == PySem.Str.ofString "own") = false := by decide +kernel
@[simp] theorem ne_14_8 : (PySem.Str.ofString "" = PySem.Str.ofString "rr") = False := eq_false (by decide +kernel)
@[simp] theorem nb_14_8 : (PySem.Str.ofString "" == PySem.Str.ofString "rr") = false := by decide +kernel
@[simp] theorem ne_14_9 : (PySem.Str.ofString "" = PySem.Str.ofString "rw") = False := eq_false (by decide +kernel)
@[simp] theorem nb_14_9 : (PySem.Str.ofString "" == PySem.Str.ofString "rw") = false := by decide +kernel
@[simp] theorem ne_14_10 : (PySem.Str.ofString "" = PySem.Str.ofString "ss") = False := eq_false (by decide +kernel)
@[simp] theorem nb_14_10 : (PySem.Str.ofString "" == PySem.Str.ofString "ss") = false := by decide +kernel
@[simp] theorem ne_14_11 : (PySem.Str.ofString "" = PySem.Str.ofString "wr") = False := eq_false (by decide +kernel)
@[simp] theorem nb_14_11 : (PySem.Str.ofString "" == PySem.Str.ofString "wr") = false := by decide +kernel
@[simp] theorem ne_14_12 : (PySem.Str.ofString "" = PySem.Str.ofString "ww") = False := eq_false (by decide +kernel)
@[simp] theorem nb_14_12 : (PySem.Str.ofString "" == PySem.Str.ofString "ww") = false := by decide +kernel
@[simp] theorem ne_14_13 : (PySem.Str.ofString "" = PySem.Str.ofString "xx") = False := eq_false (by decide +kernel)
@[simp] theorem nb_14_13 : (PySem.Str.ofString "" == PySem.Str.ofString "xx") = false := by decide +kernel
@[simp] theorem ne_14_15 : (PySem.Str.ofString "" = PySem.Str.ofString "hop") = False := eq_false (by decide +kernel)
@[simp] theorem nb_14_15 : (PySem.Str.ofString "" == PySem.Str.ofString "hop") = false := by decide +kernel
@[simp] theorem ne_14_16 : (PySem.Str.ofString "" = PySem.Str.ofString "Read") = False := eq_false (by decide +kernel)
@[simp] theorem nb_14_16 : (PySem.Str.ofString "" == PySem.Str.ofString "Read") = false := by decide +kernel
@[simp] theorem ok_15 : PyData.strOk (PySem.Str.ofString "hop") = true := by decide +kernel
@[simp] theorem len_15 : (PySem.Str.ofString "hop").length = 3 := by decide +kernel
@[simp] theorem ne_15_0 : (PySem.Str.ofString "hop" = PySem.Str.ofString "read") = False := eq_false (by decide +kernel)
@[simp] theorem nb_15_0 : (PySem.Str.ofString "hop" == PySem.Str.ofString "read") = false := by decide +kernel
@[simp] theorem ne_15_1 : (PySem.Str.ofString "hop" = PySem.Str.ofString "write") = False := eq_false (by decide +kernel)
@[simp] theorem nb_15_1 : (PySem.Str.ofString "hop" == PySem.Str.ofString "write") = false := by decide +kernel
@[simp] theorem ne_15_2 : (PySem.Str.ofString "hop" = PySem.Str.ofString "copy") = False := eq_false (by decide +kernel)
@[simp] theorem nb_15_2 : (PySem.Str.ofString "hop" == PySem.Str.ofString "copy") = false := by decide +kernel
@[simp] theorem ne_15_3 : (PySem.Str.ofString "hop" = PySem.Str.ofString "fence") = False := eq_false (by decide +kernel)
@[simp] theorem nb_15_3 : (PySem.Str.ofString "hop" == PySem.Str.ofString "fence") = false := by decide +kernel
@[simp] theorem ne_15_4 : (PySem.Str.ofString "hop" = PySem.Str.ofString "guard") = False := eq_false (by decide +kernel)
@[simp] theorem nb_15_4 : (PySem.Str.ofString "hop" == PySem.Str.ofString "guard") = false := by decide +kernel
@[simp] theorem ne_15_5 : (PySem.Str.ofString "hop" = PySem.Str.ofString "gr") = False := eq_false (by decide +kernel)
@[simp] theorem nb_15_5 : (PySem.Str.ofString "hop" == PySem.Str.ofString "gr") = false := by decide +kernel
@[simp] theorem ne_15_6 : (PySem.Str.ofString "hop" = PySem.Str.ofString "gw") = False := eq_false (by decide +kernel)
@[simp] theorem nb_15_6 : (PySem.Str.ofString "hop" == PySem.Str.ofString "gw") = false := by decide +kernel
@[simp] theorem ne_15_7 : (PySem.Str.ofString "hop" = PySem.Str.ofString "own") = False := eq_false (by decide +kernel)
@[simp] theorem nb_15_7 : (PySem.Str.ofString "hop" == PySem.Str.ofString "own") = false := by decide +kernel
@[simp] theorem ne_15_8 : (PySem.Str.ofString "hop" = PySem.Str.ofString "rr") = False := eq_false (by decide +kernel)
@[simp] theorem nb_15_8 : (PySem.Str.ofString "hop" == PySem.Str.ofString "rr") = false := by decide +kernel
@[simp] theorem ne_15_9 : (PySem.Str.ofString "hop" = PySem.Str.ofString "rw") = False := eq_false (by decide +kernel)
@[simp] theorem nb_15_9 : (PySem.Str.ofString "hop" == PySem.Str.ofString "rw") = false := by decide +kernel
@[simp] theorem ne_15_10 : (PySem.Str.ofString "hop" = PySem.Str.ofString "ss") = False := eq_false (by decide +kernel)
@[simp] theorem nb_15_10 : (PySem.Str.ofString "hop" == PySem.Str.ofString "ss") = false := by decide +kernel
@[simp] theorem ne_15_11 : (PySem.Str.ofString "hop" = PySem.Str.ofString "wr") = False := eq_false (by decide +kernel)
@[simp] theorem nb_15_11 : (PySem.Str.ofString "hop" == PySem.Str.ofString "wr") = false := by decide +kernel
@[simp] theorem ne_15_12 : (PySem.Str.ofString "hop" = PySem.Str.ofString "ww") = False := eq_false (by decide +kernel)
@[simp] theorem nb_15_12 : (PySem.Str.ofString "hop" == PySem.Str.ofString "ww") = false := by decide +kernel
@[simp] theorem ne_15_13 : (PySem.Str.ofString "hop" = PySem.Str.ofString "xx") = False := eq_false (by decide +kernel)
@[simp] theorem nb_15_13 : (PySem.Str.ofString "hop" == PySem.Str.ofString "xx") = false := by decide +kernel
@[simp] theorem ne_15_14 : (PySem.Str.ofString "hop" = PySem.Str.ofString "") = False := eq_false (by decide +kernel)
@[simp] theorem nb_15_14 : (PySem.Str.ofString "hop" == PySem.Str.ofString "") = false := by decide +kernel
@[simp] theorem ne_15_16 : (PySem.Str.ofString "hop" = PySem.Str.ofString "Read") = False := eq_false (by decide +kernel)
@[simp] theorem nb_15_16 : (PySem.Str.ofString "hop" == PySem.Str.ofString "Read") = false := by decide +kernel
@[simp] theorem ok_16 : PyData.strOk (PySem.Str.ofString "Read") = true := by decide +kernel
@[simp] theorem len_16 : (PySem.Str.ofString "Read").length = 4 := by decide +kernel
@[simp] theorem ne_16_0 : (PySem.Str.ofString "Read" = PySem.Str.ofString "read") = False := eq_false (by decide +kernel)
@[simp] theorem nb_16_0 : (PySem.Str.ofString "Read" == PySem.Str.ofString "read") = false := by decide +kernel
@[simp] theorem ne_16_1 : (PySem.Str.ofString "Read" = PySem.Str.ofString "write") = False := eq_false (by decide +kernel)
@[simp] theorem nb_16_1 : (PySem.Str.ofString "Read" == PySem.Str.ofString "write") = false := by decide +kernel
@[simp] theorem ne_16_2 : (PySem.Str.ofString "Read" = PySem.Str.ofString "copy") = False := eq_false (by decide +kernel)
@[simp] theorem nb_16_2 : (PySem.Str.ofString "Read" == PySem.Str.ofString "copy") = false := by decide +kernel
@[simp] theorem ne_16_3 : (PySem.Str.ofString "Read" = PySem.Str.ofString "fence") = False := eq_false (by decide +kernel)
@[simp] theorem nb_16_3 : (PySem.Str.ofString "Read" == PySem.Str.ofString "fence") = false := by decide +kernel
@[simp] theorem ne_16_4 : (PySem.Str.ofString "Read" = PySem.Str.ofString "guard") = False := eq_false (by decide +kernel)
@[simp] theorem nb_16_4 : (PySem.Str.ofString "Read" == PySem.Str.ofString "guard") = false := by decide +kernel
@[simp] theorem ne_16_5 : (PySem.Str.ofString "Read" = PySem.Str.ofString "gr") = False := eq_false (by decide +kernel)
@[simp] theorem nb_16_5 : (PySem.Str.ofString "Read" == PySem.Str.ofString "gr") = false := by decide +kernel
@[simp] theorem ne_16_6 : (PySem.Str.ofString "Read" = PySem.Str.ofString "gw") = False := eq_false (by decide +kernel)
@[simp] theorem nb_16_6 : (PySem.Str.ofString "Read" == PySem.Str.ofString "gw") = false := by decide +kernel
@[simp] theorem ne_16_7 : (PySem.Str.ofString "Read" = PySem.Str.ofString "own") = False := eq_false (by decide +kernel)
@[simp] theorem nb_16_7 : (PySem.Str.ofString "Read" == PySem.Str.ofString "own") = false := by decide +kernel
@[simp] theorem ne_16_8 : (PySem.Str.ofString "Read" = PySem.Str.ofString "rr") = False := eq_false (by decide +kernel)
@[simp] theorem nb_16_8 : (PySem.Str.ofString "Read" == PySem.Str.ofString "rr") = false := by decide +kernel
@[simp] theorem ne_16_9 : (PySem.Str.ofString "Read" = PySem.Str.ofString "rw") = False := eq_false (by decide +kernel)
@[simp] theorem nb_16_9 : (PySem.Str.ofString "Read" == PySem.Str.ofString "rw") = false := by decide +kernel
@[simp] theorem ne_16_10 : (PySem.Str.ofString "Read" = PySem.Str.ofString "ss") = False := eq_false (by decide +kernel)
@[simp] theorem nb_16_10 : (PySem.Str.ofString "Read" == PySem.Str.ofString "ss") = false := by decide +kernel
@[simp] theorem ne_16_11 : (PySem.Str.ofString "Read" = PySem.Str.ofString "wr") = False := eq_false (by decide +kernel)
@[simp] theorem nb_16_11 : (PySem.Str.ofString "Read" == PySem.Str.ofString "wr") = false := by decide +kernel
@[simp] theorem ne_16_12 : (PySem.Str.ofString "Read" = PySem.Str.ofString "ww") = False := eq_false (by decide +kernel)
@[simp] theorem nb_16_12 : (PySem.Str.ofString "Read" == PySem.Str.ofString "ww") = false := by decide +kernel
@[simp] theorem ne_16_13 : (PySem.Str.ofString "Read" = PySem.Str.ofString "xx") = False := eq_false (by decide +kernel)
@[simp] theorem nb_16_13 : (PySem.Str.ofString "Read" == PySem.Str.ofString "xx") = false := by decide +kernel
@[simp] theorem ne_16_14 : (PySem.Str.ofString "Read" = PySem.Str.ofString "") = False := eq_false (by decide +kernel)
@[simp] theorem nb_16_14 : (PySem.Str.ofString "Read" == PySem.Str.ofString "") = false := by decide +kernel
@[simp] theorem ne_16_15 : (PySem.Str.ofString "Read" = PySem.Str.ofString "hop") = False := eq_false (by decide +kernel)
@[simp] theorem nb_16_15 : (PySem.Str.ofString "Read" == PySem.Str.ofString "hop") = false := by decide +kernel
end G


set_option Elab.async false
set_option linter.all false
set_option maxRecDepth 100000
set_option maxHeartbeats 4000000
namespace G
open PySem PySem.Spec L2 J
/-! ### the row -/
def rowL (ns : List Int) (i : Nat) (a b : Int) : IO := .lst [.frz (ns.map D.int), .int i, .int a, .int b]
def RowS (ns : List Int) (t : S) (s : S) : Prop := ∃ (i : Nat) (a b : Int), 0 ≤ a ∧ a < 2147483647 ∧ s = rowL ns i a b :: t
theorem idx_row (ns : List Int) (i : Nat) (a b : Int) (t : S) : fIdx (rowL ns i a b :: t) (.obj 0) (.int 0) = some (.frz (ns.map D.int)) ∧ fIdx (rowL ns i a b :: t) (.obj 0) (.int 1) = some (.int i) ∧ fIdx (rowL ns i a b :: t) (.obj 0) (.int 2) = some (.int a) ∧ fIdx (rowL ns i a b :: t) (.obj 0) (.int 3) = some (.int b) := ⟨rfl, rfl, rfl, rfl⟩
theorem put_row (ns : List Int) (i : Nat) (a b x : Int) (t : S) : putL (rowL ns i a b :: t) (.obj 0) (.int 2) (.int x) = some (rowL ns i x b :: t) ∧ putL (rowL ns i a b :: t) (.obj 0) (.int 3) (.int x) = some (rowL ns i a x :: t) := ⟨rfl, rfl⟩
theorem put_row1 (ns : List Int) (i : Nat) (a b : Int) (t : S) : putL (rowL ns i a b :: t) (.obj 0) (.int 1) (.int ((i : Int) + 1)) = some (rowL ns (i + 1) a b :: t) := rfl
theorem mulc (s : S) (a : Int) : fMul s (.int a) (.int 48271) = some (.int (a * 48271)) := by
  have : small64 48271 = true := by decide
  simp [fMul, this]
theorem modI (s : S) (a m : Int) (h : 0 < m) : fMod s (.int a) (.int m) = some (.int (a % m)) := by simp [fMod, h]
theorem divI (s : S) (a m : Int) (h : 0 < m) (h2 : m < 1073741824) : fDiv s (.int a) (.int m) = some (.int (a / m)) := by simp [fDiv, h, h2]
theorem powC (s : S) : fPow s (.int 10) (.int 18) = some (.int 1000000000000000000) := rfl
theorem taken_ok {ns : List Int} {t s : S} (m : Int) (h0 : 0 < m) (h1 : m < 1073741824) (h : RowS ns t s) : ∃ (r : Int) (s' : S), F_law_taken [.obj 0, .int m] s = .ok (.int r) s' ∧ 0 ≤ r ∧ r < m ∧ RowS ns t s' := by
  obtain ⟨i, a, b, ha, ha2, rfl⟩ := h
  obtain ⟨r0, r1, r2, r3⟩ := idx_row ns i a b t
  by_cases hb : 0 < b
  · refine ⟨b % m, rowL ns i a (b / m) :: t, ?_, Int.emod_nonneg _ (by omega), Int.emod_lt_of_pos _ h0, i, a, b / m, ha, ha2, rfl⟩
    simp [F_law_taken, b_law_taken, r3, hb, modI _ b m h0, divI _ b m h0 h1, (put_row ns i a b (b / m) t).2]
  · obtain ⟨q0, q1, q2, q3⟩ := idx_row ns (i + 1) a b t
    by_cases hl : (ns.length : Int) < (i : Int) + 1
    · have e1 := (put_row ns (i + 1) a b ((a * 48271 + 11) % 2147483647) t).1
      obtain ⟨p0, p1, p2, p3⟩ := idx_row ns (i + 1) ((a * 48271 + 11) % 2147483647) b t
      refine ⟨_, _, ?_, Int.emod_nonneg ((a * 48271 + 11) % 2147483647 / 7) (b := m) (by omega), Int.emod_lt_of_pos _ h0, i + 1, (a * 48271 + 11) % 2147483647, b, Int.emod_nonneg _ (by decide), Int.emod_lt_of_pos _ (by decide), rfl⟩
      rw [show (((i + 1 : Nat)) : Int) = (i : Int) + 1 from rfl] at q1
      simp [F_law_taken, b_law_taken, r3, r1, hb, put_row1, q0, q1, q2, hl, mulc, modI _ _ _ (show (0 : Int) < 2147483647 by decide), e1, p2, divI _ _ 7 (by decide) (by decide), modI _ _ m h0]
    · have hi : i < ns.length := by omega
      have e2 : atI (ns.map D.int) ((i : Int)) = some (.int ns[i]) := by rw [atI_nat _ _ (by simpa using hi)]; simp
      have e1 := (put_row ns (i + 1) a b ((a * 48271 + ns[i] + 11) % 2147483647) t).1
      obtain ⟨p0, p1, p2, p3⟩ := idx_row ns (i + 1) ((a * 48271 + ns[i] + 11) % 2147483647) b t
      rw [show (((i + 1 : Nat)) : Int) = (i : Int) + 1 from rfl] at q1
      by_cases hz : 1000000000000000000 ≤ ns[i]
      · refine ⟨ns[i] % m, _, ?_, Int.emod_nonneg _ (by omega), Int.emod_lt_of_pos _ h0, i + 1, (a * 48271 + ns[i] + 11) % 2147483647, ns[i] / m, Int.emod_nonneg _ (by decide), Int.emod_lt_of_pos _ (by decide), rfl⟩
        simp [F_law_taken, b_law_taken, r3, r1, hb, put_row1, q0, q1, q2, hl, e2, mulc, modI _ _ _ (show (0 : Int) < 2147483647 by decide), e1, powC, hz, divI _ _ m h0 h1, (put_row ns (i + 1) _ b (ns[i] / m) t).2, modI _ _ m h0]
      · refine ⟨ns[i] % m, _, ?_, Int.emod_nonneg _ (by omega), Int.emod_lt_of_pos _ h0, i + 1, (a * 48271 + ns[i] + 11) % 2147483647, b, Int.emod_nonneg _ (by decide), Int.emod_lt_of_pos _ (by decide), rfl⟩
        simp [F_law_taken, b_law_taken, r3, r1, hb, put_row1, q0, q1, q2, hl, e2, mulc, modI _ _ _ (show (0 : Int) < 2147483647 by decide), e1, powC, hz, modI _ _ m h0]
theorem pick_ok {ns : List Int} {t s : S} (ds : List D) (h0 : 0 < ds.length) (h1 : ds.length < 1000) (h : RowS ns t s) : ∃ (k : Nat) (hk : k < ds.length) (s' : S), F_law_pick [.obj 0, .lst ds] s = .ok ds[k] s' ∧ RowS ns t s' := by
  obtain ⟨r, s', e, h2, h3, h4⟩ := taken_ok (ds.length : Int) (by omega) (by omega) h
  obtain ⟨k, rfl⟩ := Int.eq_ofNat_of_zero_le h2
  refine ⟨k, by omega, s', ?_, h4⟩
  simp [F_law_pick, b_law_pick, e, atI_nat _ _ (show k < ds.length by omega)]
end G


set_option Elab.async false
set_option linter.all false
set_option maxRecDepth 100000
set_option maxHeartbeats 4000000
namespace G
open PySem PySem.Spec L2 J
/-! ### loops of a comprehension that draws -/
theorem lcAll {t : TD} {gt : GT} {ge : GE} {ρ : J.Env} (P : S → Prop) (Q : D → Prop) : ∀ (xs : List D) (s : S), P s → (∀ x ∈ xs, ∀ s, P s → ∃ ρ1 y s2, t x ρ = some ρ1 ∧ gt ρ1 s = .ok true s ∧ ge ρ1 s = .ok y s2 ∧ Q y ∧ P s2) →
    ∃ ys s', lcLoop t gt ge ρ xs s = .ok ys s' ∧ P s' ∧ ys.length = xs.length ∧ ∀ y ∈ ys, Q y
  | [], s, hP, _ => ⟨[], s, rfl, hP, rfl, fun _ h => by cases h⟩
  | x :: xs, s, hP, h => by
    obtain ⟨ρ1, y, s2, h1, h2, h3, h4, h5⟩ := h x List.mem_cons_self s hP
    obtain ⟨ys, s', e, p, l, q⟩ := lcAll P Q xs s2 h5 fun z hz => h z (List.mem_cons_of_mem _ hz)
    refine ⟨y :: ys, s', ?_, p, by simp [l], fun z hz => ?_⟩
    · unfold lcLoop
      rw [h1]
      simp only [h2, noErr, R.bind_ok, if_true, h3, e]
    · rcases List.mem_cons.mp hz with rfl | hz
      · exact h4
      · exact q z hz
theorem lcSub {t : TD} {gt : GT} {ge : GE} {ρ : J.Env} (P : S → Prop) : ∀ (xs : List D) (s : S), P s → (∀ x ∈ xs, ∀ s, P s → ∃ ρ1 b s2, t x ρ = some ρ1 ∧ gt ρ1 s = .ok b s2 ∧ P s2 ∧ ge ρ1 s2 = .ok x s2) →
    ∃ ys s', lcLoop t gt ge ρ xs s = .ok ys s' ∧ P s' ∧ ys.Sublist xs
  | [], s, hP, _ => ⟨[], s, rfl, hP, List.Sublist.refl _⟩
  | x :: xs, s, hP, h => by
    obtain ⟨ρ1, b, s2, h1, h2, h5, h3⟩ := h x List.mem_cons_self s hP
    obtain ⟨ys, s', e, p, l⟩ := lcSub P xs s2 h5 fun z hz => h z (List.mem_cons_of_mem _ hz)
    cases b with
    | true =>
      refine ⟨x :: ys, s', ?_, p, l.cons_cons _⟩
      unfold lcLoop
      rw [h1]
      simp only [h2, noErr, R.bind_ok, if_true, h3, e]
    | false =>
      refine ⟨ys, s', ?_, p, l.cons _⟩
      unfold lcLoop
      rw [h1]
      simp only [h2, noErr, R.bind_ok, Bool.false_eq_true, if_false, e]
theorem allEx {α : Type} {f : α → D} {q : α → Prop} : ∀ ys : List D, (∀ y ∈ ys, ∃ c, y = f c ∧ q c) → ∃ cs : List α, ys = cs.map f ∧ ∀ c ∈ cs, q c
  | [], _ => ⟨[], rfl, fun _ h => by cases h⟩
  | y :: ys, h => by
    obtain ⟨c, rfl, hc⟩ := h y List.mem_cons_self
    obtain ⟨cs, rfl, hcs⟩ := allEx ys fun z hz => h z (List.mem_cons_of_mem _ hz)
    exact ⟨c :: cs, rfl, fun z hz => by rcases List.mem_cons.mp hz with rfl | hz; (· exact hc); exact hcs z hz⟩
theorem subMap {α : Type} {f : α → D} {xs : List α} {ys : List D} (h : ys.Sublist (xs.map f)) : ∃ zs : List α, ys = zs.map f ∧ zs.Sublist xs := by
  obtain ⟨zs, h1, h2⟩ := List.sublist_map_iff.mp h
  exact ⟨zs, h2, h1⟩
/-! ### the instructions drawn -/
inductive Ins where
  | read (r x : Int) | write (x n : Int) | copy (x r : Int) | fence | guard (r n : Int)
def Ins.enc : Ins → D
  | .read r x => .tup [.str (PySem.Str.ofString "read"), .int r, .int x]
  | .write x n => .tup [.str (PySem.Str.ofString "write"), .int x, .int n]
  | .copy x r => .tup [.str (PySem.Str.ofString "copy"), .int x, .int r]
  | .fence => .tup [.str (PySem.Str.ofString "fence")]
  | .guard r n => .tup [.str (PySem.Str.ofString "guard"), .int r, .int n]
def Ins.ok : Ins → Prop
  | .read r x => 0 ≤ r ∧ r < 2 ∧ 0 ≤ x ∧ x < 2
  | .write x n => 0 ≤ x ∧ x < 2 ∧ 1 ≤ n ∧ n < 4
  | .copy x r => 0 ≤ x ∧ x < 2 ∧ 0 ≤ r ∧ r < 2
  | .fence => True
  | .guard r n => 0 ≤ r ∧ r < 2 ∧ 0 ≤ n ∧ n < 2
theorem instr_ok {ns : List Int} {t s : S} (h : RowS ns t s) : ∃ (c : Ins) (s' : S), F_law_instruction [.obj 0] s = .ok c.enc s' ∧ c.ok ∧ RowS ns t s' := by
  obtain ⟨k, hk, s1, e, h1⟩ := pick_ok [.str (PySem.Str.ofString "read"), .str (PySem.Str.ofString "read"), .str (PySem.Str.ofString "read"), .str (PySem.Str.ofString "write"), .str (PySem.Str.ofString "write"), .str (PySem.Str.ofString "write"), .str (PySem.Str.ofString "copy"), .str (PySem.Str.ofString "fence"), .str (PySem.Str.ofString "guard")] (by simp) (by simp) h
  obtain ⟨r, s2, e2, hr1, hr2, h2⟩ := taken_ok 2 (by decide) (by decide) h1
  obtain ⟨q, s3, e3, hq1, hq2, h3⟩ := taken_ok 2 (by decide) (by decide) h2
  obtain ⟨n, s4, e4, hn1, hn2, h4⟩ := taken_ok 3 (by decide) (by decide) h2
  match k, hk, e with
  | 0, _, e | 1, _, e | 2, _, e => exact ⟨.read r q, s3, by simp [F_law_instruction, b_law_instruction, fitL, e, e2, e3, eqD_str, Ins.enc], ⟨hr1, hr2, hq1, hq2⟩, h3⟩
  | 3, _, e | 4, _, e | 5, _, e => exact ⟨.write r (1 + n), s4, by simp [F_law_instruction, b_law_instruction, fitL, e, e2, e4, eqD_str, Ins.enc], ⟨hr1, hr2, by omega, by omega⟩, h4⟩
  | 6, _, e => exact ⟨.copy r q, s3, by simp [F_law_instruction, b_law_instruction, fitL, e, e2, e3, eqD_str, Ins.enc], ⟨hr1, hr2, hq1, hq2⟩, h3⟩
  | 7, _, e => exact ⟨.fence, s1, by simp [F_law_instruction, b_law_instruction, fitL, e, eqD_str, Ins.enc], trivial, h1⟩
  | 8, _, e => exact ⟨.guard r q, s3, by simp [F_law_instruction, b_law_instruction, fitL, e, e2, e3, eqD_str, Ins.enc], ⟨hr1, hr2, hq1, hq2⟩, h3⟩
/-! ### the design drawn -/
def names : List Str := [PySem.Str.ofString "gr", PySem.Str.ofString "gw", PySem.Str.ofString "own", PySem.Str.ofString "rr", PySem.Str.ofString "rw", PySem.Str.ofString "ss", PySem.Str.ofString "wr", PySem.Str.ofString "ww"]
theorem names_ok : ∀ x ∈ names, PyData.strOk x = true := by decide +kernel
theorem names_lt : names.Pairwise fun a b => a.cps.toList < b.cps.toList := by decide +kernel
theorem design_ok {ns : List Int} {t s : S} (h : RowS ns t s) : ∃ (ds : List Str) (s' : S), F_law_design [.obj 0] s = .ok (.tup (ds.map D.str)) s' ∧ ds.Sublist names ∧ RowS ns t s' := by
  have hl : ∀ (t' : TD) gt ge ρ, lcLoop t' gt ge ρ (names.map D.str) s = lcLoop t' gt ge ρ [.str (PySem.Str.ofString "gr"), .str (PySem.Str.ofString "gw"), .str (PySem.Str.ofString "own"), .str (PySem.Str.ofString "rr"), .str (PySem.Str.ofString "rw"), .str (PySem.Str.ofString "ss"), .str (PySem.Str.ofString "wr"), .str (PySem.Str.ofString "ww")] s := fun _ _ _ _ => rfl
  obtain ⟨ys, s', e, p, l⟩ := lcSub (t := dName 1) (gt := gB (gOp2 fEq (gCall 2 F_law_taken (gaCons (gVar 0) (gaCons (gC (.int 2)) gaNil))) (gC (.int 0)))) (ge := gVar 1) (ρ := ([some (D.obj 0), none] : J.Env)) (RowS ns t) (names.map D.str) s h fun x _ s hs => by
    obtain ⟨r, s2, e2, hr1, hr2, h2⟩ := taken_ok 2 (by decide) (by decide) hs
    exact ⟨[some (D.obj 0), some x], r == 0, s2, by simp, by simp [e2], h2, by simp⟩
  obtain ⟨zs, rfl, hz⟩ := subMap l
  refine ⟨zs, s', ?_, hz, p⟩
  rw [hl] at e
  simp [F_law_design, b_law_design, fitL, wipeD, e]
end G


set_option Elab.async false
set_option linter.all false
set_option maxRecDepth 100000
set_option maxHeartbeats 4000000
namespace G
open PySem PySem.Spec L2 J
theorem eqD_tup0 (s : S) : eqD s (.tup []) (.tup []) = some true := by simp [eqD, deref, D.toPy, D.toPys, SeqAt.shaped, PyData.canLay0, PyData.canLayAll0, PyData.depth, PyData.depthAll, PyData.eqv, PyData.eqvAll]
theorem isin_ok (s : S) (i a b : Int) : F_is_in [.int i, .int a, .int b] s = .ok (.bl (decide (a ≤ i) && decide (i ≤ b))) s := by
  have h1 : F_is_integer [.int i] s = .ok (.bl true) s := by
    simp [F_is_integer, b_is_integer]
  by_cases h : a ≤ i <;> simp [F_is_in, b_is_in, h1, h]
theorem is_instr {c : Ins} (hc : c.ok) (s : S) : F_is_instruction [c.enc] s = .ok (.bl true) s := by
  have hl : ∀ ds : List D, 1 ≤ ds.length → ds.length ≤ 3 → F_is_list [.tup ds, .int 1, .int 3] s = .ok (.bl true) s := fun ds h1 h3 => by
    have : (1 : Int) ≤ ds.length := by omega
    have : (ds.length : Int) ≤ 3 := by omega
    simp [F_is_list, b_is_list, *]
  have a1 : ∀ (x y z : D), atI [x, y, z] 0 = some x := fun _ _ _ => rfl
  have a2 : ∀ (x y : D), atI [x, y] 1 = some y := fun _ _ => rfl
  have k2 : ∀ (x y z : D), cutD [x, y, z] (some 1) none = [y, z] := fun _ _ _ => rfl
  have k0 : ∀ (x : D), cutD [x] (some 1) none = [] := fun _ => rfl
  cases c with
  | read r x =>
    obtain ⟨h1, h2, h3, h4⟩ := hc
    have : r ≤ 1 := by omega
    have : x ≤ 2 := by omega
    simp [F_is_instruction, b_is_instruction, Ins.enc, hl, fitL, eqD_str, isin_ok, c_REGISTERS, c_CELLS, c_WORDS, a2, k2, *]
  | write x n =>
    obtain ⟨h1, h2, h3, h4⟩ := hc
    have : x ≤ 2 := by omega
    have : n ≤ 9 := by omega
    have : 0 ≤ n := by omega
    simp [F_is_instruction, b_is_instruction, Ins.enc, hl, fitL, eqD_str, isin_ok, c_REGISTERS, c_CELLS, c_WORDS, a2, k2, *]
  | copy x r =>
    obtain ⟨h1, h2, h3, h4⟩ := hc
    have : r ≤ 1 := by omega
    have : x ≤ 2 := by omega
    simp [F_is_instruction, b_is_instruction, Ins.enc, hl, fitL, eqD_str, isin_ok, c_REGISTERS, c_CELLS, c_WORDS, a2, k2, *]
  | fence =>
    simp [F_is_instruction, b_is_instruction, Ins.enc, hl, fitL, eqD_str, isin_ok, k0, eqD_tup0]
  | guard r n =>
    obtain ⟨h1, h2, h3, h4⟩ := hc
    have : r ≤ 1 := by omega
    have : n ≤ 9 := by omega
    simp [F_is_instruction, b_is_instruction, Ins.enc, hl, fitL, eqD_str, isin_ok, c_REGISTERS, c_CELLS, c_WORDS, a2, k2, *]
theorem is_design_ok {ds : List Str} (h : ds.Sublist names) (s : S) : F_is_design [.tup (ds.map D.str)] s = .ok (.bl true) s := by
  have hn : ds.length ≤ 8 := h.length_le
  have hm : ∀ x ∈ ds, x ∈ names := fun x hx => h.subset hx
  have hp := names_lt.sublist h
  have h2 : ds.length ≤ 16777216 := by omega
  have hc : c_NAMES = .tup (names.map D.str) := rfl
  simp [F_is_design, b_is_design, fitL, h2, wipeD]
  rw [lcLoop_all _ fun x hx => by
    obtain ⟨c, hc', rfl⟩ := List.mem_map.mp hx
    refine ⟨[some (.tup (ds.map D.str)), none, some (.str c)], by simp, ?_⟩
    have : names.any (· == c) = true := List.any_eq_true.mpr ⟨c, hm c hc', by simp⟩
    simp [fIsi, tyD, known, tyKnown, isT, hc, inD_tup s c names (names_ok c (hm c hc')) names_ok, this]]
  have hr : okR 1 = true := by decide
  have hr2 : okR (ds.length : Int) = true := by simp [okR]; omega
  have h4 : (rangeD 1 (ds.length : Int)).length ≤ 16777216 := by simp [rangeD]; omega
  simp [-List.map_map, hr, hr2, h4]
  rw [lcLoop_all _ fun x hx => by
    simp only [rangeD, List.mem_map, List.mem_range] at hx
    obtain ⟨k, hk, rfl⟩ := hx
    refine ⟨[some (.tup (ds.map D.str)), some (.int (1 + (k : Int))), none], by simp, ?_⟩
    have e1 : (1 + (k : Int)) - 1 = (k : Int) := by omega
    have e2 : (1 + (k : Int)) = ((k + 1 : Nat) : Int) := by omega
    have hk2 : k + 1 < ds.length := by omega
    have q1 : atI (ds.map D.str) (k : Int) = some (.str ds[k]) := by rw [atI_nat _ _ (by simp; omega)]; simp
    have q2 : atI (ds.map D.str) (1 + (k : Int)) = some (.str ds[k + 1]) := by rw [e2, atI_nat _ _ (by simp; omega)]; simp
    have lt := List.pairwise_iff_getElem.mp hp k (k + 1) (by omega) hk2 (by omega)
    simp [e1, q1, q2, fLt, lt]]
  simp [-List.map_map]
end G


set_option Elab.async false
set_option linter.all false
set_option maxRecDepth 100000
set_option maxHeartbeats 4000000
namespace G
open PySem PySem.Spec L2 J
@[simp] theorem noErr_okk {α : Type} (a : α) (s : S) : noErr (R.ok a s) = .ok a s := id rfl
@[simp] theorem lc_nil (t : TD) (gt : GT) (ge : GE) (ρ : J.Env) (s : S) : lcLoop t gt ge ρ [] s = .ok [] s := id rfl
@[simp] theorem lc_cons (t : TD) (gt : GT) (ge : GE) (ρ : J.Env) (x : D) (xs : List D) (s : S) : lcLoop t gt ge ρ (x :: xs) s = match t x ρ with
    | none => .no
    | some ρ1 => (noErr (gt ρ1 s)).bd (fun b s1 => if b then (noErr (ge ρ1 s1)).bd (fun y s2 => (lcLoop t gt ge ρ xs s2).bd (fun ys s3 => .ok (y :: ys) s3) .mk) .mk else lcLoop t gt ge ρ xs s1) .mk := id rfl
theorem isin_no (s : S) (x : D) (a b : D) (h : x = .non ∨ (∃ y, x = .bl y) ∨ ∃ y, x = .str y) : F_is_in [x, a, b] s = .ok (.bl false) s := by
  have h1 : F_is_integer [x] s = .ok (.bl false) s := by
    rcases h with rfl | ⟨y, rfl⟩ | ⟨y, rfl⟩ <;> simp [F_is_integer, b_is_integer]
  simp [F_is_in, b_is_in, h1]
def st (x : String) : D := .str (PySem.Str.ofString x)
def oddL : List D := [.non, .tup [], .tup [st "fence", .int 0], .tup [st "read", .int 0], .tup [st "read", .int 2, .int 0], .tup [st "read", .int 0, .int 3], .tup [st "read", .int 0, .int 0, .int 0], .tup [st "write", .int 3, .int 0], .tup [st "write", .int 0, .int 10], .tup [st "write", .int 0],
  .tup [st "copy", .int 3, .int 0], .tup [st "copy", .int 0, .int 2], .tup [st "guard", .int 2, .int 0], .tup [st "guard", .int 0, .int 10], .tup [st "guard", .int 0, .int (-1)], .tup [st "hop", .int 0, .int 0], .lst [st "fence"], st "fence", .tup [st "Read", .int 0, .int 0],
  .tup [st "read", .bl true, .int 0], .tup [st "write", .int 0, .non], .tup [.non, .int 0, .int 0], .int 5]
theorem odd_bad (s : S) : ∀ v ∈ oddL, F_is_instruction [v] s = .ok (.bl false) s := by
  have k2 : ∀ (x y z : D), cutD [x, y, z] (some 1) none = [y, z] := fun _ _ _ => rfl
  have k1 : ∀ (x y : D), cutD [x, y] (some 1) none = [y] := fun _ _ => rfl
  have a2 : ∀ (x y : D), atI [x, y] 1 = some y := fun _ _ => rfl
  have e1 : eqD s (.tup [.int 0]) (.tup []) = some false := by simp [eqD, deref, D.toPy, D.toPys, SeqAt.shaped, PyData.canLay0, PyData.canLayAll0, PyData.depth, PyData.depthAll, PyData.eqv, PyData.eqvAll]
  have b1 := fun a b => isin_no s (.bl true) a b (.inr (.inl ⟨_, rfl⟩))
  have b2 := fun a b => isin_no s .non a b (.inl rfl)
  intro v hv
  simp only [oddL, List.mem_cons, List.not_mem_nil, or_false] at hv
  rcases hv with rfl | rfl | rfl | rfl | rfl | rfl | rfl | rfl | rfl | rfl | rfl | rfl | rfl | rfl | rfl | rfl | rfl | rfl | rfl | rfl | rfl | rfl | rfl <;> simp [st, F_is_instruction, b_is_instruction, F_is_list, b_is_list, eqD_str, isin_ok, c_REGISTERS, c_CELLS, c_WORDS, a2, k2, k1, e1, b1, b2]
def goodL : List D := [.tup [st "read", .int 1, .int 2], .tup [st "write", .int 2, .int 9], .tup [st "copy", .int 2, .int 1], .tup [st "fence"], .tup [st "guard", .int 1, .int 9]]
theorem good_ok (s : S) : ∀ v ∈ goodL, F_is_instruction [v] s = .ok (.bl true) s := by
  have k2 : ∀ (x y z : D), cutD [x, y, z] (some 1) none = [y, z] := fun _ _ _ => rfl
  have k0 : ∀ (x : D), cutD [x] (some 1) none = [] := fun _ => rfl
  have a2 : ∀ (x y : D), atI [x, y] 1 = some y := fun _ _ => rfl
  intro v hv
  simp only [goodL, List.mem_cons, List.not_mem_nil, or_false] at hv
  rcases hv with rfl | rfl | rfl | rfl | rfl <;> simp [st, F_is_instruction, b_is_instruction, F_is_list, b_is_list, eqD_str, isin_ok, c_REGISTERS, c_CELLS, c_WORDS, a2, k2, k0, eqD_tup0]
/-! ### drawn words -/
def words : List Str := names ++ [PySem.Str.ofString "xx", PySem.Str.ofString ""]
theorem words_ok : ∀ x ∈ words, PyData.strOk x = true := by decide +kernel
def inN (x : Str) : Bool := names.any (· == x)
def adj : List Str → Bool
  | x :: y :: r => JSet.lt x y && adj (y :: r)
  | _ => true
theorem adj_up : ∀ xs : List Str, adj xs = true ↔ JSet.Up xs
  | [] => ⟨fun _ => List.Pairwise.nil, fun _ => rfl⟩
  | [x] => ⟨fun _ => List.pairwise_singleton _ _, fun _ => rfl⟩
  | x :: y :: r => by
    have ih := adj_up (y :: r)
    show (JSet.lt x y && adj (y :: r)) = true ↔ _
    rw [Bool.and_eq_true, ih]
    constructor
    · rintro ⟨h1, h2⟩
      have h1 : JSet.L x < JSet.L y := of_decide_eq_true h1
      refine List.pairwise_cons.mpr ⟨fun z hz => ?_, h2⟩
      rcases List.mem_cons.mp hz with rfl | hz
      · exact h1
      · exact List.lt_trans h1 ((List.pairwise_cons.mp h2).1 z hz)
    · intro h
      obtain ⟨h1, h2⟩ := List.pairwise_cons.mp h
      exact ⟨decide_eq_true (h1 y List.mem_cons_self), h2⟩
theorem adj_sort (xs : List Str) : (xs == JSet.sortU xs) = adj xs := by
  rw [Bool.eq_iff_iff, beq_iff_eq, adj_up]
  constructor
  · intro h; rw [h]; exact JSet.up_sortU xs
  · intro h; exact JSet.up_eq h (JSet.up_sortU xs) fun z => (JSet.mem_sortU z xs).symm
theorem fAll2 (s : S) (bs : List Bool) : fAll s (.lst (bs.map D.bl)) = some (.bl (bs.all id)) := by
  have : ∀ bs : List Bool, blsD (bs.map D.bl) = some bs := fun bs => by
    induction bs with
    | nil => rfl
    | cons b bs ih => simp [blsD, ih]
  simp [fAll, itemsL, this]
theorem lt_eq (s : S) (x y : Str) : fLt s (.str x) (.str y) = some (.bl (JSet.lt x y)) := rfl
theorem design3 (s : S) (xs : List Str) (hl : xs.length ≤ 3) (h : ∀ x ∈ xs, PyData.strOk x = true) : F_is_design [.tup (xs.map D.str)] s = .ok (.bl (xs.all inN && adj xs)) s := by
  have hc : c_NAMES = .tup (names.map D.str) := rfl
  have hi : ∀ (s : S) (x : Str), PyData.strOk x = true → inD s (.str x) c_NAMES = some (inN x) := fun s x hx => by rw [hc]; exact inD_tup s x names hx names_ok
  have o1 : okR 1 = true := by decide
  have o0 : okR 0 = true := by decide
  have o2 : okR 2 = true := by decide
  have o3 : okR 3 = true := by decide
  have r0 : rangeD 1 0 = [] := rfl
  have r1 : rangeD 1 1 = [] := rfl
  have r2 : rangeD 1 2 = [.int 1] := rfl
  have r3 : rangeD 1 3 = [.int 1, .int 2] := rfl
  match xs, hl, h with
  | [], _, _ =>
    have f0 := fAll2 s []
    simp at f0
    simp [F_is_design, b_is_design, o1, o0, r0, f0, adj]
  | [a], _, h =>
    have ha := h a (by simp)
    have f0 := fAll2 s []
    have f1 := fAll2 s [inN a]
    simp at f0 f1
    cases e : inN a <;> rw [e] at f1 <;> simp [F_is_design, b_is_design, hi, ha, e, f1, o1, r1, f0, adj]
  | [a, b], _, h =>
    have ha := h a (by simp)
    have hb := h b (by simp)
    have f1 := fAll2 s [inN a, inN b]
    have f2 := fAll2 s [JSet.lt a b]
    have i1 : atI [D.str a, D.str b] 1 = some (.str b) := rfl
    simp at f1 f2
    cases e1 : inN a <;> cases e2 : inN b <;> rw [e1, e2] at f1 <;> simp [F_is_design, b_is_design, hi, ha, hb, e1, e2, f1, o1, o2, r2, i1, lt_eq, f2, adj]
  | [a, b, c], _, h =>
    have ha := h a (by simp)
    have hb := h b (by simp)
    have hc' := h c (by simp)
    have f1 := fAll2 s [inN a, inN b, inN c]
    have f2 := fAll2 s [JSet.lt a b, JSet.lt b c]
    have i1 : atI [D.str a, D.str b, D.str c] 1 = some (.str b) := rfl
    have i2 : atI [D.str a, D.str b, D.str c] 2 = some (.str c) := rfl
    simp at f1 f2
    cases e1 : inN a <;> cases e2 : inN b <;> cases e3 : inN c <;> rw [e1, e2, e3] at f1 <;> simp [F_is_design, b_is_design, hi, ha, hb, hc', e1, e2, e3, f1, o1, o3, r3, i1, i2, lt_eq, f2, adj]
end G


set_option Elab.async false
set_option linter.all false
set_option maxRecDepth 100000
set_option maxHeartbeats 4000000
namespace G
open PySem PySem.Spec L2 J
@[simp] theorem ap_sortSet (g : GE) (ρ : J.Env) (s : S) : gSortSet g ρ s = (g ρ s).bd (fun d s1 => R.ofO (fSortSet s1 d) s1) .mk := id rfl
@[simp] theorem ap_dic0 (ρ : J.Env) (s : S) : gDic0 ρ s = .ok (.obj s.length) (s ++ [.dic []]) := id rfl
theorem eq_nil (s : S) : eqD s (.lst []) (.lst []) = some true := by simp [eqD, deref, D.toPy, D.toPys, SeqAt.shaped, PyData.canLay0, PyData.canLayAll0, PyData.depth, PyData.depthAll, PyData.eqv, PyData.eqvAll]
theorem eqvAll_strs : ∀ xs ys : List Str, PyData.eqvAll (xs.map PyData.str) (ys.map PyData.str) = (xs == ys)
  | [], [] => by simp [PyData.eqvAll]
  | [], y :: ys => by simp [PyData.eqvAll]
  | x :: xs, [] => by simp [PyData.eqvAll]
  | x :: xs, y :: ys => by simp [PyData.eqvAll, PyData.eqv, eqvAll_strs xs ys]
theorem eqD_strs (s : S) (xs ys : List Str) (hx : ∀ z ∈ xs, PyData.strOk z = true) (hy : ∀ z ∈ ys, PyData.strOk z = true) : eqD s (.lst (xs.map D.str)) (.lst (ys.map D.str)) = some (xs == ys) := by
  simp only [eqD, deref, D.toPy, strs_toPys, Option.map_some, (shaped_strs xs hx).2, (shaped_strs ys hy).2, Bool.and_self, if_true]
  simp [PyData.eqv, eqvAll_strs]
theorem good_lc (s : S) (ρ : J.Env) (h : 9 < ρ.length) : lcLoop (dName 9) (gB (gOp2 fIsN (gCall 1 F_is_instruction (gaCons (gVar 9) gaNil)) (gC (.bl true)))) (gVar 9) ρ goodL s = .ok [] s := by
  rw [lcLoop_pure (fun _ => false) id _ fun x hx => ⟨ρ.set 9 (some x), rfl, by simp [h, good_ok s x hx, isD], fun z => by cases z⟩]
  rfl
def wl : List D := [st "gr", st "gw", st "own", st "rr", st "rw", st "ss", st "wr", st "ww", st "xx", st ""]
theorem wl_eq : wl = words.map D.str := rfl
theorem due_lc (s : S) (ρ : J.Env) (h : 11 < ρ.length) (h4 : ρ[4]? = some (some (.lst wl))) (xs : List Str) (hx : ∀ z ∈ xs, PyData.strOk z = true) :
    lcLoop (dName 11) (gB (gOp2 fNotIn (gVar 11) (gSl (gVar 4) goNone (goSome (gC (.int 8)))))) (gVar 11) ρ (xs.map D.str) s = .ok ((xs.filter fun x => !inN x).map D.str) s := by
  have hc : cutD wl none (some 8) = names.map D.str := rfl
  rw [lcLoop_pure (fun d => match d with | .str x => !inN x | _ => false) id _ fun d hd => by
    obtain ⟨x, hx', rfl⟩ := List.mem_map.mp hd
    have hi : ∀ s, inD s (.str x) (.lst (names.map D.str)) = some (inN x) := fun s => inD_lst s x names (hx x hx') names_ok
    exact ⟨ρ.set 11 (some (.str x)), rfl, by simp [h, h4, hc, hi], fun _ => by simp [h]⟩]
  rw [List.filter_map]
  simp [Function.comp_def]
theorem due_eq (s : S) (xs : List Str) (hx : ∀ z ∈ xs, PyData.strOk z = true) : eqD s (.lst ((xs.filter fun x => !inN x).map D.str)) (.lst []) = some (xs.all inN) := by
  have := eqD_strs s (xs.filter fun x => !inN x) [] (fun z hz => hx z (List.mem_filter.mp hz).1) (fun _ h => by cases h)
  rw [List.map_nil] at this
  rw [this]
  congr 1
  rw [Bool.eq_iff_iff, beq_iff_eq, List.filter_eq_nil_iff, List.all_eq_true]
  simp
theorem alike_bl (s : S) (k : Bool) : F_law_alike 2 [.bl k, .bl k] s = .ok (.bl true) s := by
  simp [F_law_alike, b_law_alike, isD]
theorem one_bad (s : S) (d : D) (h : d = .non ∨ ∃ n, d = .int n) : F_is_design [.tup [d]] s = .ok (.bl false) s := by
  have f1 : fAll s (.lst [.bl false]) = some (.bl false) := rfl
  rcases h with rfl | ⟨n, rfl⟩ <;> simp [F_is_design, b_is_design, f1]
theorem plain (ns : List Int) (h : ns.length ≤ 63) : ∃ s', F_law [.frz (ns.map D.int)] [] = .ok (.bl true) s' := by
  have r0 : RowS ns [] (rowL ns 0 14249 0 :: []) := ⟨0, 14249, 0, by decide, by decide, rfl⟩
  obtain ⟨c, s1, e1, hc, r1⟩ := instr_ok r0
  obtain ⟨ds, s2, e2, hd, r2⟩ := design_ok r1
  have e3 := is_instr hc s2
  have e4 := is_design_ok hd s2
  obtain ⟨m, s3, e5, m0, m1, r3⟩ := taken_ok 23 (by decide) (by decide) r2
  obtain ⟨v, hv, hm⟩ : ∃ v, atI oddL m = some v ∧ v ∈ oddL := by
    obtain ⟨k, rfl⟩ := Int.eq_ofNat_of_zero_le m0
    have hk : k < oddL.length := by show k < 23; omega
    exact ⟨oddL[k], atI_nat _ _ hk, List.getElem_mem hk⟩
  have e6 := odd_bad s3 v hm
  have e7 := good_lc s3
  obtain ⟨n, s4, e8, n0, n1, r4⟩ := taken_ok 4 (by decide) (by decide) r3
  have hk1 : okR n = true := by simp [okR]; omega
  have hk2 : (rangeD 0 n).length ≤ 16777216 := by simp [rangeD]; omega
  obtain ⟨ys, s5, e9, r5, l5, q5⟩ := lcAll (t := dName 10) (gt := gYes) (ge := gCall 2 F_law_pick (gaCons (gVar 1) (gaCons (gVar 4) gaNil))) (ρ := ([some (.frz (ns.map D.int)), some (.obj 0), some (.lst oddL), some (.lst goodL), some (.lst wl), none, none, some c.enc, some (.tup (ds.map D.str)), none, none, none] : J.Env)) (RowS ns []) (fun y => ∃ x : Str, y = .str x ∧ x ∈ words) (rangeD 0 n) s4 r4 fun x _ s hs => by
    obtain ⟨k, hk, s', e, hs'⟩ := pick_ok wl (by simp [wl]) (by simp [wl]) hs
    have hk' : k < words.length := hk
    have e' : wl[k] = .str words[k] := by simp [wl_eq]
    have e2 : F_law_pick [.obj 0, .lst wl] s = .ok (.str words[k]) s' := e.trans (congrArg (fun d => R.ok d s') e')
    exact ⟨_, .str words[k], s', rfl, rfl, by simp [e2], ⟨_, rfl, List.getElem_mem hk'⟩, hs'⟩
  obtain ⟨xs, rfl, hx⟩ := allEx ys q5
  have hl : xs.length ≤ 3 := by simp [rangeD] at l5; omega
  have ok : ∀ z ∈ xs, PyData.strOk z = true := fun z hz => words_ok z (hx z hz)
  have e10 := fun ρ h1 h2 => due_lc s5 ρ h1 h2 xs ok
  have e11 := due_eq s5 xs ok
  have e12 := eqD_strs s5 xs (JSet.sortU xs) ok fun z hz => ok z ((JSet.mem_sortU z xs).1 hz)
  rw [adj_sort] at e12
  have e13 : fSortSet s5 (.tup (xs.map D.str)) = some (.lst ((JSet.sortU xs).map D.str)) := by
    have : xs.length < 63 := by omega
    simp [fSortSet, strsD_map, this]
  have e14 := design3 s5 xs hl ok
  have e15 := alike_bl s5 (xs.all inN && adj xs)
  have hl2 : xs.length ≤ 16777216 := by omega
  -- the last pick
  obtain ⟨i, a, b, ha1, ha2, rfl⟩ := r5
  have r6 : RowS ns [.dic []] [rowL ns i a b, .dic []] := ⟨i, a, b, ha1, ha2, rfl⟩
  obtain ⟨k, hk, s7, e16, r7⟩ := pick_ok [.non, .lst (ds.map D.str), st "rr", .tup [.non], .tup [.int 0], .obj 1] (by simp) (by simp) r6
  obtain ⟨bd, hbd, e16⟩ : ∃ bd, F_is_design [bd] s7 = .ok (.bl false) s7 ∧ F_law_pick [.obj 0, .lst [.non, .lst (ds.map D.str), st "rr", .tup [.non], .tup [.int 0], .obj 1]] [rowL ns i a b, .dic []] = .ok bd s7 := by
    refine ⟨_, ?_, e16⟩
    match k, hk with
    | 0, _ => simp [F_is_design, b_is_design]
    | 1, _ => simp [F_is_design, b_is_design]
    | 2, _ => simp [F_is_design, b_is_design, st]
    | 3, _ => exact one_bad s7 _ (.inl rfl)
    | 4, _ => exact one_bad s7 _ (.inr ⟨_, rfl⟩)
    | 5, _ =>
      obtain ⟨i', a', b', _, _, rfl⟩ := r7
      have ht : tyD (rowL ns i' a' b' :: [IO.dic []]) (.obj 1) = some "dict" := rfl
      simp [F_is_design, b_is_design, ht]
  refine ⟨s7, ?_⟩
  have e1' : F_law_instruction [.obj 0] [IO.lst [.frz (ns.map D.int), .int 0, .int 14249, .int 0]] = _ := e1
  simp only [oddL, st] at hv
  simp only [goodL, st] at e7
  simp only [oddL, goodL, wl, st] at e9
  simp only [wl, st] at e10
  simp only [st] at e16
  have hlist : fList [rowL ns i a b] (.tup (xs.map D.str)) = some (.lst (xs.map D.str)) := rfl
  have hlist2 : ∀ s, fList s (.tup (ds.map D.str)) = some (.lst (ds.map D.str)) := fun _ => rfl
  cases hA : xs.all inN
  · rw [hA] at e11 e14 e15
    simp at e14 e15
    simp [F_law, b_law, e1', e2, e3, e4, isD, fAdd, e5, hv, e6, e7, eq_nil, e8, hk1, hk2, e9, hl2, e10, e11, e14, e15, e16, hbd, hlist2]
  · rw [hA] at e11 e14 e15
    simp at e14 e15
    simp [F_law, b_law, e1', e2, e3, e4, isD, fAdd, e5, hv, e6, e7, eq_nil, e8, hk1, hk2, e9, hl2, e10, e11, e12, e13, e14, e15, e16, hbd, hlist, hlist2]
end G


set_option Elab.async false
set_option linter.all false
set_option maxRecDepth 100000
set_option maxHeartbeats 0
namespace G
open PySem PySem.Spec PyProof.Rows L2 J
def d0 : He.DefD := ⟨("is_integer", none), "is_integer", "is_integer", defArgs (top 1), defBody (top 1), defScope (top 1), [], []⟩
def d1 : He.DefD := ⟨("is_in", none), "is_in", "is_in", defArgs (top 2), defBody (top 2), defScope (top 2), [], []⟩
def d2 : He.DefD := ⟨("is_list", none), "is_list", "is_list", defArgs (top 3), defBody (top 3), defScope (top 3), [], []⟩
def d3 : He.DefD := ⟨("is_instruction", none), "is_instruction", "is_instruction", defArgs (top 8), defBody (top 8), defScope (top 8), [], []⟩
def d4 : He.DefD := ⟨("is_design", none), "is_design", "is_design", defArgs (top 11), defBody (top 11), defScope (top 11), [], []⟩
def d5 : He.DefD := ⟨("_law_taken", none), "_law_taken", "_law_taken", defArgs (top 13), defBody (top 13), defScope (top 13), [], []⟩
def d6 : He.DefD := ⟨("_law_pick", none), "_law_pick", "_law_pick", defArgs (top 14), defBody (top 14), defScope (top 14), [], []⟩
def d7 : He.DefD := ⟨("_law_alike", none), "_law_alike", "_law_alike", defArgs (top 15), defBody (top 15), defScope (top 15), [], []⟩
def d8 : He.DefD := ⟨("_law_instruction", none), "_law_instruction", "_law_instruction", defArgs (top 16), defBody (top 16), defScope (top 16), [], []⟩
def d9 : He.DefD := ⟨("_law_design", none), "_law_design", "_law_design", defArgs (top 17), defBody (top 17), defScope (top 17), [], []⟩
def d10 : He.DefD := ⟨("law", none), "law", "law", defArgs (top 18), defBody (top 18), defScope (top 18), [], []⟩
def hfn : List He.DefD := ([d0, d1, d2, d3, d4, d5, d6, d7, d8, d9, d10] : List He.DefD)
def hfa : List He.Fa := ([.free "all", .free "bool", .free "int", .free "isinstance", .free "len", .free "list", .free "range", .free "set", .free "sorted", .free "str", .free "tuple", .glo "is_integer", .glo "is_in", .glo "is_list", .glo "is_instruction", .glo "is_design", .glo "_law_taken", .glo "_law_pick", .glo "_law_alike", .glo "_law_instruction", .glo "_law_design", .glo "law"] : List He.Fa)
def hex (K : PySem.W.Frag) : Bool := (constB K "REGISTERS" c_REGISTERS) && ((constB K "CELLS" c_CELLS) && ((constB K "WORDS" c_WORDS) && ((constB K "NAMES" c_NAMES) && (true))))
abbrev R : PySem.W.OpenRow := PySem.W.OpenLaw.row PySem.Challenge.rw_pairskept_k09_whole_instructions
abbrev hk : PySem.W.Hook := He.hookX 6 hfa hfn [] [] hex
def ob (s : PySem.W.SharedT) : He.AlX := He.obsX 6 hfa hfn [] [] hex (HandSHeadRun.getT s)
theorem ob_eq (s : PySem.W.SharedT) : ob s = hk.obs s.abs := He.obsX_eq (HandSHeadRun.getT_eq s)
def loose : List PySem.Str := (["is_integer", "is_in", "is_list", "REGISTERS", "CELLS", "WORDS", "is_instruction", "NAMES", "is_design", "_law_taken", "_law_pick", "_law_alike", "_law_instruction", "_law_design"] : List PySem.Str)
theorem run (w : World) : HandSHeadRun.RunEq R (PySem.W.view R.prog [18]) hk ob 2000 loose w := by
  intro os
  kernel_rfl
def ct (K : PySem.W.Frag) (Pt : Addr) : Ct := ⟨fun i => match i with  | _ => 0, []⟩
theorem fx {w : World} {K : PySem.W.Frag} {h : Heap} {mg : Str → Option Value} {Pt : Addr} (X : K.In h) (Gh : h.Ns mainGlobals mg) (c : He.SaysX hfa hfn [] [] hex w h K) : Fx K mg (ct K Pt) := by
  have m := c.more
  simp only [hex, Bool.and_eq_true] at m
  exact {
    bi_all := He.free_ok X Gh (c.t.d.fact 0 (f := .free "all") rfl),
    bi_bool := He.free_ok X Gh (c.t.d.fact 1 (f := .free "bool") rfl),
    bi_int := He.free_ok X Gh (c.t.d.fact 2 (f := .free "int") rfl),
    bi_isinstance := He.free_ok X Gh (c.t.d.fact 3 (f := .free "isinstance") rfl),
    bi_len := He.free_ok X Gh (c.t.d.fact 4 (f := .free "len") rfl),
    bi_list := He.free_ok X Gh (c.t.d.fact 5 (f := .free "list") rfl),
    bi_range := He.free_ok X Gh (c.t.d.fact 6 (f := .free "range") rfl),
    bi_set := He.free_ok X Gh (c.t.d.fact 7 (f := .free "set") rfl),
    bi_sorted := He.free_ok X Gh (c.t.d.fact 8 (f := .free "sorted") rfl),
    bi_str := He.free_ok X Gh (c.t.d.fact 9 (f := .free "str") rfl),
    bi_tuple := He.free_ok X Gh (c.t.d.fact 10 (f := .free "tuple") rfl),
    c_REGISTERS := const_ok X Gh m.1,
    c_CELLS := const_ok X Gh m.2.1,
    c_WORDS := const_ok X Gh m.2.2.1,
    c_NAMES := const_ok X Gh m.2.2.2.1,
    d_is_integer := ⟨_, (c.t.d.def_ 0 (d := d0) rfl).choose, He.glo_ok X Gh (c.t.d.fact 11 (f := .glo "is_integer") rfl), (c.t.d.def_ 0 (d := d0) rfl).choose_spec⟩,
    d_is_in := ⟨_, (c.t.d.def_ 1 (d := d1) rfl).choose, He.glo_ok X Gh (c.t.d.fact 12 (f := .glo "is_in") rfl), (c.t.d.def_ 1 (d := d1) rfl).choose_spec⟩,
    d_is_list := ⟨_, (c.t.d.def_ 2 (d := d2) rfl).choose, He.glo_ok X Gh (c.t.d.fact 13 (f := .glo "is_list") rfl), (c.t.d.def_ 2 (d := d2) rfl).choose_spec⟩,
    d_is_instruction := ⟨_, (c.t.d.def_ 3 (d := d3) rfl).choose, He.glo_ok X Gh (c.t.d.fact 14 (f := .glo "is_instruction") rfl), (c.t.d.def_ 3 (d := d3) rfl).choose_spec⟩,
    d_is_design := ⟨_, (c.t.d.def_ 4 (d := d4) rfl).choose, He.glo_ok X Gh (c.t.d.fact 15 (f := .glo "is_design") rfl), (c.t.d.def_ 4 (d := d4) rfl).choose_spec⟩,
    d_law_taken := ⟨_, (c.t.d.def_ 5 (d := d5) rfl).choose, He.glo_ok X Gh (c.t.d.fact 16 (f := .glo "_law_taken") rfl), (c.t.d.def_ 5 (d := d5) rfl).choose_spec⟩,
    d_law_pick := ⟨_, (c.t.d.def_ 6 (d := d6) rfl).choose, He.glo_ok X Gh (c.t.d.fact 17 (f := .glo "_law_pick") rfl), (c.t.d.def_ 6 (d := d6) rfl).choose_spec⟩,
    d_law_alike := ⟨_, (c.t.d.def_ 7 (d := d7) rfl).choose, He.glo_ok X Gh (c.t.d.fact 18 (f := .glo "_law_alike") rfl), (c.t.d.def_ 7 (d := d7) rfl).choose_spec⟩,
    d_law_instruction := ⟨_, (c.t.d.def_ 8 (d := d8) rfl).choose, He.glo_ok X Gh (c.t.d.fact 19 (f := .glo "_law_instruction") rfl), (c.t.d.def_ 8 (d := d8) rfl).choose_spec⟩,
    d_law_design := ⟨_, (c.t.d.def_ 9 (d := d9) rfl).choose, He.glo_ok X Gh (c.t.d.fact 20 (f := .glo "_law_design") rfl), (c.t.d.def_ 9 (d := d9) rfl).choose_spec⟩ }
end G
open PySem PySem.W PySem.Calls PyProof.Rows
set_option maxRecDepth 100000 in
set_option maxHeartbeats 0 in
theorem PySem.Challenge.cw_pairskept_k09_whole_instructions_holds : PySem.Challenge.rw_pairskept_k09_whole_instructions.Holds := by
  w_on; o_law
  refine HandSHeadRun.head_any (r := OpenLaw.row PySem.Challenge.rw_pairskept_k09_whole_instructions) (q := view (OpenLaw.row PySem.Challenge.rw_pairskept_k09_whole_instructions).prog [18]) (H := G.hk) (ob := G.ob) (M := 2000) (loose := G.loose) (d := HandSHeadRun.topDef (OpenLaw.row PySem.Challenge.rw_pairskept_k09_whole_instructions).prog 18) (kwd := []) G.ob_eq
    (by kernel_rfl) (fun s => by kernel_rfl) G.run (by kernel_rfl) (by kernel_rfl) (by kernel_rfl) (by rfl) (by first | assumption | decide +kernel) (by decide +kernel) ⟨rfl, rfl, rfl, rfl, rfl, by decide +kernel⟩ ?hw ?hc
  case hw => w_witness2
  case hc =>
    refine LamX.walk_ofTsE (l := PySem.Challenge.rw_pairskept_k09_whole_instructions) (n := 63) (k := 4) (x := "_law_script") (CX := fun w => L2.CX (PySem.Challenge.rw_pairskept_k09_whole_instructions).prog w) rfl (by decide) (by kernel_rfl) ⟨rfl, by decide, by decide⟩ ?F (fun _ _ _ _ _ z => J.pass_none z)
    intro w mg fa h Y Gh hmg0
    obtain ⟨K, KX, c⟩ := Y
    have hmg : mg ("law" : PySem.Str) = some (.ref fa) := by
      have e : (HandSHeadRun.topDef (OpenLaw.row PySem.Challenge.rw_pairskept_k09_whole_instructions).prog 18).name = ("law" : PySem.Str) := by kernel_rfl
      rw [← e]
      exact hmg0
    have e := hmg.symm.trans (He.glo_ok KX Gh (c.t.d.fact 21 (f := .glo "law") rfl))
    cases e
    obtain ⟨fd, F⟩ := c.t.d.def_ 10 (d := G.d10) rfl
    refine ⟨K, KX, fd, [], J.spJ K (G.ct K 0) 1 G.F_law, (fun p hp => by cases hp), (fun p hp => by cases hp), (fun p hp => by cases hp), fun s v => (F.bindsA (ps := ["_law_script"]) fun _ _ _ _ _ _ us hl => match us, hl with | [_], _ => rfl) s [v] rfl, fun H a ns hl _ hT hS => ?_, fun base kb nb hb => ?_⟩
    · exact J.spJ_law (fun p hp => by cases hp) hS (G.plain ns hl)
    · exact G.j_law (Pt := 0) (G.fx KX Gh c) F rfl rfl

