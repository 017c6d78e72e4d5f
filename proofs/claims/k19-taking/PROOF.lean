import PyProof.Rows.All
import Wide.All
import OpenK.AllK
import Wide.FinOn
import HandS.Base
import HandS.Call
import HandS.List
import HandS.Comp
import HandS.Exc
import HandS.Words
import HandS.ExcOwn
import HandS.CallSlots
import HandS.Defaults
import HandS.TupLe
import HandS.IsInst
import HandS.Text
import HandS.Iter
import HandS.RevRange
import HandS.More
import HandS.NoneIn
import HandS.SetFor
import HandS.Conv
import HandS.ExcInit
import HandS.ExcField
import HandS.ExcIs
import HandS.WordsExc
import HandS.HotCalls
import KE.KExcIs
import HandS.HeadHook1
import HandS.HeadHook2
import PySem.Challenge.RW_heldbest_k19_taking
import HandS.Head0
import KE.KStateDown
import Lean
import HandS.Ends
import HandS.Head1
import HandS.Head2
import HandS.HeadEnd
set_option Elab.async false
set_option linter.all false
set_option maxRecDepth 100000
set_option maxHeartbeats 2000000
/-! FL: functional readings. A def's value as a plain function over data (D) and a store of mutable cells. -/
namespace FL
open PySem PySem.Spec PyProof.Rows L2
abbrev St := L2.St

/-- data -/
inductive D where
  | non | bl (b : Bool) | int (i : Int) | str (x : Str) | ty (n : String) | ref (a : Addr)
  | tup (ds : List D) | lst (ds : List D) | fls (ds : List D) | loc (n : Nat)
  | obj (C : Addr) (fs : List (Str × D)) | exn (C : Addr) (fs : List (Str × D))
  deriving Inhabited
/-- a mutable cell -/
inductive Cell where
  | lst (ds : List D) | ins (C : Addr) (fs : List (Str × D))
  deriving Inhabited
abbrev Sto := List Cell
abbrev Env := List (Option D)
/-- a view of the abstract heap: the cells' addresses, the hidden ones -/
structure Vw where
  ι : Nat → Addr
  Z : List Addr
  H : Hp
  S : Sto
def Vw.loc (w : Vw) (a : Addr) : Prop := ∃ m, m < w.S.length ∧ w.ι m = a
def Vw.mut (w : Vw) (a : Addr) : Prop := w.loc a ∨ a ∈ w.Z
def TupAt (K : PySem.W.Frag) (w : Vw) (a : Addr) (xs : List V) : Prop :=
  (Rd w.H a (.tup xs) ∧ ¬ w.mut a) ∨
    ∃ (o : Obj) (its : Array Value) (n : Nat), K.lookup a = some o ∧ o.cls = .type "tuple" ∧ o.data = .seq its n ∧ its.size ≤ sizeLine ∧ Vals xs its.toList
def LstAt (K : PySem.W.Frag) (w : Vw) (a : Addr) (xs : List V) : Prop :=
  (Rd w.H a (.lst xs) ∧ ¬ w.mut a) ∨
    ∃ (o : Obj) (its : Array Value) (n : Nat), K.lookup a = some o ∧ o.cls = .type "list" ∧ o.dict = none ∧ o.data = .seq its n ∧ its.size ≤ sizeLine ∧ Vals xs its.toList
theorem TupAt.sq {K : PySem.W.Frag} {w : Vw} {a : Addr} {xs : List V} (h : TupAt K w a xs) : SqT K w.H a xs := h.elim (fun h => .inl h.1) .inr
def LstV (w : Vw) (a : Addr) (xs : List V) : Prop := w.H a = some (.lst xs) ∧ ¬ w.mut a
theorem LstV.sq {K : PySem.W.Frag} {w : Vw} {a : Addr} {xs : List V} (h : LstV w a xs) : SqL K w.H a xs := SqL.of h.1
theorem LstAt.sq {K : PySem.W.Frag} {w : Vw} {a : Addr} {xs : List V} (h : LstAt K w a xs) : SqL K w.H a xs := h.elim (fun h => .inl h.1) .inr

mutual
inductive Rep (K : PySem.W.Frag) (pn : List (Addr × Obj)) (w : Vw) : V → D → Prop
  | non : Rep K pn w .non .non
  | bl (b : Bool) : Rep K pn w (.bl b) (.bl b)
  | int (i : Int) : Rep K pn w (.int i) (.int i)
  | str (x : Str) : Rep K pn w (.str x) (.str x)
  | ty (n : String) : Rep K pn w (.ty n) (.ty n)
  | ref (a : Addr) : Rep K pn w (.ref a) (.ref a)
  | tup {a : Addr} {xs : List V} {ds : List D} (h : TupAt K w a xs) (r : Reps K pn w xs ds) : Rep K pn w (.ref a) (.tup ds)
  | lst {a : Addr} {xs : List V} {ds : List D} (h : LstV w a xs) (r : Reps K pn w xs ds) : Rep K pn w (.ref a) (.lst ds)
  | fls {a : Addr} {xs : List V} {ds : List D} (h : LstAt K w a xs) (r : Reps K pn w xs ds) : Rep K pn w (.ref a) (.fls ds)
  | loc {m : Nat} (h : m < w.S.length) : Rep K pn w (.ref (w.ι m)) (.loc m)
  | obj {a C dx : Addr} {fs : List (Str × V)} {gs : List (Str × D)} (h : w.H a = some (.ins C dx fs)) (n : ¬ w.mut a) (r : RepF K pn w fs gs) : Rep K pn w (.ref a) (.obj C gs)
  | exn0 {a C : Addr} {oe : Obj} (h : (a, oe) ∈ pn) (hz : Zc (.ref C) none oe) (hf : ∃ vs, oe.data = .fields vs) : Rep K pn w (.ref a) (.exn C [])
  | exn {a C dd : Addr} {oe : Obj} {fs : List (Str × V)} {gs : List (Str × D)} (h : (a, oe) ∈ pn) (hz : Zc (.ref C) (some dd) oe) (hf : ∃ vs, oe.data = .fields vs) (hd : w.H dd = some (.xd fs)) (n : ¬ w.mut dd) (r : RepF K pn w fs gs) : Rep K pn w (.ref a) (.exn C gs)
inductive Reps (K : PySem.W.Frag) (pn : List (Addr × Obj)) (w : Vw) : List V → List D → Prop
  | nil : Reps K pn w [] []
  | cons {v : V} {d : D} {vs : List V} {ds : List D} (h : Rep K pn w v d) (t : Reps K pn w vs ds) : Reps K pn w (v :: vs) (d :: ds)
inductive RepF (K : PySem.W.Frag) (pn : List (Addr × Obj)) (w : Vw) : List (Str × V) → List (Str × D) → Prop
  | nil : RepF K pn w [] []
  | cons {f : Str} {v : V} {d : D} {vs : List (Str × V)} {ds : List (Str × D)} (h : Rep K pn w v d) (t : RepF K pn w vs ds) : RepF K pn w ((f, v) :: vs) ((f, d) :: ds)
end

/-- the later view of the same things -/
structure Ext (w w' : Vw) : Prop where
  len : w.S.length ≤ w'.S.length
  ι : ∀ m, m < w.S.length → w'.ι m = w.ι m
  new : ∀ m, w.S.length ≤ m → m < w'.S.length → w.H (w'.ι m) = none
  Z : (∀ z ∈ w.Z, z ∈ w'.Z) ∧ ∀ z ∈ w'.Z, z ∈ w.Z ∨ w.H z = none
  keep : ∀ a o, w.H a = some o → ¬ w.loc a → w'.H a = some o
  live : ∀ a o, w.H a = some o → ∃ o', w'.H a = some o'
theorem Ext.refl (w : Vw) : Ext w w := ⟨Nat.le_refl _, fun _ _ => rfl, fun m h1 h2 => absurd h2 (Nat.not_lt.mpr h1), ⟨fun _ h => h, fun _ h => .inl h⟩, fun _ _ h _ => h, fun _ o h => ⟨o, h⟩⟩
theorem Ext.loc {w w' : Vw} (e : Ext w w') {a : Addr} {o : HO} (h : w.H a = some o) (n : ¬ w.loc a) : ¬ w'.loc a := fun ⟨m, hm, e1⟩ => by
  by_cases hl : m < w.S.length
  · exact n ⟨m, hl, by rw [← e.ι m hl]; exact e1⟩
  · have := e.new m (Nat.not_lt.mp hl) hm
    rw [e1, h] at this
    cases this
theorem Ext.mut {w w' : Vw} (e : Ext w w') {a : Addr} {o : HO} (h : w.H a = some o) (n : ¬ w.mut a) : ¬ w'.mut a := fun q => by
  rcases q with q | q
  · exact e.loc h (fun z => n (.inl z)) q
  · rcases e.Z.2 _ q with q | q
    · exact n (.inr q)
    · rw [h] at q; cases q
theorem Ext.trans {a b c : Vw} (x : Ext a b) (y : Ext b c) : Ext a c where
  len := Nat.le_trans x.len y.len
  ι := fun m h => (y.ι m (Nat.lt_of_lt_of_le h x.len)).trans (x.ι m h)
  new := fun m h1 h2 => by
    by_cases hl : m < b.S.length
    · have := x.new m h1 hl
      rw [← y.ι m hl] at this
      exact this
    · have q := y.new m (Nat.not_lt.mp hl) h2
      cases e : a.H (c.ι m) with
      | none => rfl
      | some o =>
        obtain ⟨o', e'⟩ := x.live _ _ e
        rw [q] at e'
        cases e'
  Z := ⟨fun z h => y.Z.1 z (x.Z.1 z h), fun z h => by
    rcases y.Z.2 z h with h | h
    · exact x.Z.2 z h
    · refine .inr ?_
      cases e : a.H z with
      | none => rfl
      | some o =>
        obtain ⟨o', e'⟩ := x.live _ _ e
        rw [h] at e'
        cases e'⟩
  keep := fun p o h n => y.keep p o (x.keep p o h n) (x.loc h n)
  live := fun p o h => let ⟨o', h'⟩ := x.live p o h; y.live p o' h'
section
variable {K : PySem.W.Frag} {pn pn' : List (Addr × Obj)} {w w' : Vw}
theorem Ext.rd (e : Ext w w') {a : Addr} {u : HO} (h : Rd w.H a u ∧ ¬ w.mut a) : Rd w'.H a u ∧ ¬ w'.mut a := by
  obtain ⟨h, n⟩ := h
  rcases h with h | ⟨o, h⟩
  · exact ⟨.inl (e.keep _ _ h fun z => n (.inl z)), e.mut h n⟩
  · exact ⟨.inr ⟨o, e.keep _ _ h fun z => n (.inl z)⟩, e.mut h n⟩
theorem Ext.tup (e : Ext w w') {a : Addr} {xs : List V} (h : TupAt K w a xs) : TupAt K w' a xs := h.imp e.rd id
theorem Ext.lstV (e : Ext w w') {a : Addr} {xs : List V} (h : LstV w a xs) : LstV w' a xs := ⟨e.keep _ _ h.1 fun z => h.2 (.inl z), e.mut h.1 h.2⟩
theorem Ext.lst (e : Ext w w') {a : Addr} {xs : List V} (h : LstAt K w a xs) : LstAt K w' a xs := h.imp e.rd id
mutual
theorem Rep.ext (e : Ext w w') (hp : ∀ p ∈ pn, p ∈ pn') : ∀ {v : V} {d : D}, Rep K pn w v d → Rep K pn' w' v d
  | _, _, .non => .non
  | _, _, .bl b => .bl b
  | _, _, .int i => .int i
  | _, _, .str x => .str x
  | _, _, .ty n => .ty n
  | _, _, .ref a => .ref a
  | _, _, .tup h r => .tup (e.tup h) (Reps.ext e hp r)
  | _, _, .lst h r => .lst (e.lstV h) (Reps.ext e hp r)
  | _, _, .fls h r => .fls (e.lst h) (Reps.ext e hp r)
  | _, _, .loc (m := m) h => by
    have q : w'.ι m = w.ι m := e.ι m h
    rw [← q]
    exact .loc (Nat.lt_of_lt_of_le h e.len)
  | _, _, .obj h n r => .obj (e.keep _ _ h fun z => n (.inl z)) (e.mut h n) (RepF.ext e hp r)
  | _, _, .exn0 h hz hf => .exn0 (hp _ h) hz hf
  | _, _, .exn h hz hf hd n r => .exn (hp _ h) hz hf (e.keep _ _ hd fun z => n (.inl z)) (e.mut hd n) (RepF.ext e hp r)
theorem Reps.ext (e : Ext w w') (hp : ∀ p ∈ pn, p ∈ pn') : ∀ {v : List V} {d : List D}, Reps K pn w v d → Reps K pn' w' v d
  | _, _, .nil => .nil
  | _, _, .cons h t => .cons (Rep.ext e hp h) (Reps.ext e hp t)
theorem RepF.ext (e : Ext w w') (hp : ∀ p ∈ pn, p ∈ pn') : ∀ {v : List (Str × V)} {d : List (Str × D)}, RepF K pn w v d → RepF K pn' w' v d
  | _, _, .nil => .nil
  | _, _, .cons h t => .cons (Rep.ext e hp h) (RepF.ext e hp t)
end
theorem Rep.to (r : Rep K pn w v d) (e : Ext w w') : Rep K pn w' v d := r.ext e fun _ h => h
theorem Reps.to {vs : List V} {ds : List D} (r : Reps K pn w vs ds) (e : Ext w w') : Reps K pn w' vs ds := r.ext e fun _ h => h
theorem RepF.to {vs : List (Str × V)} {ds : List (Str × D)} (r : RepF K pn w vs ds) (e : Ext w w') : RepF K pn w' vs ds := r.ext e fun _ h => h
theorem Reps.length : ∀ {vs : List V} {ds : List D}, Reps K pn w vs ds → vs.length = ds.length
  | _, _, .nil => rfl
  | _, _, .cons _ t => congrArg (· + 1) t.length
theorem Reps.get : ∀ {vs : List V} {ds : List D} {i : Nat} {d : D}, Reps K pn w vs ds → ds[i]? = some d → ∃ v, vs[i]? = some v ∧ Rep K pn w v d
  | _, _, _, _, .nil, e => by simp at e
  | _, _, 0, _, .cons h _, e => by simp at e; subst e; exact ⟨_, rfl, h⟩
  | _, _, i + 1, d, .cons _ t, e => by
    obtain ⟨v, h1, h2⟩ := t.get (i := i) (d := d) (by simpa using e)
    exact ⟨v, by simpa using h1, h2⟩
theorem Reps.getV : ∀ {vs : List V} {ds : List D} {i : Nat} {v : V}, Reps K pn w vs ds → vs[i]? = some v → ∃ d, ds[i]? = some d ∧ Rep K pn w v d
  | _, _, _, _, .nil, e => by simp at e
  | _, _, 0, _, .cons h _, e => by simp at e; subst e; exact ⟨_, rfl, h⟩
  | _, _, i + 1, v, .cons _ t, e => by
    obtain ⟨d, h1, h2⟩ := t.getV (i := i) (v := v) (by simpa using e)
    exact ⟨d, by simpa using h1, h2⟩
theorem Reps.append : ∀ {vs us : List V} {ds es : List D}, Reps K pn w vs ds → Reps K pn w us es → Reps K pn w (vs ++ us) (ds ++ es)
  | _, _, _, _, .nil, s => s
  | _, _, _, _, .cons h t, s => .cons h (t.append s)
theorem Reps.take : ∀ {vs : List V} {ds : List D} (n : Nat), Reps K pn w vs ds → Reps K pn w (vs.take n) (ds.take n)
  | _, _, 0, _ => .nil
  | _, _, _ + 1, .nil => .nil
  | _, _, n + 1, .cons h t => .cons h (t.take n)
theorem Reps.drop : ∀ {vs : List V} {ds : List D} (n : Nat), Reps K pn w vs ds → Reps K pn w (vs.drop n) (ds.drop n)
  | _, _, 0, r => r
  | _, _, _ + 1, .nil => .nil
  | _, _, n + 1, .cons _ t => t.drop n
theorem Reps.set {v : V} {d : D} (h : Rep K pn w v d) : ∀ {vs : List V} {ds : List D} (n : Nat), Reps K pn w vs ds → Reps K pn w (vs.set n v) (ds.set n d)
  | _, _, _, .nil => .nil
  | _, _, 0, .cons _ t => .cons h t
  | _, _, n + 1, .cons q t => .cons q (Reps.set h n t)
theorem Reps.ints : ∀ {vs : List V} {ns : List Int}, Reps K pn w vs (ns.map D.int) → vs = ns.map V.int
  | _, [], .nil => rfl
  | _, n :: ns, .cons h t => by cases h; rw [Reps.ints t]; rfl
theorem Reps.ofInts : ∀ {ns : List Int}, Reps K pn w (ns.map V.int) (ns.map D.int)
  | [] => .nil
  | n :: ns => .cons (.int n) Reps.ofInts
theorem RepF.lookup : ∀ {fs : List (Str × V)} {gs : List (Str × D)} {f : Str} {d : D}, RepF K pn w fs gs → gs.lookup f = some d → ∃ v, fs.lookup f = some v ∧ Rep K pn w v d
  | _, _, _, _, .nil, e => by cases e
  | _, _, f, d, .cons (f := g) h t, e => by
    unfold List.lookup at e ⊢
    cases q : (f == g) with
    | true => rw [q] at e; cases e; exact ⟨_, rfl, h⟩
    | false => rw [q] at e; exact t.lookup e
theorem RepF.lookup_none : ∀ {fs : List (Str × V)} {gs : List (Str × D)} {f : Str}, RepF K pn w fs gs → gs.lookup f = none → fs.lookup f = none
  | _, _, _, .nil, e => rfl
  | _, _, f, .cons (f := g) h t, e => by
    unfold List.lookup at e ⊢
    cases q : (f == g) with
    | true => rw [q] at e; cases e
    | false => rw [q] at e; exact t.lookup_none e
theorem RepF.length : ∀ {fs : List (Str × V)} {gs : List (Str × D)}, RepF K pn w fs gs → fs.length = gs.length
  | _, _, .nil => rfl
  | _, _, .cons _ t => congrArg (· + 1) t.length
end
/-- what a cell holds -/
def CellOk (K : PySem.W.Frag) (pn : List (Addr × Obj)) (w : Vw) (a : Addr) : Cell → Prop
  | .lst ds => ∃ xs, w.H a = some (.lst xs) ∧ Reps K pn w xs ds
  | .ins C gs => ∃ dx fs, w.H a = some (.ins C dx fs) ∧ RepF K pn w fs gs
structure Vw.Ok (K : PySem.W.Frag) (w : Vw) : Prop where
  inj : ∀ i j, i < w.S.length → j < w.S.length → w.ι i = w.ι j → i = j
  hz : ∀ z ∈ w.Z, ∃ o, w.H z = some o
  hzl : ∀ m, m < w.S.length → w.ι m ∉ w.Z
  cell : ∀ m c, w.S[m]? = some c → CellOk K [] w (w.ι m) c
theorem CellOk.live {K : PySem.W.Frag} {pn : List (Addr × Obj)} {w : Vw} {a : Addr} {c : Cell} (h : CellOk K pn w a c) : ∃ o, w.H a = some o ∧ Mut (some o) := by
  cases c with
  | lst ds => obtain ⟨xs, h, _⟩ := h; exact ⟨_, h, trivial⟩
  | ins C gs => obtain ⟨dx, fs, h, _⟩ := h; exact ⟨_, h, trivial⟩
theorem CellOk.ext {K : PySem.W.Frag} {pn : List (Addr × Obj)} {w w' : Vw} {a : Addr} {c : Cell} (h : CellOk K pn w a c) (e : Ext w w') (k : w'.H a = w.H a) : CellOk K pn w' a c := by
  cases c with
  | lst ds => obtain ⟨xs, h, r⟩ := h; exact ⟨xs, k.trans h, r.to e⟩
  | ins C gs => obtain ⟨dx, fs, h, r⟩ := h; exact ⟨dx, fs, k.trans h, r.to e⟩
def EnvOk (K : PySem.W.Frag) (pn : List (Addr × Obj)) (w : Vw) (σ : St) (env : Env) : Prop :=
  env.length = σ.length ∧ ∀ (i : Nat) (d : D), env[i]? = some (some d) → ∃ v, σ[i]? = some (some v) ∧ Rep K pn w v d
theorem EnvOk.to {K : PySem.W.Frag} {pn : List (Addr × Obj)} {w w' : Vw} {σ : St} {env : Env} (h : EnvOk K pn w σ env) (e : Ext w w') : EnvOk K pn w' σ env :=
  ⟨h.1, fun i d q => let ⟨v, h1, h2⟩ := h.2 i d q; ⟨v, h1, h2.to e⟩⟩
theorem EnvOk.set {K : PySem.W.Frag} {pn : List (Addr × Obj)} {w : Vw} {σ : St} {env : Env} {i : Nat} {v : V} {d : D} (h : EnvOk K pn w σ env) (r : Rep K pn w v d) : EnvOk K pn w (σ.set i (some v)) (env.set i (some d)) := by
  refine ⟨by simpa using h.1, fun j e q => ?_⟩
  by_cases hj : i = j
  · subst hj
    by_cases hl : i < env.length
    · rw [List.getElem?_set_self hl] at q
      cases q
      exact ⟨v, List.getElem?_set_self (by rw [← h.1]; exact hl), r⟩
    · rw [List.getElem?_eq_none (by simpa using hl)] at q
      cases q
  · rw [List.getElem?_set_ne hj] at q
    obtain ⟨u, h1, h2⟩ := h.2 j e q
    exact ⟨u, by rw [List.getElem?_set_ne hj]; exact h1, h2⟩
theorem EnvOk.drop1 {K : PySem.W.Frag} {pn : List (Addr × Obj)} {w : Vw} {σ : St} {env : Env} {i : Nat} {x : Option V} (h : EnvOk K pn w σ env) : EnvOk K pn w (σ.set i x) (env.set i none) := by
  refine ⟨by simpa using h.1, fun j e q => ?_⟩
  by_cases hj : i = j
  · subst hj
    by_cases hl : i < env.length
    · rw [List.getElem?_set_self hl] at q
      cases q
    · rw [List.getElem?_eq_none (by simpa using hl)] at q
      cases q
  · rw [List.getElem?_set_ne hj] at q
    obtain ⟨u, h1, h2⟩ := h.2 j e q
    exact ⟨u, by rw [List.getElem?_set_ne hj]; exact h1, h2⟩

/-- what comes out -/
inductive R (α : Type) where
  | ok (a : α) (S : Sto) | exc (C : Addr) (fs : List (Str × D)) (S : Sto) | bad
  deriving Inhabited
def R.bind {α β : Type} : R α → (α → Sto → R β) → R β
  | .ok a S, k => k a S
  | .exc C fs S, _ => .exc C fs S
  | .bad, _ => .bad
def Post (K : PySem.W.Frag) {α : Type} (w : Vw) (r : R α) (P : Vw → α → Prop) (W : Vw → Addr → List (Str × D) → Prop) : Prop :=
  match r with
  | .ok a S' => ∀ w', Ext w w' → w'.S = S' → w'.Ok K → P w' a
  | .exc C fs S' => ∀ w', Ext w w' → w'.S = S' → w'.Ok K → W w' C fs
  | .bad => False
theorem Post.mono {K : PySem.W.Frag} {α : Type} {w : Vw} {r : R α} {P P' : Vw → α → Prop} {W W' : Vw → Addr → List (Str × D) → Prop} (h : Post K w r P W) (hP : ∀ w' a, Ext w w' → w'.Ok K → P w' a → P' w' a) (hW : ∀ w' C fs, Ext w w' → w'.Ok K → W w' C fs → W' w' C fs) : Post K w r P' W' := by
  cases r with
  | ok a S => exact fun w' e z o => hP _ _ e o (h w' e z o)
  | exc C fs S => exact fun w' e z o => hW _ _ _ e o (h w' e z o)
  | bad => exact h
theorem Post.bind {K : PySem.W.Frag} {α β : Type} {w : Vw} {r : R α} {k : α → Sto → R β} {P : Vw → β → Prop} {W : Vw → Addr → List (Str × D) → Prop} (h : Post K w (r.bind k) P W) :
    Post K w r (fun w1 a => Post K w1 (k a w1.S) P W) W := by
  cases r with
  | ok a S =>
    intro w1 e z o
    have h' : Post K w (k a S) P W := h
    subst z
    cases q : k a w1.S with
    | ok b S2 => rw [q] at h'; exact fun w2 e2 z2 o2 => h' w2 (e.trans e2) z2 o2
    | exc C fs S2 => rw [q] at h'; exact fun w2 e2 z2 o2 => h' w2 (e.trans e2) z2 o2
    | bad => rw [q] at h'; exact h'
  | exc C fs S => exact h
  | bad => exact h
theorem Post.ret {K : PySem.W.Frag} {α : Type} {w : Vw} {a : α} {P : Vw → α → Prop} {W : Vw → Addr → List (Str × D) → Prop} (o : w.Ok K) (h : Post K w (.ok a w.S) P W) : P w a := h w (Ext.refl w) rfl o

/-- the own dict of an exception with these fields -/
def ExA (K : PySem.W.Frag) (w : Vw) (dA : Option Addr) (gs : List (Str × D)) : Prop :=
  (gs = [] ∧ dA = none) ∨ ∃ dd fs, dA = some dd ∧ w.H dd = some (.xd fs) ∧ ¬ w.mut dd ∧ RepF K [] w fs gs
def WP (K : PySem.W.Frag) (W : WX) (σ : St) (w : Vw) (C : Addr) (gs : List (Str × D)) : Prop := ∀ dA, ExA K w dA gs → W (.ref C) dA σ w.H
/-! ### readings -/
abbrev F := Env → Sto → R D
abbrev Fa := Env → Sto → R (List D)
abbrev Ft := Env → Sto → R Bool
def RE (K : PySem.W.Frag) (pn : List (Addr × Obj)) (W : WX) (f : F) : TE := fun σ H Q => ∃ w env, w.H = H ∧ w.Ok K ∧ EnvOk K pn w σ env ∧ Post K w (f env w.S) (fun w' d => ∀ v, Rep K pn w' v d → Q v w'.H) (WP K W σ)
def RA (K : PySem.W.Frag) (pn : List (Addr × Obj)) (W : WX) (f : Fa) : TA := fun σ H Q => ∃ w env, w.H = H ∧ w.Ok K ∧ EnvOk K pn w σ env ∧ Post K w (f env w.S) (fun w' ds => ∀ vs, Reps K pn w' vs ds → Q vs w'.H) (WP K W σ)
def RT (K : PySem.W.Frag) (pn : List (Addr × Obj)) (W : WX) (f : Ft) : TT := fun σ H Q => ∃ w env, w.H = H ∧ w.Ok K ∧ EnvOk K pn w σ env ∧ Post K w (f env w.S) (fun w' b => Q b w'.H) (WP K W σ)
abbrev Pn := List (Addr × Obj)
def FE (X : Cx) (P : Pn) (W : WX) (e : Expr) (f : F) : Prop := PE X e (RE X.K P W f)
def FA (X : Cx) (P : Pn) (W : WX) (es : List Expr) (f : Fa) : Prop := PA X es (RA X.K P W f)
def FT (X : Cx) (P : Pn) (W : WX) (e : Expr) (f : Ft) : Prop := PT X e (RT X.K P W f)
def FW (X : Cx) (P : Pn) (W : WX) (e : Expr) (f : Ft) : Prop := PW X e (RT X.K P W f)

theorem peI {X : Cx} {e : Expr} {t t' : TE} (h : PE X e t) (i : ∀ σ H Q, t' σ H Q → t σ H Q) : PE X e t' := ⟨fun pins s σ H Q I q => h.run pins s σ H Q I (i _ _ _ q)⟩
theorem ptI {X : Cx} {e : Expr} {t t' : TT} (h : PT X e t) (i : ∀ σ H Q, t' σ H Q → t σ H Q) : PT X e t' := ⟨fun pins s σ H Q I q => h.run pins s σ H Q I (i _ _ _ q)⟩
theorem pwI {X : Cx} {e : Expr} {t t' : TT} (h : PW X e t) (i : ∀ σ H Q, t' σ H Q → t σ H Q) : PW X e t' := ⟨fun wh pins s σ H Q I q => h.run wh pins s σ H Q I (i _ _ _ q)⟩
theorem paI {X : Cx} {e : List Expr} {t t' : TA} (h : PA X e t) (i : ∀ σ H Q, t' σ H Q → t σ H Q) : PA X e t' := ⟨fun pos pins s σ H Q I q => h.run pos pins s σ H Q I (i _ _ _ q)⟩

section
variable {K : PySem.W.Frag} {pn : List (Addr × Obj)} {W : WX} {σ : St} {w : Vw} {env : Env}
/-- the first part of an expression is evaluated; the rest of what is wanted follows -/
theorem re_bind {f : F} {β : Type} {k : D → Sto → R β} {P : Vw → β → Prop} {Q : VK} (o : w.Ok K) (en : EnvOk K pn w σ env) (h : Post K w ((f env w.S).bind k) P (WP K W σ))
    (c : ∀ w1 v d, Ext w w1 → w1.Ok K → EnvOk K pn w1 σ env → Rep K pn w1 v d → Post K w1 (k d w1.S) P (WP K W σ) → Q v w1.H) : RE K pn W f σ w.H Q :=
  ⟨w, env, rfl, o, en, h.bind.mono (fun w1 d e1 o1 q v r => c w1 v d e1 o1 (en.to e1) r q) fun _ _ _ _ _ q => q⟩
theorem ra_bind {f : Fa} {β : Type} {k : List D → Sto → R β} {P : Vw → β → Prop} {Q : List V → Hp → Prop} (o : w.Ok K) (en : EnvOk K pn w σ env) (h : Post K w ((f env w.S).bind k) P (WP K W σ))
    (c : ∀ w1 v d, Ext w w1 → w1.Ok K → EnvOk K pn w1 σ env → Reps K pn w1 v d → Post K w1 (k d w1.S) P (WP K W σ) → Q v w1.H) : RA K pn W f σ w.H Q :=
  ⟨w, env, rfl, o, en, h.bind.mono (fun w1 d e1 o1 q v r => c w1 v d e1 o1 (en.to e1) r q) fun _ _ _ _ _ q => q⟩
theorem rt_bind {f : Ft} {β : Type} {k : Bool → Sto → R β} {P : Vw → β → Prop} {Q : Bool → Hp → Prop} (o : w.Ok K) (en : EnvOk K pn w σ env) (h : Post K w ((f env w.S).bind k) P (WP K W σ))
    (c : ∀ w1 b, Ext w w1 → w1.Ok K → EnvOk K pn w1 σ env → Post K w1 (k b w1.S) P (WP K W σ) → Q b w1.H) : RT K pn W f σ w.H Q :=
  ⟨w, env, rfl, o, en, h.bind.mono (fun w1 b e1 o1 q => c w1 b e1 o1 (en.to e1) q) fun _ _ _ _ _ q => q⟩
end
end FL
set_option maxRecDepth 100000
set_option maxHeartbeats 2000000
namespace FL
open PySem PySem.Spec PyProof.Rows L2

section
variable {K : PySem.W.Frag} {pn : List (Addr × Obj)} {w : Vw}
/-! ### new things, changed things -/
theorem Vw.Ok.fresh (o : w.Ok K) {p : Addr} (h : w.H p = none) : ¬ w.mut p := fun q => by
  rcases q with ⟨m, hm, e⟩ | q
  · obtain ⟨c, hc⟩ : ∃ c, w.S[m]? = some c := ⟨w.S[m], by simp [hm]⟩
    obtain ⟨u, hu, _⟩ := (o.cell m c hc).live
    rw [e, h] at hu
    cases hu
  · obtain ⟨u, hu⟩ := o.hz p q
    rw [h] at hu
    cases hu
abbrev Vw.nu (w : Vw) (p : Addr) (u : HO) : Vw := { w with H := upd w.H p u }
theorem Vw.nu_ext {p : Addr} {u : HO} (h : w.H p = none) : Ext w (w.nu p u) :=
  ⟨Nat.le_refl _, fun _ _ => rfl, fun m h1 h2 => absurd h2 (Nat.not_lt.mpr h1), ⟨fun _ h => h, fun _ h => .inl h⟩, fun a o q _ => (upd_ne (ne_of_none q h)).trans q, fun a o q => ⟨o, (upd_ne (ne_of_none q h)).trans q⟩⟩
theorem Vw.Ok.nu (o : w.Ok K) {p : Addr} {u : HO} (h : w.H p = none) : (w.nu p u).Ok K where
  inj := o.inj
  hz := fun z q => let ⟨x, hx⟩ := o.hz z q; ⟨x, (upd_ne (ne_of_none hx h)).trans hx⟩
  hzl := o.hzl
  cell := fun m c q => by
    obtain ⟨x, hx, _⟩ := (o.cell m c q).live
    exact (o.cell m c q).ext (Vw.nu_ext h) (upd_ne (ne_of_none hx h))
theorem Rep.newL {p : Addr} {xs : List V} {ds : List D} (o : w.Ok K) (h : w.H p = none) (r : Reps K pn w xs ds) : Rep K pn (w.nu p (.lst xs)) (.ref p) (.lst ds) :=
  .lst ⟨upd_same, o.fresh h⟩ (r.to (Vw.nu_ext h))
theorem Rep.newT {p : Addr} {xs : List V} {ds : List D} (o : w.Ok K) (h : w.H p = none) (r : Reps K pn w xs ds) : Rep K pn (w.nu p (.tup xs)) (.ref p) (.tup ds) :=
  .tup (.inl ⟨.inl upd_same, o.fresh h⟩) (r.to (Vw.nu_ext h))
/-- a new cell -/
abbrev Vw.al (w : Vw) (p : Addr) (u : HO) (c : Cell) : Vw := { ι := fun m => if m = w.S.length then p else w.ι m, Z := w.Z, H := upd w.H p u, S := w.S ++ [c] }
theorem Vw.al_ext {p : Addr} {u : HO} {c : Cell} (h : w.H p = none) : Ext w (w.al p u c) where
  len := by simp
  ι := fun m hm => if_neg (Nat.ne_of_lt hm)
  new := fun m h1 h2 => by
    have e : m = w.S.length := by
      have : m < (w.S ++ [c]).length := h2
      rw [List.length_append] at this
      simp at this
      omega
    show w.H (if m = w.S.length then p else w.ι m) = none
    rw [if_pos e]
    exact h
  Z := ⟨fun _ h => h, fun _ h => .inl h⟩
  keep := fun a o q _ => (upd_ne (ne_of_none q h)).trans q
  live := fun a o q => ⟨o, (upd_ne (ne_of_none q h)).trans q⟩
theorem Vw.Ok.al (o : w.Ok K) {p : Addr} {u : HO} {c : Cell} (h : w.H p = none) (hc : CellOk K [] (w.al p u c) p c) : (w.al p u c).Ok K := by
  have ne : ∀ m, m < w.S.length → w.ι m ≠ p := fun m hm e => o.fresh h (.inl ⟨m, hm, e⟩)
  have len : (w.al p u c).S.length = w.S.length + 1 := by simp
  refine ⟨fun i j hi hj e => ?_, fun z q => ?_, fun m hm q => ?_, fun m c' q => ?_⟩
  · rw [len] at hi hj
    have e' : (if i = w.S.length then p else w.ι i) = (if j = w.S.length then p else w.ι j) := e
    by_cases h1 : i = w.S.length <;> by_cases h2 : j = w.S.length
    · omega
    · rw [if_pos h1, if_neg h2] at e'
      exact absurd e'.symm (ne j (by omega))
    · rw [if_neg h1, if_pos h2] at e'
      exact absurd e' (ne i (by omega))
    · rw [if_neg h1, if_neg h2] at e'
      exact o.inj i j (by omega) (by omega) e'
  · obtain ⟨x, hx⟩ := o.hz z q
    exact ⟨x, (upd_ne (ne_of_none hx h)).trans hx⟩
  · rw [len] at hm
    have q' : (if m = w.S.length then p else w.ι m) ∈ w.Z := q
    by_cases h1 : m = w.S.length
    · rw [if_pos h1] at q'
      exact o.fresh h (.inr q')
    · rw [if_neg h1] at q'
      exact o.hzl m (by omega) q'
  · have q' : (w.S ++ [c])[m]? = some c' := q
    show CellOk K [] (w.al p u c) (if m = w.S.length then p else w.ι m) c'
    by_cases h1 : m = w.S.length
    · subst h1
      rw [List.getElem?_append_right (Nat.le_refl _)] at q'
      simp at q'
      subst q'
      rw [if_pos rfl]
      exact hc
    · have hm : m < w.S.length := by
        have := (List.getElem?_eq_some_iff.mp q').1
        rw [List.length_append] at this
        simp at this
        omega
      rw [List.getElem?_append_left hm] at q'
      rw [if_neg h1]
      obtain ⟨x, hx, _⟩ := (o.cell m c' q').live
      exact (o.cell m c' q').ext (Vw.al_ext h) (upd_ne (ne_of_none hx h))
/-- a cell changed -/
abbrev Vw.st (w : Vw) (m : Nat) (u : HO) (c : Cell) : Vw := { w with H := upd w.H (w.ι m) u, S := w.S.set m c }
theorem Vw.st_ext {m : Nat} {u : HO} {c : Cell} (h : m < w.S.length) : Ext w (w.st m u c) where
  len := by simp
  ι := fun _ _ => rfl
  new := fun k h1 h2 => by
    have : k < (w.S.set m c).length := h2
    rw [List.length_set] at this
    omega
  Z := ⟨fun _ h => h, fun _ h => .inl h⟩
  keep := fun a o q n => (upd_ne (fun e => n ⟨m, h, e.symm⟩)).trans q
  live := fun a o q => by
    by_cases e : a = w.ι m
    · subst e
      exact ⟨u, upd_same⟩
    · exact ⟨o, (upd_ne e).trans q⟩
theorem Vw.Ok.st (o : w.Ok K) {m : Nat} {u : HO} {c : Cell} (h : m < w.S.length) (hc : CellOk K [] (w.st m u c) (w.ι m) c) : (w.st m u c).Ok K := by
  have len : (w.st m u c).S.length = w.S.length := by simp
  refine ⟨fun i j hi hj e => o.inj i j (by rw [len] at hi; exact hi) (by rw [len] at hj; exact hj) e, fun z q => ?_, fun k hk q => o.hzl k (by rw [len] at hk; exact hk) q, fun k c' q => ?_⟩
  · obtain ⟨x, hx⟩ := o.hz z q
    by_cases e : z = w.ι m
    · subst e
      exact ⟨u, upd_same⟩
    · exact ⟨x, (upd_ne e).trans hx⟩
  · have q' : (w.S.set m c)[k]? = some c' := q
    by_cases e : m = k
    · subst e
      rw [List.getElem?_set_self h] at q'
      cases q'
      exact hc
    · rw [List.getElem?_set_ne e] at q'
      have hk := (List.getElem?_eq_some_iff.mp q').1
      exact (o.cell k c' q').ext (Vw.st_ext h) (upd_ne fun z => e (o.inj _ _ h hk z.symm))
/-! ### what is read -/
def Cell.lst? : Option Cell → Option (List D)
  | some (.lst ds) => some ds
  | _ => none
def lstOf (S : Sto) : D → Option (List D)
  | .lst ds => some ds
  | .loc m => Cell.lst? S[m]?
  | _ => none
theorem lst?_some {c : Option Cell} {ds : List D} (h : Cell.lst? c = some ds) : c = some (.lst ds) := by
  cases c with
  | none => cases h
  | some c =>
    cases c with
    | lst es => cases h; rfl
    | ins C fs => cases h
/-- any list -/
def lisOf (S : Sto) : D → Option (List D)
  | .fls ds => some ds
  | d => lstOf S d
/-- any list or tuple -/
def seqOf (S : Sto) : D → Option (List D)
  | .tup ds => some ds
  | d => lisOf S d
theorem lst_of {v : V} {d : D} {ds : List D} (o : w.Ok K) (r : Rep K pn w v d) (e : lstOf w.S d = some ds) : ∃ a xs, v = .ref a ∧ w.H a = some (.lst xs) ∧ Reps K pn w xs ds := by
  cases r with
  | lst h r =>
    cases e
    exact ⟨_, _, rfl, h.1, r⟩
  | @loc m h =>
    obtain ⟨xs, h1, r1⟩ := o.cell m _ (lst?_some e)
    exact ⟨_, xs, rfl, h1, r1.ext (Ext.refl w) (fun _ z => absurd z (by simp))⟩
  | _ => cases e
theorem lis_of {v : V} {d : D} {ds : List D} (o : w.Ok K) (r : Rep K pn w v d) (e : lisOf w.S d = some ds) : ∃ a xs, v = .ref a ∧ SqL K w.H a xs ∧ Reps K pn w xs ds := by
  by_cases hd : ∃ es, d = .fls es
  · obtain ⟨es, rfl⟩ := hd
    cases r with
    | fls h r =>
      cases e
      exact ⟨_, _, rfl, h.sq, r⟩
  · have e' : lstOf w.S d = some ds := by
      unfold lisOf at e
      split at e
      · exact absurd ⟨_, rfl⟩ hd
      · exact e
    obtain ⟨a, xs, h1, h2, h3⟩ := lst_of o r e'
    exact ⟨a, xs, h1, SqL.of h2, h3⟩
theorem tup_of {v : V} {ds : List D} (r : Rep K pn w v (.tup ds)) : ∃ a xs, v = .ref a ∧ SqT K w.H a xs ∧ Reps K pn w xs ds := by
  cases r with
  | tup h r => exact ⟨_, _, rfl, h.sq, r⟩
theorem seq_of {v : V} {d : D} {ds : List D} (o : w.Ok K) (r : Rep K pn w v d) (e : seqOf w.S d = some ds) : ∃ a xs, v = .ref a ∧ (SqL K w.H a xs ∨ SqT K w.H a xs) ∧ Reps K pn w xs ds := by
  by_cases hd : ∃ es, d = .tup es
  · obtain ⟨es, rfl⟩ := hd
    cases e
    obtain ⟨a, xs, h1, h2, h3⟩ := tup_of r
    exact ⟨a, xs, h1, .inr h2, h3⟩
  · have e' : lisOf w.S d = some ds := by
      unfold seqOf at e
      split at e
      · exact absurd ⟨_, rfl⟩ hd
      · exact e
    obtain ⟨a, xs, h1, h2, h3⟩ := lis_of o r e'
    exact ⟨a, xs, h1, .inl h2, h3⟩
end

/-! ### operations by values that leave the store -/
def Sim2 (K : PySem.W.Frag) (pn : List (Addr × Obj)) (r : R2) (g : Sto → D → D → Option D) : Prop :=
  ∀ (w : Vw) (x y : V) (d e z : D) (Q : VK), w.Ok K → Rep K pn w x d → Rep K pn w y e → g w.S d e = some z → (∀ w' v, Ext w w' → w'.S = w.S → w'.Ok K → Rep K pn w' v z → Q v w'.H) → r x y w.H Q
def Sim1 (K : PySem.W.Frag) (pn : List (Addr × Obj)) (r : V → Hp → VK → Prop) (g : Sto → D → Option D) : Prop :=
  ∀ (w : Vw) (x : V) (d z : D) (Q : VK), w.Ok K → Rep K pn w x d → g w.S d = some z → (∀ w' v, Ext w w' → w'.S = w.S → w'.Ok K → Rep K pn w' v z → Q v w'.H) → r x w.H Q
def SimC (K : PySem.W.Frag) (pn : List (Addr × Obj)) (r : List V → Hp → VK → Prop) (g : Sto → List D → Option D) : Prop :=
  ∀ (w : Vw) (xs : List V) (ds : List D) (z : D) (Q : VK), w.Ok K → Reps K pn w xs ds → g w.S ds = some z → (∀ w' v, Ext w w' → w'.S = w.S → w'.Ok K → Rep K pn w' v z → Q v w'.H) → r xs w.H Q
def R.of {α : Type} (o : Option α) (S : Sto) : R α := match o with
  | some a => .ok a S
  | none => .bad
theorem Post.of {K : PySem.W.Frag} {α : Type} {w : Vw} {o : Option α} {P : Vw → α → Prop} {W : Vw → Addr → List (Str × D) → Prop} (h : Post K w (R.of o w.S) P W) : ∃ z, o = some z ∧ ∀ w', Ext w w' → w'.S = w.S → w'.Ok K → P w' z := by
  cases o with
  | some z => exact ⟨z, rfl, h⟩
  | none => exact h.elim

/-- how many an argument list has -/
class Len (f : Fa) (n : outParam Nat) : Prop where
  len : ∀ env S ds S', f env S = .ok ds S' → ds.length = n
/-! ### expressions -/
def fVar (i : Nat) : F := fun env S => match env[i]? with
  | some (some d) => .ok d S
  | _ => .bad
def fC (d : D) : F := fun _ S => .ok d S
def fBin (g : Sto → D → D → Option D) (fa fb : F) : F := fun env S => (fa env S).bind fun d S1 => (fb env S1).bind fun e S2 => R.of (g S2 d e) S2
def fUn (g : Sto → D → Option D) (fa : F) : F := fun env S => (fa env S).bind fun d S1 => R.of (g S1 d) S1
def fBu (g : Sto → List D → Option D) (fa : Fa) : F := fun env S => (fa env S).bind fun ds S1 => R.of (g S1 ds) S1
def fNil : Fa := fun _ S => .ok [] S
def fCons (f : F) (g : Fa) : Fa := fun env S => (f env S).bind fun d S1 => (g env S1).bind fun ds S2 => .ok (d :: ds) S2
def fTup (f : Fa) : F := fun env S => (f env S).bind fun ds S1 => .ok (.tup ds) S1
def fLst (f : Fa) : F := fun env S => (f env S).bind fun ds S1 => .ok (.lst ds) S1
/-- a list that will be changed: a new cell -/
def fLoc (f : Fa) : F := fun env S => (f env S).bind fun ds S1 => .ok (.loc S1.length) (S1 ++ [.lst ds])
def fB (f : F) : Ft := fun env S => (f env S).bind fun d S1 => match d with
  | .bl b => .ok b S1
  | _ => .bad
def fIf (c : Ft) (fa fb : F) : F := fun env S => (c env S).bind fun b S1 => if b = true then fa env S1 else fb env S1
def fNot (c : Ft) : Ft := fun env S => (c env S).bind fun b S1 => .ok (!b) S1
def fAnd (c d : Ft) : Ft := fun env S => (c env S).bind fun b S1 => if b = true then d env S1 else .ok false S1
def fOr (c d : Ft) : Ft := fun env S => (c env S).bind fun b S1 => if b = true then .ok true S1 else d env S1
/-- not, and, or of bools as values -/
def fV (c : Ft) : F := fun env S => (c env S).bind fun b S1 => .ok (.bl b) S1
def fNotV (f : F) : F := fV (fNot (fB f))
def fAndV (f g : F) : F := fun env S => (fB f env S).bind fun b S1 => if b = true then g env S1 else .ok (.bl false) S1
def fOrV (f g : F) : F := fun env S => (fB f env S).bind fun b S1 => if b = true then .ok (.bl true) S1 else g env S1
instance : Len fNil 0 := ⟨fun _ _ ds _ e => by cases e; rfl⟩
instance {f : F} {g : Fa} {n : Nat} [L : Len g n] : Len (fCons f g) (n + 1) := ⟨fun env S ds S' e => by
  unfold fCons at e
  cases q : f env S with
  | ok d S1 =>
    rw [q] at e
    have e' : (g env S1).bind (fun ds S2 => R.ok (d :: ds) S2) = .ok ds S' := e
    cases q2 : g env S1 with
    | ok es S2 =>
      rw [q2] at e'
      cases e'
      rw [List.length_cons, L.len _ _ _ _ q2]
    | _ => rw [q2] at e'; cases e'
  | _ => rw [q] at e; cases e⟩
section
variable {X : Cx} {P : Pn} {W : WX} {a b c : Expr} {es : List Expr} {fa fb : F} {fs : Fa} {ft fu : Ft} {pos : Pos}
theorem fe_var {i : Nat} {x : Str} {pos : Pos} (h : PE X (.Name x pos) (tVar i)) : FE X P W (.Name x pos) (fVar i) := peI h fun σ H Q ⟨w, env, hH, o, en, p⟩ => by
  subst hH
  unfold fVar at p
  cases e : env[i]? with
  | none => rw [e] at p; exact p.elim
  | some x =>
    cases x with
    | none => rw [e] at p; exact p.elim
    | some d =>
      rw [e] at p
      obtain ⟨v, h1, h2⟩ := en.2 i d e
      exact ⟨v, h1, p.ret o v h2⟩
theorem fe_c {v : V} {d : D} (h : PE X a (tC v)) (hd : ∀ w, Rep X.K P w v d) : FE X P W a (fC d) := peI h fun σ H Q ⟨w, env, hH, o, en, p⟩ => by
  subst hH
  exact Post.ret (a := d) o p v (hd w)
theorem fe_int {i j pos} : FE X P W (.Constant (.int i) j pos) (fC (.int i)) := fe_c pe_int fun _ => .int _
theorem fe_bl {b j pos} : FE X P W (.Constant (.bool b) j pos) (fC (.bl b)) := fe_c pe_bl fun _ => .bl _
theorem fe_non {j pos} : FE X P W (.Constant .none j pos) (fC .non) := fe_c pe_non fun _ => .non
theorem fe_str {x j pos} : FE X P W (.Constant (.str x) j pos) (fC (.str x)) := fe_c pe_str fun _ => .str _
theorem fe_op {op : Operator} {r : R2} {g : Sto → D → D → Option D} (ho : OpR X (binaryOp op) r) (hg : Sim2 X.K P r g) (ha : FE X P W a fa) (hb : FE X P W b fb) : FE X P W (.BinOp a op b pos) (fBin g fa fb) :=
  peI (pe_op ho ha hb) fun σ H Q ⟨w, env, hH, o, en, p⟩ => by
    subst hH
    refine re_bind o en p fun w1 x d e1 o1 en1 r1 p1 => re_bind o1 en1 p1 fun w2 y e e2 o2 en2 r2 p2 => ?_
    obtain ⟨z, hz, q⟩ := p2.of
    exact hg w2 x y d e z Q o2 (r1.to e2) r2 hz fun w' v e' s' o' r' => q w' e' s' o' v r'
theorem fe_un {op : UnaryOp} {r : V → Hp → VK → Prop} {g : Sto → D → Option D} (ho : UnR X (unaryOp op) r) (hg : Sim1 X.K P r g) (ha : FE X P W a fa) : FE X P W (.UnaryOp op a pos) (fUn g fa) :=
  peI (pe_un ho ha) fun σ H Q ⟨w, env, hH, o, en, p⟩ => by
    subst hH
    refine re_bind o en p fun w1 x d e1 o1 en1 r1 p1 => ?_
    obtain ⟨z, hz, q⟩ := p1.of
    exact hg w1 x d z Q o1 r1 hz fun w' v e' s' o' r' => q w' e' s' o' v r'
theorem fe_cmp {op : CmpOp} {r : R2} {g : Sto → D → D → Option D} (ho : OpR X (compareOp op) r) (hm : behindInMarks op b = false) (hg : Sim2 X.K P r g) (ha : FE X P W a fa) (hb : FE X P W b fb) : FE X P W (.Compare a [op] [b] pos) (fBin g fa fb) :=
  peI (pe_cmpR ho ha hb hm) fun σ H Q ⟨w, env, hH, o, en, p⟩ => by
    subst hH
    refine re_bind o en p fun w1 x d e1 o1 en1 r1 p1 => re_bind o1 en1 p1 fun w2 y e e2 o2 en2 r2 p2 => ?_
    obtain ⟨z, hz, q⟩ := p2.of
    exact hg w2 x y d e z Q o2 (r1.to e2) r2 hz fun w' v e' s' o' r' => q w' e' s' o' v r'
/-- the answer of a rule, taken as a test -/
theorem ft_fin {K : PySem.W.Frag} {pn : List (Addr × Obj)} {W : WX} {σ : St} {w : Vw} {o : Option D} {Q : Bool → Hp → Prop} (p : Post K w ((R.of o w.S).bind fun d S1 => match d with
      | .bl b => .ok b S1
      | _ => .bad) (fun w' b => Q b w'.H) (WP K W σ)) : ∃ b, o = some (.bl b) ∧ ∀ w', Ext w w' → w'.S = w.S → w'.Ok K → Q b w'.H := by
  cases o with
  | none => exact p.elim
  | some d => cases d with
    | bl b => exact ⟨b, rfl, p⟩
    | _ => exact p.elim
theorem bind_assoc {α β γ : Type} (r : R α) (k : α → Sto → R β) (l : β → Sto → R γ) : (r.bind k).bind l = r.bind fun a S => (k a S).bind l := by
  cases r <;> rfl
theorem ft_cmp {op : CmpOp} {r : R2} {g : Sto → D → D → Option D} (ho : OpR X (compareOp op) r) (hm : behindInMarks op b = false) (hg : Sim2 X.K P r g) (ha : FE X P W a fa) (hb : FE X P W b fb) : FT X P W (.Compare a [op] [b] pos) (fB (fBin g fa fb)) :=
  ptI (pt_cmpR ho ha hb hm) fun σ H Q ⟨w, env, hH, o, en, p⟩ => by
    subst hH
    unfold fB fBin at p
    rw [bind_assoc] at p
    unfold L2.tTest tOp
    refine re_bind o en p fun w1 x d e1 o1 en1 r1 p1 => ?_
    rw [bind_assoc] at p1
    refine re_bind o1 en1 p1 fun w2 y e e2 o2 en2 r2 p2 => ?_
    obtain ⟨b, hz, q⟩ := ft_fin (pn := P) p2
    exact hg w2 x y d e _ _ o2 (r1.to e2) r2 hz fun w' v e' s' o' r' => by
      cases r'
      exact ⟨b, rfl, q w' e' s' o'⟩
/-- a bool's expression as a test -/
theorem ft_val (h : FE X P W a fa) (he : ∀ whole, isTrue a X.env whole = (do let v ← whole; standAt a.pos; holding [v] (truthy v)) := by intro _; rfl) : FT X P W a (fB fa) :=
  ptI (pt_val h he) fun σ H Q ⟨w, env, hH, o, en, p⟩ => by
    subst hH
    refine re_bind o en p fun w1 x d e1 o1 en1 r1 p1 => ?_
    cases r1 with
    | bl b => exact ⟨b, rfl, Post.ret (a := b) o1 p1⟩
    | _ => exact p1.elim
theorem fw_t (h : FW X P W a ft) : FT X P W a ft := PW.pt h
theorem fw_and1 (ha : FT X P W a ft) : FW X P W (.BoolOp .And [a] pos) ft := pw_and1 ha
theorem fw_or1 (ha : FT X P W a ft) : FW X P W (.BoolOp .Or [a] pos) ft := pw_or1 ha
theorem fw_and (ha : FT X P W a ft) (hb : FW X P W (.BoolOp .And (b :: es) pos) fu) : FW X P W (.BoolOp .And (a :: b :: es) pos) (fAnd ft fu) :=
  pwI (pw_and ha hb) fun σ H Q ⟨w, env, hH, o, en, p⟩ => by
    subst hH
    refine rt_bind o en p fun w1 k e1 o1 en1 p1 => ?_
    cases k with
    | true => exact ⟨w1, env, rfl, o1, en1, p1⟩
    | false => exact Post.ret (a := false) o1 p1
theorem fw_or (ha : FT X P W a ft) (hb : FW X P W (.BoolOp .Or (b :: es) pos) fu) : FW X P W (.BoolOp .Or (a :: b :: es) pos) (fOr ft fu) :=
  pwI (pw_or ha hb) fun σ H Q ⟨w, env, hH, o, en, p⟩ => by
    subst hH
    refine rt_bind o en p fun w1 k e1 o1 en1 p1 => ?_
    cases k with
    | true => exact Post.ret (a := true) o1 p1
    | false => exact ⟨w1, env, rfl, o1, en1, p1⟩
theorem ft_not (ha : FT X P W a ft) : FT X P W (.UnaryOp .Not a pos) (fNot ft) :=
  ptI (pt_not ha) fun σ H Q ⟨w, env, hH, o, en, p⟩ => by
    subst hH
    refine rt_bind o en p fun w1 k e1 o1 en1 p1 => ?_
    exact Post.ret (a := !k) o1 p1
theorem fe_one {op} (h : FE X P W a fa) : FE X P W (.BoolOp op [a] pos) fa := pe_one h
theorem fe_and (ha : FE X P W a fa) (hb : FE X P W (.BoolOp .And (b :: es) pos) fb) : FE X P W (.BoolOp .And (a :: b :: es) pos) (fAndV fa fb) :=
  peI (pe_and ha hb) fun σ H Q ⟨w, env, hH, o, en, p⟩ => by
    subst hH
    unfold fAndV fB at p
    rw [bind_assoc] at p
    refine re_bind o en p fun w1 x d e1 o1 en1 r1 p1 => ?_
    cases r1 with
    | bl k =>
      refine ⟨k, rfl, ?_⟩
      cases k with
      | true => exact ⟨w1, env, rfl, o1, en1, p1⟩
      | false => exact Post.ret (a := D.bl false) o1 p1 _ (.bl _)
    | _ => exact p1.elim
theorem fe_or (ha : FE X P W a fa) (hb : FE X P W (.BoolOp .Or (b :: es) pos) fb) : FE X P W (.BoolOp .Or (a :: b :: es) pos) (fOrV fa fb) :=
  peI (pe_or ha hb) fun σ H Q ⟨w, env, hH, o, en, p⟩ => by
    subst hH
    unfold fOrV fB at p
    rw [bind_assoc] at p
    refine re_bind o en p fun w1 x d e1 o1 en1 r1 p1 => ?_
    cases r1 with
    | bl k =>
      refine ⟨k, rfl, ?_⟩
      cases k with
      | true => exact Post.ret (a := D.bl true) o1 p1 _ (.bl _)
      | false => exact ⟨w1, env, rfl, o1, en1, p1⟩
    | _ => exact p1.elim
theorem fe_not (ha : FE X P W a fa) : FE X P W (.UnaryOp .Not a pos) (fNotV fa) :=
  peI (pe_not ha) fun σ H Q ⟨w, env, hH, o, en, p⟩ => by
    subst hH
    unfold fNotV fV fNot fB at p
    rw [bind_assoc, bind_assoc] at p
    refine re_bind o en p fun w1 x d e1 o1 en1 r1 p1 => ?_
    cases r1 with
    | bl k => exact ⟨k, rfl, Post.ret (a := D.bl (!k)) o1 p1 _ (.bl _)⟩
    | _ => exact p1.elim
theorem fe_ifExp (hc : FT X P W c ft) (ha : FE X P W a fa) (hb : FE X P W b fb) : FE X P W (.IfExp c a b pos) (fIf ft fa fb) :=
  peI (pe_ifExp hc ha hb) fun σ H Q ⟨w, env, hH, o, en, p⟩ => by
    subst hH
    refine rt_bind o en p fun w1 k e1 o1 en1 p1 => ?_
    cases k with
    | true => exact ⟨w1, env, rfl, o1, en1, p1⟩
    | false => exact ⟨w1, env, rfl, o1, en1, p1⟩
theorem fa_nil : FA X P W [] fNil := paI pa_nil fun σ H Q ⟨w, env, hH, o, en, p⟩ => by
  subst hH
  exact Post.ret (a := ([] : List D)) o p _ .nil
theorem fa_cons (ha : FE X P W a fa) (hr : FA X P W es fs) (hs : starEach (a :: es) X.env = (false, eval a X.env) :: starEach es X.env := by rfl) : FA X P W (a :: es) (fCons fa fs) :=
  paI (pa_cons ha hr hs) fun σ H Q ⟨w, env, hH, o, en, p⟩ => by
    subst hH
    refine re_bind o en p fun w1 x d e1 o1 en1 r1 p1 => ra_bind o1 en1 p1 fun w2 xs ds e2 o2 en2 r2 p2 => ?_
    exact Post.ret (a := d :: ds) o2 p2 _ (.cons (r1.to e2) r2)
theorem fe_tup {x1} {n : Nat} (h : FA X P W es fs) [L : Len fs n] (hl : n ≤ 1000 := by decide) : FE X P W (.Tuple es x1 pos) (fTup fs) :=
  peI (pe_tup h) fun σ H Q ⟨w, env, hH, o, en, p⟩ => by
    subst hH
    have key : ∀ ds, (∃ S', fs env w.S = .ok ds S') → ds.length ≤ sizeLine := fun ds ⟨S', e⟩ => by
      rw [L.len _ _ _ _ e, sizeLine_eq]
      omega
    cases q : fs env w.S with
    | bad => unfold fTup at p; rw [q] at p; exact p.elim
    | exc C gs S' =>
      unfold fTup at p; rw [q] at p
      exact ⟨w, env, rfl, o, en, by rw [q]; exact p⟩
    | ok ds S' =>
      unfold fTup at p; rw [q] at p
      refine ⟨w, env, rfl, o, en, ?_⟩
      rw [q]
      intro w1 e1 s1 o1 xs r1
      refine ⟨by rw [r1.length]; exact key ds ⟨_, q⟩, fun pt hp => ?_⟩
      exact p (w1.nu pt (.tup xs)) (e1.trans (Vw.nu_ext hp)) s1 (o1.nu hp) _ (Rep.newT o1 hp r1)
theorem fe_lst {n : Nat} (h : FA X P W es fs) [L : Len fs n] (hl : n ≤ 1000 := by decide) : FE X P W (.List es pos) (fLst fs) :=
  peI (pe_lst h) fun σ H Q ⟨w, env, hH, o, en, p⟩ => by
    subst hH
    have key : ∀ ds, (∃ S', fs env w.S = .ok ds S') → ds.length ≤ sizeLine := fun ds ⟨S', e⟩ => by
      rw [L.len _ _ _ _ e, sizeLine_eq]
      omega
    cases q : fs env w.S with
    | bad => unfold fLst at p; rw [q] at p; exact p.elim
    | exc C gs S' =>
      unfold fLst at p; rw [q] at p
      exact ⟨w, env, rfl, o, en, by rw [q]; exact p⟩
    | ok ds S' =>
      unfold fLst at p; rw [q] at p
      refine ⟨w, env, rfl, o, en, ?_⟩
      rw [q]
      intro w1 e1 s1 o1 xs r1
      refine ⟨by rw [r1.length]; exact key ds ⟨_, q⟩, fun pt hp => ?_⟩
      exact p (w1.nu pt (.lst xs)) (e1.trans (Vw.nu_ext hp)) s1 (o1.nu hp) _ (Rep.newL o1 hp r1)
theorem noexn {K : PySem.W.Frag} {w : Vw} {pn : List (Addr × Obj)} (hpn : pn = []) {xs : List V} {ds : List D} (r : Reps K pn w xs ds) : Reps K [] w xs ds := by rw [hpn] at r; exact r
/-- a list that will be changed; not within an except suite -/
theorem fe_loc {n : Nat} (hpn : P = []) (h : FA X P W es fs) [L : Len fs n] (hl : n ≤ 1000 := by decide) : FE X P W (.List es pos) (fLoc fs) :=
  peI (pe_lst h) fun σ H Q ⟨w, env, hH, o, en, p⟩ => by
    subst hH
    have key : ∀ ds, (∃ S', fs env w.S = .ok ds S') → ds.length ≤ sizeLine := fun ds ⟨S', e⟩ => by
      rw [L.len _ _ _ _ e, sizeLine_eq]
      omega
    cases q : fs env w.S with
    | bad => unfold fLoc at p; rw [q] at p; exact p.elim
    | exc C gs S' =>
      unfold fLoc at p; rw [q] at p
      exact ⟨w, env, rfl, o, en, by rw [q]; exact p⟩
    | ok ds S' =>
      unfold fLoc at p; rw [q] at p
      refine ⟨w, env, rfl, o, en, ?_⟩
      rw [q]
      intro w1 e1 s1 o1 xs r1
      refine ⟨by rw [r1.length]; exact key ds ⟨_, q⟩, fun pt hp => ?_⟩
      subst s1
      have e2 := Vw.al_ext (u := .lst xs) (c := .lst ds) hp
      refine p (w1.al pt (.lst xs) (.lst ds)) (e1.trans e2) rfl (o1.al hp ⟨xs, upd_same, (noexn hpn r1).to e2⟩) _ ?_
      have z : (w1.al pt (.lst xs) (.lst ds)).ι w1.S.length = pt := if_pos rfl
      have r := Rep.loc (K := X.K) (pn := P) (w := w1.al pt (.lst xs) (.lst ds)) (m := w1.S.length) (by simp)
      rw [z] at r
      exact r
end
end FL
--import HandS.CallSlots
--import HandS.Defaults
set_option maxRecDepth 100000
set_option maxHeartbeats 2000000
namespace FL
open PySem PySem.Spec PyProof.Rows L2

/-! ### statements -/
inductive Fl where
  | nx (env : Env) | rt (d : D) | bk (env : Env) | ct (env : Env)
inductive RS where
  | fl (f : Fl) (S : Sto) | exc (env : Env) (C : Addr) (fs : List (Str × D)) (S : Sto) | bad
abbrev SF := Env → Sto → RS
def R.bindS {α : Type} (env : Env) : R α → (α → Sto → RS) → RS
  | .ok a S, k => k a S
  | .exc C fs S, _ => .exc env C fs S
  | .bad, _ => .bad
def PostS (K : PySem.W.Frag) (pn : Pn) (w : Vw) (r : RS) (D : Ends) (W : WX) : Prop :=
  match r with
  | .fl (.nx env) S' => ∀ w' σ', Ext w w' → w'.S = S' → w'.Ok K → EnvOk K pn w' σ' env → D.nx σ' w'.H
  | .fl (.rt d) S' => ∀ w' v, Ext w w' → w'.S = S' → w'.Ok K → Rep K pn w' v d → D.rt v w'.H
  | .fl (.bk env) S' => ∀ w' σ', Ext w w' → w'.S = S' → w'.Ok K → EnvOk K pn w' σ' env → D.bk σ' w'.H
  | .fl (.ct env) S' => ∀ w' σ', Ext w w' → w'.S = S' → w'.Ok K → EnvOk K pn w' σ' env → D.ct σ' w'.H
  | .exc env C fs S' => ∀ w' σ', Ext w w' → w'.S = S' → w'.Ok K → EnvOk K pn w' σ' env → WP K W σ' w' C fs
  | .bad => False
def RSt (K : PySem.W.Frag) (pn : Pn) (W : WX) (g : SF) : TS := fun D σ H => ∃ w env, w.H = H ∧ w.Ok K ∧ EnvOk K pn w σ env ∧ PostS K pn w (g env w.S) D W
def FS (X : Cx) (P : Pn) (W : WX) (st : Stmt) (g : SF) : Prop := PS X st (RSt X.K P W g)
def FSs (X : Cx) (P : Pn) (W : WX) (sts : List Stmt) (g : SF) : Prop := PSs X sts (RSt X.K P W g)
theorem psI {X : Cx} {e : Stmt} {t t' : TS} (h : PS X e t) (i : ∀ D σ H, t' D σ H → t D σ H) : PS X e t' := ⟨fun pins s σ H D I q => h.run pins s σ H D I (i _ _ _ q)⟩
theorem pssI {X : Cx} {e : List Stmt} {t t' : TS} (h : PSs X e t) (i : ∀ D σ H, t' D σ H → t D σ H) : PSs X e t' := ⟨fun pins s σ H D I q => h.run pins s σ H D I (i _ _ _ q)⟩

section
variable {K : PySem.W.Frag} {pn : Pn} {W : WX} {σ : St} {w w1 : Vw} {env : Env} {D : Ends}
theorem PostS.to {r : RS} (h : PostS K pn w r D W) (e : Ext w w1) : PostS K pn w1 r D W := by
  cases r with
  | fl f S => cases f with
    | nx env => exact fun w' σ' e' => h w' σ' (e.trans e')
    | rt d => exact fun w' v e' => h w' v (e.trans e')
    | bk env => exact fun w' σ' e' => h w' σ' (e.trans e')
    | ct env => exact fun w' σ' e' => h w' σ' (e.trans e')
  | exc env C fs S => exact fun w' σ' e' => h w' σ' (e.trans e')
  | bad => exact h
theorem Post.ofS {α : Type} {r : R α} {k : α → Sto → RS} (en : EnvOk K pn w σ env) (h : PostS K pn w (r.bindS env k) D W) :
    Post K w r (fun w1 a => PostS K pn w1 (k a w1.S) D W) (WP K W σ) := by
  cases r with
  | ok a S =>
    intro w1 e z o
    subst z
    exact PostS.to (show PostS K pn w (k a w1.S) D W from h) e
  | exc C fs S => exact fun w1 e z o => h w1 σ e z o (en.to e)
  | bad => exact h
theorem rs_bind {f : F} {k : FL.D → Sto → RS} {Q : VK} (o : w.Ok K) (en : EnvOk K pn w σ env) (h : PostS K pn w ((f env w.S).bindS env k) D W)
    (c : ∀ w1 v d, Ext w w1 → w1.Ok K → EnvOk K pn w1 σ env → Rep K pn w1 v d → PostS K pn w1 (k d w1.S) D W → Q v w1.H) : RE K pn W f σ w.H Q :=
  ⟨w, env, rfl, o, en, (Post.ofS en h).mono (fun w1 d e1 o1 q v r => c w1 v d e1 o1 (en.to e1) r q) fun _ _ _ _ _ q => q⟩
theorem rst_bind {f : Ft} {k : Bool → Sto → RS} {Q : Bool → Hp → Prop} (o : w.Ok K) (en : EnvOk K pn w σ env) (h : PostS K pn w ((f env w.S).bindS env k) D W)
    (c : ∀ w1 b, Ext w w1 → w1.Ok K → EnvOk K pn w1 σ env → PostS K pn w1 (k b w1.S) D W → Q b w1.H) : RT K pn W f σ w.H Q :=
  ⟨w, env, rfl, o, en, (Post.ofS en h).mono (fun w1 b e1 o1 q => c w1 b e1 o1 (en.to e1) q) fun _ _ _ _ _ q => q⟩
theorem rsa_bind {f : Fa} {k : List FL.D → Sto → RS} {Q : List V → Hp → Prop} (o : w.Ok K) (en : EnvOk K pn w σ env) (h : PostS K pn w ((f env w.S).bindS env k) D W)
    (c : ∀ w1 v d, Ext w w1 → w1.Ok K → EnvOk K pn w1 σ env → Reps K pn w1 v d → PostS K pn w1 (k d w1.S) D W → Q v w1.H) : RA K pn W f σ w.H Q :=
  ⟨w, env, rfl, o, en, (Post.ofS en h).mono (fun w1 d e1 o1 q v r => c w1 v d e1 o1 (en.to e1) r q) fun _ _ _ _ _ q => q⟩
end
def sNext : SF := fun env S => .fl (.nx env) S
def sSeq (g h : SF) : SF := fun env S => match g env S with
  | .fl (.nx env') S' => h env' S'
  | r => r
def sDrop (f : F) : SF := fun env S => (f env S).bindS env fun _ S1 => .fl (.nx env) S1
def sRet (f : F) : SF := fun env S => (f env S).bindS env fun d S1 => .fl (.rt d) S1
def sRetN : SF := fun _ S => .fl (.rt .non) S
def sBreak : SF := fun env S => .fl (.bk env) S
def sCont : SF := fun env S => .fl (.ct env) S
def sIf (c : Ft) (g h : SF) : SF := fun env S => (c env S).bindS env fun b S1 => if b = true then g env S1 else h env S1
abbrev TGf := D → Env → Sto → Option Env
def gN (i : Nat) : TGf := fun d env _ => some (env.set i (some d))
def sAsg (f : F) (g : TGf) : SF := fun env S => (f env S).bindS env fun d S1 => match g d env S1 with
  | some env' => .fl (.nx env') S1
  | none => .bad
def RG (K : PySem.W.Frag) (pn : Pn) (g : TGf) : TG := fun v σ H Q => ∃ w env d env', w.H = H ∧ w.Ok K ∧ EnvOk K pn w σ env ∧ Rep K pn w v d ∧ g d env w.S = some env' ∧ ∀ w' σ', Ext w w' → w'.S = w.S → w'.Ok K → EnvOk K pn w' σ' env' → Q σ' w'.H
def FG (X : Cx) (P : Pn) (tg : Expr) (g : TGf) : Prop := PG X tg (RG X.K P g)
theorem pgI {X : Cx} {e : Expr} {t t' : TG} (h : PG X e t) (i : ∀ v σ H Q, t' v σ H Q → t v σ H Q) : PG X e t' := ⟨fun pins s σ H v u Q I r q => h.run pins s σ H v u Q I r (i _ _ _ _ q)⟩
section
variable {X : Cx} {P : Pn} {W : WX} {st : Stmt} {rest : List Stmt} {g h : SF} {e c : Expr} {f : F} {ft : Ft} {pos : Pos}
theorem fs_nil : FSs X P W [] sNext := pssI pss_nil fun D σ H ⟨w, env, hH, o, en, p⟩ => by
  subst hH
  exact p w σ (Ext.refl w) rfl o en
theorem fs_cons (h1 : FS X P W st g) (h2 : FSs X P W rest h) : FSs X P W (st :: rest) (sSeq g h) := pssI (pss_cons h1 h2) fun D σ H ⟨w, env, hH, o, en, p⟩ => by
  subst hH
  refine ⟨w, env, rfl, o, en, ?_⟩
  unfold sSeq at p
  cases q : g env w.S with
  | fl f S => cases f with
    | nx env' =>
      rw [q] at p
      intro w1 σ1 e1 s1 o1 en1
      subst s1
      exact ⟨w1, env', rfl, o1, en1, p.to e1⟩
    | _ => rw [q] at p; exact p
  | _ => rw [q] at p; exact p
theorem fs_one (h1 : FS X P W st g) : FSs X P W [st] g := pss_one h1
theorem fs_pass : FS X P W (.Pass pos) sNext := psI ps_pass fun D σ H ⟨w, env, hH, o, en, p⟩ => by
  subst hH
  exact p w σ (Ext.refl w) rfl o en
theorem fs_doc {x j pos pos'} : FS X P W (.Expr (.Constant (.str x) j pos) pos') sNext := psI ps_doc fun D σ H ⟨w, env, hH, o, en, p⟩ => by
  subst hH
  exact p w σ (Ext.refl w) rfl o en
theorem fs_break : FS X P W (.Break pos) sBreak := psI ps_break fun D σ H ⟨w, env, hH, o, en, p⟩ => by
  subst hH
  exact p w σ (Ext.refl w) rfl o en
theorem fs_continue : FS X P W (.Continue pos) sCont := psI ps_continue fun D σ H ⟨w, env, hH, o, en, p⟩ => by
  subst hH
  exact p w σ (Ext.refl w) rfl o en
theorem fs_expr (he : FE X P W e f) (hs : swapsWith e none pos.line X.env = pure false := by rfl) : FS X P W (.Expr e pos) (sDrop f) := psI (ps_expr he hs) fun D σ H ⟨w, env, hH, o, en, p⟩ => by
  subst hH
  refine rs_bind o en p fun w1 v d e1 o1 en1 r1 p1 => ?_
  exact p1 w1 σ (Ext.refl w1) rfl o1 en1
theorem fs_ret (he : FE X P W e f) : FS X P W (.Return (some e) pos) (sRet f) := psI (ps_ret he) fun D σ H ⟨w, env, hH, o, en, p⟩ => by
  subst hH
  refine rs_bind o en p fun w1 v d e1 o1 en1 r1 p1 => ?_
  exact p1 w1 v (Ext.refl w1) rfl o1 r1
theorem fs_retN : FS X P W (.Return none pos) sRetN := psI ps_retN fun D σ H ⟨w, env, hH, o, en, p⟩ => by
  subst hH
  exact p w _ (Ext.refl w) rfl o .non
theorem fs_if {a b : List Stmt} (hc : FT X P W c ft) (ha : FSs X P W a g) (hb : FSs X P W b h) : FS X P W (.If c a b pos) (sIf ft g h) := psI (ps_if hc ha hb) fun D σ H ⟨w, env, hH, o, en, p⟩ => by
  subst hH
  refine rst_bind o en p fun w1 k e1 o1 en1 p1 => ?_
  cases k with
  | true => exact ⟨w1, env, rfl, o1, en1, p1⟩
  | false => exact ⟨w1, env, rfl, o1, en1, p1⟩
theorem fg_name {i : Nat} {x : Str} (hN : X.N.Nodup) (hi : X.N[i]? = some x) (hx : Loc X.env.scope x) (hf : X.fn x = true ∨ X.env.scope.names.lookup x = some .local := by first | exact .inl rfl | exact .inr rfl | assumption) : FG X P (.Name x pos) (gN i) :=
  pgI (pg_name hN hi hx hf) fun v σ H Q ⟨w, env, d, env', hH, o, en, r, q, h⟩ => by
    subst hH
    cases q
    exact h w _ (Ext.refl w) rfl o (en.set r)
theorem fs_set {i : Nat} {x : Str} {pos' : Pos} (hN : X.N.Nodup) (hi : X.N[i]? = some x) (hx : Loc X.env.scope x) (he : FE X P W e f) (hs : swapsWith e (some (.Name x pos')) pos.line X.env = pure false := by rfl) (hf : X.fn x = true ∨ X.env.scope.names.lookup x = some .local := by first | exact .inl rfl | exact .inr rfl | assumption) :
    FS X P W (.Assign [.Name x pos'] e pos) (sAsg f (gN i)) := psI (ps_set hN hi hx he hs hf) fun D σ H ⟨w, env, hH, o, en, p⟩ => by
  subst hH
  refine rs_bind o en p fun w1 v d e1 o1 en1 r1 p1 => ?_
  exact p1 w1 _ (Ext.refl w1) rfl o1 (en1.set r1)
theorem fs_asg {tg : Expr} {g : TGf} (he : FE X P W e f) (hg : FG X P tg g) (hs : swapsWithSole [tg] e pos.line X.env = pure false := by rfl) (hw : swappedStores [tg] e X.env = pure none := by rfl)
    (h1 : (assignEach [tg] X.env).map (·.2) = [assign tg X.env] := by rfl) : FS X P W (.Assign [tg] e pos) (sAsg f g) := psI (ps_asg he hg hs hw h1) fun D σ H ⟨w, env, hH, o, en, p⟩ => by
  subst hH
  refine rs_bind o en p fun w1 v d e1 o1 en1 r1 p1 => ?_
  cases q : g d env w1.S with
  | none =>
    rw [q] at p1
    exact p1.elim
  | some env' =>
    rw [q] at p1
    exact ⟨w1, env, d, env', rfl, o1, en1, r1, q, fun w' σ' e' s' o' en' => p1 w' σ' e' s' o' en'⟩
end

/-! ### for -/
inductive Src where
  | fix (ds : List D) | cell (m : Nat)
def nextIn (ds : List D) (i : Nat) : Option D := ds[i]?
def Src.next : Src → Sto → Nat → Option (Option D)
  | .fix ds, _, i => some ds[i]?
  | .cell m, S, i => (Cell.lst? S[m]?).map fun ds => ds[i]?
abbrev Fi := Env → Sto → R Src
def forS (s : Src) (body : D → SF) : Nat → Nat → SF
  | fuel, i, env, S => match s.next S i with
    | none => .bad
    | some none => .fl (.nx env) S
    | some (some d) => match fuel with
      | 0 => .bad
      | fuel + 1 => match body d env S with
        | .fl (.nx env') S' => forS s body fuel (i + 1) env' S'
        | .fl (.ct env') S' => forS s body fuel (i + 1) env' S'
        | .fl (.bk env') S' => .fl (.nx env') S'
        | r => r
def forL (body : D → SF) : List D → SF
  | [], env, S => .fl (.nx env) S
  | d :: ds, env, S => match body d env S with
    | .fl (.nx env') S' => forL body ds env' S'
    | .fl (.ct env') S' => forL body ds env' S'
    | .fl (.bk env') S' => .fl (.nx env') S'
    | r => r
theorem forS_fix (body : D → SF) (all : List D) : ∀ (ds : List D) (i : Nat) (env : Env) (S : Sto), all.drop i = ds → forS (.fix all) body ds.length i env S = forL body ds env S
  | [], i, env, S, h => by
    have e : all[i]? = none := by
      have := List.getElem?_drop (xs := all) (i := i) (j := 0)
      rw [h] at this
      simpa using this.symm
    unfold forS forL
    show (match some all[i]? with | none => RS.bad | some none => _ | some (some d) => _) = _
    rw [e]
  | d :: ds, i, env, S, h => by
    have e : all[i]? = some d := by
      have := List.getElem?_drop (xs := all) (i := i) (j := 0)
      rw [h] at this
      simpa using this.symm
    have h2 : all.drop (i + 1) = ds := by
      rw [← List.drop_drop, h]
      rfl
    unfold forS forL
    show (match some all[i]? with | none => RS.bad | some none => _ | some (some d) => _) = _
    rw [e]
    show (match body d env S with | .fl (.nx env') S' => _ | .fl (.ct env') S' => _ | .fl (.bk env') S' => _ | r => r) = _
    cases body d env S with
    | fl f S' => cases f with
      | nx env' => exact forS_fix body all ds (i + 1) env' S' h2
      | ct env' => exact forS_fix body all ds (i + 1) env' S' h2
      | _ => rfl
    | _ => rfl
def sForS (s : Src) (body : D → SF) : SF := fun env S => match s with
  | .fix ds => forL body ds env S
  | .cell m => forS (.cell m) body ((Cell.lst? S[m]?).getD []).length 0 env S
def sFor (fi : Fi) (g : TGf) (b : SF) : SF := fun env S => (fi env S).bindS env fun s S1 => sForS s (fun d env S => match g d env S with
  | some env' => b env' S
  | none => .bad) env S1
theorem sForS_eq (s : Src) (body : D → SF) (env : Env) (S : Sto) : ∃ n, sForS s body env S = forS s body n 0 env S := by
  cases s with
  | fix ds => exact ⟨_, (forS_fix body ds ds 0 env S rfl).symm⟩
  | cell m => exact ⟨_, rfl⟩
def WalksS (K : PySem.W.Frag) (pn : Pn) (w : Vw) (J : It) (s : Src) : Prop := ∀ w', Ext w w' → w'.Ok K → ∀ i, (s.next w'.S i = some none → J.stop i w'.H) ∧
  ∀ d, s.next w'.S i = some (some d) → J.go i w'.H ∧ ∀ x H', J.yld i w'.H x H' → ∃ w'', w''.H = H' ∧ Ext w' w'' ∧ w''.S = w'.S ∧ w''.Ok K ∧ Rep K pn w'' x d
def RI (K : PySem.W.Frag) (pn : Pn) (W : WX) (fi : Fi) : TI := fun σ H R => ∃ w env, w.H = H ∧ w.Ok K ∧ EnvOk K pn w σ env ∧ Post K w (fi env w.S) (fun w' s => ∀ J, WalksS K pn w' J s → R J w'.H) (WP K W σ)
def FI (X : Cx) (P : Pn) (W : WX) (tg iter : Expr) (fi : Fi) : Prop := PI X tg iter (RI X.K P W fi)
theorem piI {X : Cx} {tg e : Expr} {t t' : TI} (h : PI X tg e t) (i : ∀ σ H R, t' σ H R → t σ H R) : PI X tg e t' := ⟨fun pins s σ H R I q => h.run pins s σ H R I (i _ _ _ q)⟩
section
variable {X : Cx} {P : Pn} {W : WX} {tg iter : Expr} {fi : Fi} {g : TGf} {b : SF} {body : List Stmt} {pos : Pos}
theorem fs_for (hp : PassesOwn (model X.prog X.w) X.A X.env X.xe) (hc : X.calm = true) (hi : FI X P W tg iter fi) (hg : FG X P tg g) (hb : FSs X P W body b)
    (hs : ∀ x, foldedSetIterable iter X.env x = pure x := by intro _; rfl) : FS X P W (.For tg iter body [] pos) (sFor fi g b) := psI (ps_for hp hc hi hg hb hs) fun D σ H ⟨w, env, hH, o, en, p⟩ => by
  subst hH
  refine ⟨w, env, rfl, o, en, (Post.ofS en p).mono (fun w1 s e1 o1 p1 J walk => ?_) fun _ _ _ _ _ q => q⟩
  obtain ⟨n, hn⟩ := sForS_eq s (fun d env S => match g d env S with
    | some env' => b env' S
    | none => .bad) env w1.S
  rw [hn] at p1
  refine ⟨fun i m σ H => ∃ w' env', w'.H = H ∧ Ext w1 w' ∧ w'.Ok X.K ∧ EnvOk X.K P w' σ env' ∧ PostS X.K P w' (forS s (fun d env S => match g d env S with
    | some env' => b env' S
    | none => .bad) m i env' w'.S) D W, ⟨n, w1, env, rfl, Ext.refl w1, o1, en.to e1, p1⟩, ?_⟩
  rintro i m σ' _ ⟨w2, env2, rfl, e2, o2, en2, p2⟩
  obtain ⟨hstop, hgo⟩ := walk w2 e2 o2 i
  unfold forS at p2
  cases q : s.next w2.S i with
  | none =>
    rw [q] at p2
    exact p2.elim
  | some q1 =>
    rw [q] at p2
    cases q1 with
    | none => exact .inl ⟨hstop q, p2 w2 σ' (Ext.refl w2) rfl o2 en2⟩
    | some d =>
      obtain ⟨go, yld⟩ := hgo d q
      cases m with
      | zero => exact p2.elim
      | succ m =>
        refine .inr ⟨go, fun σ' H' => ∃ w' env', w'.H = H' ∧ Ext w1 w' ∧ w'.Ok X.K ∧ EnvOk X.K P w' σ' env' ∧ PostS X.K P w' (forS s (fun d env S => match g d env S with
          | some env' => b env' S
          | none => .bad) m (i + 1) env' w'.S) D W, fun σ' H' ⟨w', env', h1, h2, h3, h4, h5⟩ => ⟨m, Nat.lt_succ_self m, w', env', h1, h2, h3, h4, h5⟩, fun x H' hy => ?_⟩
        obtain ⟨w3, rfl, e3, s3, o3, r3⟩ := yld x H' hy
        have p2 : PostS X.K P w2 (match (match g d env2 w2.S with | some env' => b env' w2.S | none => RS.bad) with
          | .fl (.nx env') S' => forS s (fun d env S => match g d env S with
            | some env' => b env' S
            | none => .bad) m (i + 1) env' S'
          | .fl (.ct env') S' => forS s (fun d env S => match g d env S with
            | some env' => b env' S
            | none => .bad) m (i + 1) env' S'
          | .fl (.bk env') S' => .fl (.nx env') S'
          | r => r) D W := p2
        cases qg : g d env2 w2.S with
        | none =>
          rw [qg] at p2
          exact p2.elim
        | some env3 =>
          rw [qg] at p2
          refine ⟨w3, env2, d, env3, rfl, o3, en2.to e3, r3, by rw [s3]; exact qg, fun w4 σ4 e4 s4 o4 en4 => ⟨w4, env3, rfl, o4, en4, ?_⟩⟩
          have s4' : w4.S = w2.S := s4.trans s3
          rw [s4']
          have e24 := e3.trans e4
          have p2 : PostS X.K P w2 (match b env3 w2.S with
            | .fl (.nx env') S' => forS s (fun d env S => match g d env S with
              | some env' => b env' S
              | none => .bad) m (i + 1) env' S'
            | .fl (.ct env') S' => forS s (fun d env S => match g d env S with
              | some env' => b env' S
              | none => .bad) m (i + 1) env' S'
            | .fl (.bk env') S' => .fl (.nx env') S'
            | r => r) D W := p2
          cases qb : b env3 w2.S with
          | bad =>
            rw [qb] at p2
            exact p2
          | exc env C fs S =>
            rw [qb] at p2
            exact p2.to e24
          | fl f S =>
            cases f with
            | nx env5 =>
              rw [qb] at p2
              intro w5 σ5 e5 s5 o5 en5
              subst s5
              exact ⟨w5, env5, rfl, (e2.trans e24).trans e5, o5, en5, p2.to (e24.trans e5)⟩
            | ct env5 =>
              rw [qb] at p2
              intro w5 σ5 e5 s5 o5 en5
              subst s5
              exact ⟨w5, env5, rfl, (e2.trans e24).trans e5, o5, en5, p2.to (e24.trans e5)⟩
            | bk env5 =>
              rw [qb] at p2
              exact fun w5 σ5 e5 => p2 w5 σ5 (e24.trans e5)
            | rt d =>
              rw [qb] at p2
              exact p2.to e24
end
end FL
set_option maxRecDepth 100000
set_option maxHeartbeats 2000000
namespace FL
open PySem PySem.Spec PyProof.Rows L2

/-! ### a def as a function -/
abbrev Fn := List D → Sto → R D
def RS.out : RS → R D
  | .fl (.nx _) S => .ok .non S
  | .fl (.rt d) S => .ok d S
  | .exc _ C fs S => .exc C fs S
  | _ => .bad
def env0 (n : Nat) (ds : List D) : Env := ds.map some ++ List.replicate (n - ds.length) none
def runF (g : SF) (n : Nat) : Fn := fun ds S => (g (env0 n ds) S).out
def spF (K : PySem.W.Frag) (n : Nat) (f : Fn) : Sp := fun vs H Q E => ∃ w ds, w.H = H ∧ w.Ok K ∧ Reps K [] w vs ds ∧ ds.length = n ∧
  Post K w (f ds w.S) (fun w' d => ∀ v, Rep K [] w' v d → Q v w'.H) (fun w' C fs => ∀ dA, ExA K w' dA fs → E (.ref C) dA w'.H)
theorem env0_ok {K : PySem.W.Frag} {pn : Pn} {w : Vw} {N : List Str} {vs : List V} {ds : List D} (r : Reps K pn w vs ds) : EnvOk K pn w (L2.start N vs) (env0 N.length ds) := by
  unfold L2.start env0
  refine ⟨by simp [r.length], fun i d e => ?_⟩
  by_cases hi : i < ds.length
  · rw [List.getElem?_append_left (by simpa using hi), List.getElem?_map] at e
    cases q : ds[i]? with
    | none => rw [q] at e; cases e
    | some d' =>
      rw [q] at e
      cases e
      obtain ⟨v, h1, h2⟩ := r.get q
      exact ⟨v, by rw [List.getElem?_append_left (by simpa [r.length] using hi), List.getElem?_map, h1]; rfl, h2⟩
  · rw [List.getElem?_append_right (by simpa using Nat.not_lt.mp hi), List.getElem?_replicate] at e
    split at e <;> cases e
section
variable {P : Program} {w : World} {K : PySem.W.Frag} {mg : Str → Option Value} {base : Heap} {x qual : Str} {params : Arguments} {body : List Stmt} {scope : Scope} {dvs : List V} {kws : List (Str × V)} {f : Addr} {fd : FuncData}
theorem fn_okF {N ps : List Str} {k : Nat} {g : SF} (F : FunD K x qual params body scope dvs kws f fd) (S : FnScope N ps scope)
    (hbody : ∀ (cdv : Value) (A : Around) (outer : List PySem.Env) (s : Shared) (H : Hp) (E : XK), Room k (A.deeper (envOfC qual scope s.heap.objs.size f cdv)) →
      FSs (cxOf (L2.CX P w) P w K mg base N qual scope f cdv A outer s H E) [] (fun cls d _ H => E cls d H) body g) :
    FnOk P w K mg base (L2.CX P w) (k + 1) f fd ps (spF K ps.length (runF g N.length)) := by
  refine F.ok S (fun vs H Q E ⟨v, ds, _, _, r, hl, _⟩ => r.length.trans hl) fun cdv A outer s H vs Q E hr hsp => ?_
  refine ⟨_, hbody cdv A outer s H E hr, ?_⟩
  obtain ⟨v, ds, hH, o, r, hl, p⟩ := hsp
  refine ⟨v, env0 N.length ds, hH, o, env0_ok r, ?_⟩
  unfold runF at p
  cases q : g (env0 N.length ds) v.S with
  | bad => rw [q] at p; exact p.elim
  | exc env C fs S => rw [q] at p; exact fun w' σ' e s o en dA a => p w' e s o dA a
  | fl fl S => cases fl with
    | nx env => rw [q] at p; exact fun w' σ' e s o en => p w' e s o _ .non
    | rt d => rw [q] at p; exact fun w' u e s o r => p w' e s o u r
    | bk env => rw [q] at p; exact p.elim
    | ct env => rw [q] at p; exact p.elim
/-! ### a nicer function -/
mutual
def D.plain (n : Nat) : D → Bool
  | .loc m => decide (m < n)
  | .tup ds => plains n ds
  | .lst ds => plains n ds
  | .fls ds => plains n ds
  | .obj _ fs => plainf n fs
  | .exn _ fs => plainf n fs
  | _ => true
def plains (n : Nat) : List D → Bool
  | [] => true
  | d :: ds => d.plain n && plains n ds
def plainf (n : Nat) : List (Str × D) → Bool
  | [] => true
  | d :: ds => d.2.plain n && plainf n ds
end
def Cell.plain (n : Nat) : Cell → Bool
  | .lst ds => plains n ds
  | .ins _ fs => plainf n fs
/-- the view with fewer cells -/
abbrev Vw.cut (w : Vw) (S : Sto) : Vw := { w with S := S }
theorem Vw.cut_mut {v : Vw} {S : Sto} (hl : S.length ≤ v.S.length) {a : Addr} (n : ¬ v.mut a) : ¬ (v.cut S).mut a := fun q => by
  rcases q with ⟨m, h1, h2⟩ | q
  · exact n (.inl ⟨m, Nat.lt_of_lt_of_le h1 hl, h2⟩)
  · exact n (.inr q)
mutual
theorem Rep.cut {pn : Pn} {v : Vw} {S : Sto} (hl : S.length ≤ v.S.length) : ∀ {x : V} {d : D}, Rep K pn v x d → d.plain S.length = true → Rep K pn (v.cut S) x d
  | _, _, .non, _ => .non
  | _, _, .bl b, _ => .bl b
  | _, _, .int i, _ => .int i
  | _, _, .str x, _ => .str x
  | _, _, .ty n, _ => .ty n
  | _, _, .ref a, _ => .ref a
  | _, _, .tup h r, p => .tup (h.imp (fun h => ⟨h.1, Vw.cut_mut hl h.2⟩) id) (Reps.cut hl r (by unfold D.plain at p; exact p))
  | _, _, .lst h r, p => .lst ⟨h.1, Vw.cut_mut hl h.2⟩ (Reps.cut hl r (by unfold D.plain at p; exact p))
  | _, _, .fls h r, p => .fls (h.imp (fun h => ⟨h.1, Vw.cut_mut hl h.2⟩) id) (Reps.cut hl r (by unfold D.plain at p; exact p))
  | _, _, .loc (m := m) h, p => Rep.loc (w := v.cut S) (by unfold D.plain at p; exact of_decide_eq_true p)
  | _, _, .obj h n r, p => .obj h (Vw.cut_mut hl n) (RepF.cut hl r (by unfold D.plain at p; exact p))
  | _, _, .exn0 h hz hf, _ => .exn0 h hz hf
  | _, _, .exn h hz hf hd n r, p => .exn h hz hf hd (Vw.cut_mut hl n) (RepF.cut hl r (by unfold D.plain at p; exact p))
theorem Reps.cut {pn : Pn} {v : Vw} {S : Sto} (hl : S.length ≤ v.S.length) : ∀ {x : List V} {d : List D}, Reps K pn v x d → plains S.length d = true → Reps K pn (v.cut S) x d
  | _, _, .nil, _ => .nil
  | _, _, .cons h t, p => by
    unfold plains at p
    obtain ⟨p1, p2⟩ := Bool.and_eq_true_iff.mp p
    exact .cons (Rep.cut hl h p1) (Reps.cut hl t p2)
theorem RepF.cut {pn : Pn} {v : Vw} {S : Sto} (hl : S.length ≤ v.S.length) : ∀ {x : List (Str × V)} {d : List (Str × D)}, RepF K pn v x d → plainf S.length d = true → RepF K pn (v.cut S) x d
  | _, _, .nil, _ => .nil
  | _, _, .cons h t, p => by
    unfold plainf at p
    obtain ⟨p1, p2⟩ := Bool.and_eq_true_iff.mp p
    exact .cons (Rep.cut hl h p1) (RepF.cut hl t p2)
end
theorem CellOk.cut {v : Vw} {S : Sto} (hl : S.length ≤ v.S.length) {a : Addr} {c : Cell} (h : CellOk K [] v a c) (p : c.plain S.length = true) : CellOk K [] (v.cut S) a c := by
  cases c with
  | lst ds => obtain ⟨xs, h, r⟩ := h; exact ⟨xs, h, r.cut hl p⟩
  | ins C gs => obtain ⟨dx, fs, h, r⟩ := h; exact ⟨dx, fs, h, r.cut hl p⟩
mutual
theorem Rep.plain {pn : Pn} {v : Vw} : ∀ {x : V} {d : D}, Rep K pn v x d → d.plain v.S.length = true
  | _, _, .non => rfl
  | _, _, .bl b => rfl
  | _, _, .int i => rfl
  | _, _, .str x => rfl
  | _, _, .ty n => rfl
  | _, _, .ref a => rfl
  | _, _, .tup h r => by unfold D.plain; exact Reps.plain r
  | _, _, .lst h r => by unfold D.plain; exact Reps.plain r
  | _, _, .fls h r => by unfold D.plain; exact Reps.plain r
  | _, _, .loc h => by unfold D.plain; exact decide_eq_true h
  | _, _, .obj h n r => by unfold D.plain; exact RepF.plain r
  | _, _, .exn0 h hz hf => rfl
  | _, _, .exn h hz hf hd n r => by unfold D.plain; exact RepF.plain r
theorem Reps.plain {pn : Pn} {v : Vw} : ∀ {x : List V} {d : List D}, Reps K pn v x d → plains v.S.length d = true
  | _, _, .nil => rfl
  | _, _, .cons h t => by unfold plains; rw [Rep.plain h, Reps.plain t]; rfl
theorem RepF.plain {pn : Pn} {v : Vw} : ∀ {x : List (Str × V)} {d : List (Str × D)}, RepF K pn v x d → plainf v.S.length d = true
  | _, _, .nil => rfl
  | _, _, .cons h t => by unfold plainf; rw [Rep.plain h, RepF.plain t]; rfl
end
theorem CellOk.plain {v : Vw} {a : Addr} {c : Cell} (h : CellOk K [] v a c) : c.plain v.S.length = true := by
  cases c with
  | lst ds => obtain ⟨xs, h, r⟩ := h; exact r.plain
  | ins C gs => obtain ⟨dx, fs, h, r⟩ := h; exact r.plain
/-- S2 (of S1's length, the caller's) may stand for S3 -/
def Shr (S1 S2 S3 : Sto) : Prop := S2.length = S1.length ∧ S1.length ≤ S3.length ∧ ∀ (m : Nat) (c : Cell), S2[m]? = some c → S3[m]? = some c ∧ (S1[m]? = some c ∨ c.plain S1.length = true)
theorem Shr.self (S ex : Sto) : Shr S S (S ++ ex) := ⟨rfl, by simp, fun m c h => ⟨by
  have hm := (List.getElem?_eq_some_iff.mp h).1
  rw [List.getElem?_append_left hm]
  exact h, .inl h⟩⟩
theorem Shr.set (S ex : Sto) (i : Nat) (c : Cell) (p : c.plain S.length = true) : Shr S (S.set i c) (S.set i c ++ ex) := ⟨by simp, by simp, fun m c' h => ⟨by
  have hm := (List.getElem?_eq_some_iff.mp h).1
  rw [List.getElem?_append_left hm]
  exact h, by
  by_cases e : i = m
  · subst e
    have hm := (List.getElem?_eq_some_iff.mp h).1
    rw [List.getElem?_set_self (by simpa using hm)] at h
    cases h
    exact .inr p
  · rw [List.getElem?_set_ne e] at h
    exact .inl h⟩⟩
theorem Shr.view {v v' : Vw} {S2 : Sto} (o : v.Ok K) (e : Ext v v') (o' : v'.Ok K) (h : Shr v.S S2 v'.S) : Ext v (v'.cut S2) ∧ (v'.cut S2).Ok K := by
  obtain ⟨h1, h2, h3⟩ := h
  have hl : S2.length ≤ v'.S.length := by omega
  have ex : Ext v (v'.cut S2) := ⟨Nat.le_of_eq h1.symm, e.ι, fun m q1 q2 => by
    have : m < S2.length := q2
    omega, e.Z, e.keep, e.live⟩
  refine ⟨ex, fun i j hi hj q => o'.inj i j (Nat.lt_of_lt_of_le hi hl) (Nat.lt_of_lt_of_le hj hl) q, o'.hz, fun m hm => o'.hzl m (Nat.lt_of_lt_of_le hm hl), fun m c q => ?_⟩
  obtain ⟨q1, q2⟩ := h3 m c q
  have c1 := o'.cell m c q1
  refine c1.cut hl ?_
  rw [h1]
  rcases q2 with q2 | q2
  · exact (o.cell m c q2).plain
  · exact q2
/-! what a nicer function may leave out: the new cells; a new list as a value -/
mutual
inductive Fin1 (n : Nat) (S3 : Sto) : D → D → Prop
  | same {d : D} (p : d.plain n = true) : Fin1 n S3 d d
  | lst {m : Nat} {ds es : List D} (h : n ≤ m) (hc : S3[m]? = some (.lst ds)) (r : FinL n S3 ds es) : Fin1 n S3 (.loc m) (.lst es)
  | ins {m : Nat} {C : Addr} {fs : List (Str × D)} (h : n ≤ m) (hc : S3[m]? = some (.ins C fs)) (p : plainf n fs = true) : Fin1 n S3 (.loc m) (.obj C fs)
  | inT {ds es : List D} (r : FinL n S3 ds es) : Fin1 n S3 (.tup ds) (.tup es)
  | inL {ds es : List D} (r : FinL n S3 ds es) : Fin1 n S3 (.lst ds) (.lst es)
inductive FinL (n : Nat) (S3 : Sto) : List D → List D → Prop
  | nil : FinL n S3 [] []
  | cons {d e : D} {ds es : List D} (h : Fin1 n S3 d e) (t : FinL n S3 ds es) : FinL n S3 (d :: ds) (e :: es)
end
theorem FinL.same {n : Nat} {S3 : Sto} : ∀ {ds : List D}, plains n ds = true → FinL n S3 ds ds
  | [], _ => .nil
  | d :: ds, p => by
    unfold plains at p
    obtain ⟨p1, p2⟩ := Bool.and_eq_true_iff.mp p
    exact .cons (.same p1) (FinL.same p2)
/-- f's end r0 is r, told in a nicer way: r's answer stands for whatever stands for r0's -/
def Nicer (S1 : Sto) (r0 r : R D) : Prop := match r with
  | .ok d S2 => ∃ d0 S3, r0 = .ok d0 S3 ∧ Shr S1 S2 S3 ∧ Fin1 S1.length S3 d0 d
  | .exc C fs S2 => ∃ S3, r0 = .exc C fs S3 ∧ Shr S1 S2 S3 ∧ plainf S1.length fs = true
  | .bad => True
theorem cut_nm {v : Vw} {S2 : Sto} (o : v.Ok K) (hl : S2.length ≤ v.S.length) : ∀ m, S2.length ≤ m → m < v.S.length → ¬ (v.cut S2).mut (v.ι m) := fun m h1 h2 q => by
  rcases q with ⟨k, hk, e⟩ | q
  · have hk' : k < S2.length := hk
    have := o.inj k m (Nat.lt_of_lt_of_le hk' hl) h2 e
    omega
  · exact o.hzl m h2 q
mutual
theorem fin1_rep {v : Vw} {S2 : Sto} (o : v.Ok K) (hl : S2.length ≤ v.S.length) : ∀ {d0 d : D} {x : V}, Fin1 S2.length v.S d0 d → Rep K [] v x d0 → Rep K [] (v.cut S2) x d
  | _, _, _, .same p, r => r.cut hl p
  | _, _, _, .lst h hc rl, r => by
    cases r with
    | loc hm =>
      obtain ⟨xs, h1, r1⟩ := o.cell _ _ hc
      exact .lst ⟨h1, cut_nm o hl _ h hm⟩ (finL_rep o hl rl r1)
  | _, _, _, .ins h hc p, r => by
    cases r with
    | loc hm =>
      obtain ⟨dx, fs, h1, r1⟩ := o.cell _ _ hc
      exact .obj h1 (cut_nm o hl _ h hm) (r1.cut hl p)
  | _, _, _, .inT rl, r => by
    cases r with
    | tup h r1 => exact .tup (h.imp (fun h => ⟨h.1, Vw.cut_mut hl h.2⟩) id) (finL_rep o hl rl r1)
  | _, _, _, .inL rl, r => by
    cases r with
    | lst h r1 => exact .lst ⟨h.1, Vw.cut_mut hl h.2⟩ (finL_rep o hl rl r1)
theorem finL_rep {v : Vw} {S2 : Sto} (o : v.Ok K) (hl : S2.length ≤ v.S.length) : ∀ {d0 d : List D} {x : List V}, FinL S2.length v.S d0 d → Reps K [] v x d0 → Reps K [] (v.cut S2) x d
  | _, _, _, .nil, r => by
    cases r
    exact .nil
  | _, _, _, .cons h t, r => by
    cases r with
    | cons r1 r2 => exact .cons (fin1_rep o hl h r1) (finL_rep o hl t r2)
end
theorem Nicer.post {v : Vw} {r0 r : R D} {P : V → Hp → Prop} {E : XK} (o : v.Ok K) (h : Nicer v.S r0 r)
    (p : Post K v r (fun w' d => ∀ u, Rep K [] w' u d → P u w'.H) (fun w' C fs => ∀ dA, ExA K w' dA fs → E (.ref C) dA w'.H)) :
    Post K v r0 (fun w' d => ∀ u, Rep K [] w' u d → P u w'.H) (fun w' C fs => ∀ dA, ExA K w' dA fs → E (.ref C) dA w'.H) := by
  cases r with
  | bad => exact p.elim
  | ok d S2 =>
    obtain ⟨d0, S3, e, sh, fi⟩ := h
    rw [e]
    intro v' ex hs o' u ru
    subst hs
    obtain ⟨e2, o2⟩ := Shr.view o ex o' sh
    have hl : S2.length ≤ v'.S.length := by have := sh.1; have := sh.2.1; omega
    exact p (v'.cut S2) e2 rfl o2 u (fin1_rep o' hl (by rw [sh.1]; exact fi) ru)
  | exc C fs S2 =>
    obtain ⟨S3, e, sh, pf⟩ := h
    rw [e]
    intro v' ex hs o' dA a
    subst hs
    obtain ⟨e2, o2⟩ := Shr.view o ex o' sh
    have hl : S2.length ≤ v'.S.length := by have := sh.1; have := sh.2.1; omega
    refine p (v'.cut S2) e2 rfl o2 dA ?_
    rcases a with a | ⟨dd, gs, h1, h2, h3, h4⟩
    · exact .inl a
    · exact .inr ⟨dd, gs, h1, h2, Vw.cut_mut hl h3, h4.cut hl (by rw [sh.1]; exact pf)⟩
/-- the promise told by a nicer function -/
theorem _root_.L2.FnOk.nice {CX : CXT} {k n : Nat} {ps : List Str} {f0 f1 : Fn} (F : FnOk P w K mg base CX k f fd ps (spF K n f0)) (h : ∀ ds S, ds.length = n → Nicer S (f0 ds S) (f1 ds S)) : FnOk P w K mg base CX k f fd ps (spF K n f1) :=
  F.imp fun vs H Q E ⟨v, ds, hH, o, r, hl, p⟩ => ⟨v, ds, hH, o, r, hl, (h ds v.S hl).post o p⟩
end
end FL
set_option maxRecDepth 100000
set_option maxHeartbeats 2000000
namespace FL
open PySem PySem.Spec PyProof.Rows L2

/-! ### fresh lists -/
/-- a rule that makes a new list -/
def SimL (K : PySem.W.Frag) (pn : Pn) (r : List V → Hp → VK → Prop) (g : Sto → List D → Option (List D)) : Prop :=
  ∀ (w : Vw) (xs : List V) (ds es : List D) (Q : VK), w.Ok K → Reps K pn w xs ds → g w.S ds = some es → (∀ p ys, w.H p = none → Reps K pn w ys es → Q (.ref p) (upd w.H p (.lst ys))) → r xs w.H Q
def Sim2L (K : PySem.W.Frag) (pn : Pn) (r : R2) (g : Sto → D → D → Option (List D)) : Prop :=
  ∀ (w : Vw) (x y : V) (d e : D) (es : List D) (Q : VK), w.Ok K → Rep K pn w x d → Rep K pn w y e → g w.S d e = some es → (∀ p ys, w.H p = none → Reps K pn w ys es → Q (.ref p) (upd w.H p (.lst ys))) → r x y w.H Q
theorem SimL.val {K : PySem.W.Frag} {pn : Pn} {r : List V → Hp → VK → Prop} {g : Sto → List D → Option (List D)} (h : SimL K pn r g) : SimC K pn r fun S ds => (g S ds).map .lst := by
  intro w xs ds z Q o rr e q
  have e : (g w.S ds).map D.lst = some z := e
  cases hg : g w.S ds with
  | none => rw [hg] at e; cases e
  | some es =>
    rw [hg] at e
    cases e
    exact h w xs ds es Q o rr hg fun p ys hp r1 => q (w.nu p (.lst ys)) _ (Vw.nu_ext hp) rfl (o.nu hp) (Rep.newL o hp r1)
theorem Sim2L.val {K : PySem.W.Frag} {pn : Pn} {r : R2} {g : Sto → D → D → Option (List D)} (h : Sim2L K pn r g) : Sim2 K pn r fun S d e => (g S d e).map .lst := by
  intro w x y d e z Q o r1 r2 q k
  have q : (g w.S d e).map D.lst = some z := q
  cases hg : g w.S d e with
  | none => rw [hg] at q; cases q
  | some es =>
    rw [hg] at q
    cases q
    exact h w x y d e es Q o r1 r2 hg fun p ys hp r3 => k (w.nu p (.lst ys)) _ (Vw.nu_ext hp) rfl (o.nu hp) (Rep.newL o hp r3)
def fBuL (g : Sto → List D → Option (List D)) (fa : Fa) : F := fun env S => (fa env S).bind fun ds S1 => (R.of (g S1 ds) S1).bind fun es S2 => .ok (.loc S2.length) (S2 ++ [.lst es])
def fBinL (g : Sto → D → D → Option (List D)) (fa fb : F) : F := fun env S => (fa env S).bind fun d S1 => (fb env S1).bind fun e S2 => (R.of (g S2 d e) S2).bind fun es S3 => .ok (.loc S3.length) (S3 ++ [.lst es])
/-- the end of a rule that makes a new cell -/
theorem fin_loc {K : PySem.W.Frag} {pn : Pn} {w : Vw} {P : Vw → D → Prop} {W : Vw → Addr → List (Str × D) → Prop} {o' : Option (List D)} (hpn : pn = []) (o : w.Ok K)
    (p : Post K w ((R.of o' w.S).bind fun es S3 => .ok (.loc S3.length) (S3 ++ [.lst es])) P W) : ∃ es, o' = some es ∧ ∀ pt ys, w.H pt = none → Reps K pn w ys es → ∃ w', w'.H = upd w.H pt (.lst ys) ∧ P w' (.loc w.S.length) ∧ Rep K pn w' (.ref pt) (.loc w.S.length) := by
  cases o' with
  | none => exact p.elim
  | some es =>
    refine ⟨es, rfl, fun pt ys hp r1 => ?_⟩
    have e2 := Vw.al_ext (u := .lst ys) (c := .lst es) hp
    refine ⟨w.al pt (.lst ys) (.lst es), rfl, p (w.al pt (.lst ys) (.lst es)) e2 rfl (o.al hp ⟨ys, upd_same, (noexn hpn r1).to e2⟩), ?_⟩
    have z : (w.al pt (.lst ys) (.lst es)).ι w.S.length = pt := if_pos rfl
    have r := Rep.loc (K := K) (pn := pn) (w := w.al pt (.lst ys) (.lst es)) (m := w.S.length) (by simp)
    rw [z] at r
    exact r
section
variable {X : Cx} {P : Pn} {W : WX} {a b : Expr} {es : List Expr} {fa fb : F} {fs : Fa} {pos p : Pos} {x : Str} {id T : String}
/-- f(e, ..), f a built-in function -/
theorem fe_bu {r : List V → Hp → VK → Prop} {g : Sto → List D → Option D} (hc : CallR X (.builtin id) r) (hs : SimC X.K P r g) (hg : Gl X x) (hm : X.mg x = none) (hv : bootBuiltins x = some (.builtin id)) (ha : FA X P W (a :: es) fs) (hn : x ≠ "__name__" := by decide) (hdb : (x == ("__debug__" : Str)) = false := by decide)
    (he : starEach (a :: es) X.env = (false, eval a X.env) :: starEach es X.env := by rfl) (hpl : (backTo pos (starEach es X.env)).any (·.1) = false := by rfl) : FE X P W (.Call (.Name x p) (a :: es) [] pos) (fBu g fs) :=
  peI (pe_callB hc hg hm hv ha hn hdb he hpl) fun σ H Q ⟨w, env, hH, o, en, p⟩ => by
    subst hH
    refine ra_bind o en p fun w1 x d e1 o1 en1 r1 p1 => ?_
    obtain ⟨z, hz, q⟩ := p1.of
    exact hs w1 x d z Q o1 r1 hz fun w' v e' s' o' r' => q w' e' s' o' v r'
theorem fe_ty {r : List V → Hp → VK → Prop} {g : Sto → List D → Option D} (hc : CallR X (.type T) r) (hs : SimC X.K P r g) (hg : Gl X x) (hm : X.mg x = none) (hv : bootBuiltins x = some (.type T)) (ha : FA X P W (a :: es) fs) (hn : x ≠ "__name__" := by decide) (hdb : (x == ("__debug__" : Str)) = false := by decide)
    (he : starEach (a :: es) X.env = (false, eval a X.env) :: starEach es X.env := by rfl) (hpl : (backTo pos (starEach es X.env)).any (·.1) = false := by rfl) : FE X P W (.Call (.Name x p) (a :: es) [] pos) (fBu g fs) :=
  peI (pe_callTy hc hg hm hv ha hn hdb he hpl) fun σ H Q ⟨w, env, hH, o, en, p⟩ => by
    subst hH
    refine ra_bind o en p fun w1 x d e1 o1 en1 r1 p1 => ?_
    obtain ⟨z, hz, q⟩ := p1.of
    exact hs w1 x d z Q o1 r1 hz fun w' v e' s' o' r' => q w' e' s' o' v r'
theorem fe_buL {r : List V → Hp → VK → Prop} {g : Sto → List D → Option (List D)} (hpn : P = []) (hc : CallR X (.builtin id) r) (hs : SimL X.K P r g) (hg : Gl X x) (hm : X.mg x = none) (hv : bootBuiltins x = some (.builtin id)) (ha : FA X P W (a :: es) fs) (hn : x ≠ "__name__" := by decide) (hdb : (x == ("__debug__" : Str)) = false := by decide)
    (he : starEach (a :: es) X.env = (false, eval a X.env) :: starEach es X.env := by rfl) (hpl : (backTo pos (starEach es X.env)).any (·.1) = false := by rfl) : FE X P W (.Call (.Name x p) (a :: es) [] pos) (fBuL g fs) :=
  peI (pe_callB hc hg hm hv ha hn hdb he hpl) fun σ H Q ⟨w, env, hH, o, en, p⟩ => by
    subst hH
    refine ra_bind o en p fun w1 x d e1 o1 en1 r1 p1 => ?_
    obtain ⟨es, hz, q⟩ := fin_loc (pn := P) hpn o1 p1
    exact hs w1 x d es Q o1 r1 hz fun pt ys hp r2 => by
      obtain ⟨w', h1, h2, h3⟩ := q pt ys hp r2
      rw [← h1]
      exact h2 _ h3
theorem fe_tyL {r : List V → Hp → VK → Prop} {g : Sto → List D → Option (List D)} (hpn : P = []) (hc : CallR X (.type T) r) (hs : SimL X.K P r g) (hg : Gl X x) (hm : X.mg x = none) (hv : bootBuiltins x = some (.type T)) (ha : FA X P W (a :: es) fs) (hn : x ≠ "__name__" := by decide) (hdb : (x == ("__debug__" : Str)) = false := by decide)
    (he : starEach (a :: es) X.env = (false, eval a X.env) :: starEach es X.env := by rfl) (hpl : (backTo pos (starEach es X.env)).any (·.1) = false := by rfl) : FE X P W (.Call (.Name x p) (a :: es) [] pos) (fBuL g fs) :=
  peI (pe_callTy hc hg hm hv ha hn hdb he hpl) fun σ H Q ⟨w, env, hH, o, en, p⟩ => by
    subst hH
    refine ra_bind o en p fun w1 x d e1 o1 en1 r1 p1 => ?_
    obtain ⟨es, hz, q⟩ := fin_loc (pn := P) hpn o1 p1
    exact hs w1 x d es Q o1 r1 hz fun pt ys hp r2 => by
      obtain ⟨w', h1, h2, h3⟩ := q pt ys hp r2
      rw [← h1]
      exact h2 _ h3
theorem fe_opL {op : Operator} {r : R2} {g : Sto → D → D → Option (List D)} (hpn : P = []) (ho : OpR X (binaryOp op) r) (hg : Sim2L X.K P r g) (ha : FE X P W a fa) (hb : FE X P W b fb) : FE X P W (.BinOp a op b pos) (fBinL g fa fb) :=
  peI (pe_op ho ha hb) fun σ H Q ⟨w, env, hH, o, en, p⟩ => by
    subst hH
    refine re_bind o en p fun w1 x d e1 o1 en1 r1 p1 => re_bind o1 en1 p1 fun w2 y e e2 o2 en2 r2 p2 => ?_
    obtain ⟨es, hz, q⟩ := fin_loc (pn := P) hpn o2 p2
    exact hg w2 x y d e es Q o2 (r1.to e2) r2 hz fun pt ys hp r3 => by
      obtain ⟨w', h1, h2, h3⟩ := q pt ys hp r3
      rw [← h1]
      exact h2 _ h3
end
/-! ### numbers -/
section
variable {X : Cx} {K : PySem.W.Frag} {P : Pn}
theorem Sim2.or {r r' : R2} {g g' : Sto → D → D → Option D} (h : Sim2 K P r g) (h' : Sim2 K P r' g') : Sim2 K P (fun x y H Q => r x y H Q ∨ r' x y H Q) fun S d e => match g S d e with
    | some z => some z
    | none => g' S d e := by
  intro w x y d e z Q o r1 r2 q k
  have q : (match g w.S d e with
    | some z => some z
    | none => g' w.S d e) = some z := q
  cases hg : g w.S d e with
  | some z' =>
    rw [hg] at q
    cases q
    exact .inl (h w x y d e _ Q o r1 r2 hg k)
  | none =>
    rw [hg] at q
    exact .inr (h' w x y d e z Q o r1 r2 q k)
def gI2 (c : Int → Int → Bool) (f : Int → Int → D) : Sto → D → D → Option D := fun _ d e => match d, e with
  | .int i, .int j => if c i j = true then some (f i j) else none
  | _, _ => none
theorem sim_rI {C : Int → Int → Prop} {c : Int → Int → Bool} {f : Int → Int → V} {fd : Int → Int → D} (hC : ∀ i j, c i j = true → C i j) (hf : ∀ w i j, Rep K P w (f i j) (fd i j)) : Sim2 K P (rI C f) (gI2 c fd) := by
  intro w x y d e z Q o r1 r2 q k
  cases r1 with
  | int i =>
    cases r2 with
    | int j =>
      have q' : (if c i j = true then some (fd i j) else none) = some z := q
      by_cases h : c i j = true
      · rw [if_pos h] at q'
        cases q'
        exact ⟨i, j, rfl, rfl, hC i j h, k w _ (Ext.refl w) rfl o (hf w i j)⟩
      · rw [if_neg h] at q'
        cases q'
    | _ => cases q
  | _ => cases q
theorem sim_rI0 {f : Int → Int → V} {fd : Int → Int → D} (hf : ∀ w i j, Rep K P w (f i j) (fd i j)) : Sim2 K P (rI0 f) (gI2 (fun _ _ => true) fd) := by
  intro w x y d e z Q o r1 r2 q k
  cases r1 with
  | int i =>
    cases r2 with
    | int j =>
      cases q
      exact ⟨i, j, rfl, rfl, k w _ (Ext.refl w) rfl o (hf w i j)⟩
    | _ => cases q
  | _ => cases q
def gStr2 : Sto → D → D → Option D := fun _ d e => match d, e with
  | .str i, .str j => if i.length + j.length ≤ sizeLine then some (.str (i ++ j)) else none
  | _, _ => none
theorem sim_addS : Sim2 K P (fun x y H Q => ∃ i j, x = .str i ∧ y = .str j ∧ i.length + j.length ≤ sizeLine ∧ Q (.str (i ++ j)) H) gStr2 := by
  intro w x y d e z Q o r1 r2 q k
  cases r1 with
  | str i =>
    cases r2 with
    | str j =>
      have q' : (if i.length + j.length ≤ sizeLine then some (D.str (i ++ j)) else none) = some z := q
      by_cases h : i.length + j.length ≤ sizeLine
      · rw [if_pos h] at q'
        cases q'
        exact ⟨i, j, rfl, rfl, h, k w _ (Ext.refl w) rfl o (.str _)⟩
      · rw [if_neg h] at q'
        cases q'
    | _ => cases q
  | _ => cases q
def gCat : Sto → D → D → Option (List D) := fun S d e => match lstOf S d, lstOf S e with
  | some xs, some ys => if xs.length + ys.length ≤ sizeLine then some (xs ++ ys) else none
  | _, _ => none
theorem sim_cat : Sim2L K P rCat gCat := by
  intro w x y d e es Q o r1 r2 q k
  unfold gCat at q
  cases h1 : lstOf w.S d with
  | none => rw [h1] at q; cases q
  | some xs =>
    cases h2 : lstOf w.S e with
    | none => rw [h1, h2] at q; cases q
    | some ys =>
      rw [h1, h2] at q
      have q' : (if xs.length + ys.length ≤ sizeLine then some (xs ++ ys) else none) = some es := q
      by_cases h : xs.length + ys.length ≤ sizeLine
      · rw [if_pos h] at q'
        cases q'
        obtain ⟨a, vs, e1, g1, s1⟩ := lst_of o r1 h1
        obtain ⟨b, us, e2, g2, s2⟩ := lst_of o r2 h2
        exact ⟨a, b, vs, us, e1, e2, g1, g2, by rw [s1.length, s2.length]; exact h, fun p hp => k p _ hp (s1.append s2)⟩
      · rw [if_neg h] at q'
        cases q'
def gAdd : Sto → D → D → Option D := fun S d e => match gI2 (fun _ _ => true) (fun i j => .int (i + j)) S d e with
  | some z => some z
  | none => match gStr2 S d e with
    | some z => some z
    | none => (gCat S d e).map .lst
theorem op_addA : OpR X (binaryOp .Add) (fun x y H Q => rI0 (fun i j => .int (i + j)) x y H Q ∨ ((∃ i j, x = .str i ∧ y = .str j ∧ i.length + j.length ≤ sizeLine ∧ Q (.str (i ++ j)) H) ∨ rCat x y H Q)) := op_add.or (op_add_str.or op_cat)
theorem sim_add : Sim2 K P (fun x y H Q => rI0 (fun i j => .int (i + j)) x y H Q ∨ ((∃ i j, x = .str i ∧ y = .str j ∧ i.length + j.length ≤ sizeLine ∧ Q (.str (i ++ j)) H) ∨ rCat x y H Q)) gAdd :=
  (sim_rI0 fun _ _ _ => .int _).or (sim_addS.or sim_cat.val)
def gSub := gI2 (fun _ _ => true) fun i j => .int (i - j)
def gMul := gI2 (fun i j => decide ((-(2 ^ 64) < i ∧ i < 2 ^ 64) ∨ (-(2 ^ 64) < j ∧ j < 2 ^ 64))) fun i j => .int (i * j)
def gMod := gI2 (fun _ j => decide (0 < j)) fun i j => .int (i % j)
def gDiv := gI2 (fun _ j => decide (0 < j ∧ j < 1073741824)) fun i j => .int (i / j)
def gLt := gI2 (fun _ _ => true) fun i j => .bl (decide (i < j))
def gLe := gI2 (fun _ _ => true) fun i j => .bl (decide (i ≤ j))
def gGt := gI2 (fun _ _ => true) fun i j => .bl (decide (j < i))
def gGe := gI2 (fun _ _ => true) fun i j => .bl (decide (j ≤ i))
theorem sim_sub : Sim2 K P (rI0 fun i j => .int (i - j)) gSub := sim_rI0 fun _ _ _ => .int _
theorem sim_mul : Sim2 K P (rI CMul fun i j => .int (i * j)) gMul := sim_rI (fun i j h => show (-(2 ^ 64) < i ∧ i < 2 ^ 64) ∨ (-(2 ^ 64) < j ∧ j < 2 ^ 64) from of_decide_eq_true h) fun _ _ _ => .int _
theorem sim_mod : Sim2 K P (rI (fun _ j => 0 < j) fun i j => .int (i % j)) gMod := sim_rI (fun _ _ h => of_decide_eq_true h) fun _ _ _ => .int _
theorem sim_div : Sim2 K P (rI CDiv fun i j => .int (i / j)) gDiv := sim_rI (fun i j h => show 0 < j ∧ j < 1073741824 from of_decide_eq_true h) fun _ _ _ => .int _
theorem sim_lt : Sim2 K P (rI0 fun i j => .bl (decide (i < j))) gLt := sim_rI0 fun _ _ _ => .bl _
theorem sim_le : Sim2 K P (rI0 fun i j => .bl (decide (i ≤ j))) gLe := sim_rI0 fun _ _ _ => .bl _
theorem sim_gt : Sim2 K P (rI0 fun i j => .bl (decide (j < i))) gGt := sim_rI0 fun _ _ _ => .bl _
theorem sim_ge : Sim2 K P (rI0 fun i j => .bl (decide (j ≤ i))) gGe := sim_rI0 fun _ _ _ => .bl _
def gNeg : Sto → D → Option D := fun _ d => match d with
  | .int i => some (.int (-i))
  | _ => none
theorem sim_neg : Sim1 K P (rU fun i => .int (-i)) gNeg := by
  intro w x d z Q o r q k
  cases r with
  | int i =>
    cases q
    exact ⟨i, rfl, k w _ (Ext.refl w) rfl o (.int _)⟩
  | _ => cases q
/-! ### == -/
mutual
/-- without cells -/
def D.py0 : D → Option PyData
  | .non => some .none
  | .bl b => some (.bool b)
  | .int i => some (.int i)
  | .str x => some (.str x)
  | .tup ds => (pys0 ds).map .tuple
  | .lst ds => (pys0 ds).map .list
  | .fls ds => (pys0 ds).map .list
  | _ => none
def pys0 : List D → Option (List PyData)
  | [] => some []
  | d :: ds => match d.py0, pys0 ds with
    | some a, some b => some (a :: b)
    | _, _ => none
end
mutual
def D.py (S : Sto) : D → Option PyData
  | .non => some .none
  | .bl b => some (.bool b)
  | .int i => some (.int i)
  | .str x => some (.str x)
  | .tup ds => (pys S ds).map .tuple
  | .lst ds => (pys S ds).map .list
  | .fls ds => (pys S ds).map .list
  | .loc m => ((Cell.lst? S[m]?).bind pys0).map .list
  | _ => none
def pys (S : Sto) : List D → Option (List PyData)
  | [] => some []
  | d :: ds => match d.py S, pys S ds with
    | some a, some b => some (a :: b)
    | _, _ => none
end
mutual
theorem py0_ok {w : Vw} : ∀ {v : V} {d : D} {q : PyData}, Rep K P w v d → d.py0 = some q → Dp K w.H v q
  | _, _, _, .non, e => by cases e; exact .non
  | _, _, _, .bl b, e => by cases e; exact .bl b
  | _, _, _, .int i, e => by cases e; exact .int i
  | _, _, _, .str x, e => by cases e; exact .str x
  | _, _, _, .ty n, e => by cases e
  | _, _, _, .ref a, e => by cases e
  | _, .tup ds, q, .tup h r, e => by
    have e : (pys0 ds).map PyData.tuple = some q := by unfold D.py0 at e; exact e
    cases g : pys0 ds with
    | none => rw [g] at e; cases e
    | some qs => rw [g] at e; cases e; exact .tup h.sq (pys0_ok r g)
  | _, .lst ds, q, .lst h r, e => by
    have e : (pys0 ds).map PyData.list = some q := by unfold D.py0 at e; exact e
    cases g : pys0 ds with
    | none => rw [g] at e; cases e
    | some qs => rw [g] at e; cases e; exact .lst h.sq (pys0_ok r g)
  | _, .fls ds, q, .fls h r, e => by
    have e : (pys0 ds).map PyData.list = some q := by unfold D.py0 at e; exact e
    cases g : pys0 ds with
    | none => rw [g] at e; cases e
    | some qs => rw [g] at e; cases e; exact .lst h.sq (pys0_ok r g)
  | _, _, _, .loc h, e => by cases e
  | _, _, _, .obj h n r, e => by cases e
  | _, _, _, .exn0 h hz hf, e => by cases e
  | _, _, _, .exn h hz hf hd n r, e => by cases e
theorem pys0_ok {w : Vw} : ∀ {v : List V} {d : List D} {q : List PyData}, Reps K P w v d → pys0 d = some q → DpAll K w.H v q
  | _, _, _, .nil, e => by cases e; exact .nil
  | _, d :: ds, q, .cons h t, e => by
    have e : (match d.py0, pys0 ds with
      | some a, some b => some (a :: b)
      | _, _ => none) = some q := by unfold pys0 at e; exact e
    cases g1 : d.py0 with
    | none => rw [g1] at e; cases e
    | some a =>
      cases g2 : pys0 ds with
      | none => rw [g1, g2] at e; cases e
      | some b => rw [g1, g2] at e; cases e; exact .cons (py0_ok h g1) (pys0_ok t g2)
end
mutual
theorem py_ok {w : Vw} (o : w.Ok K) : ∀ {v : V} {d : D} {q : PyData}, Rep K P w v d → d.py w.S = some q → Dp K w.H v q
  | _, _, _, .non, e => by cases e; exact .non
  | _, _, _, .bl b, e => by cases e; exact .bl b
  | _, _, _, .int i, e => by cases e; exact .int i
  | _, _, _, .str x, e => by cases e; exact .str x
  | _, _, _, .ty n, e => by cases e
  | _, _, _, .ref a, e => by cases e
  | _, .tup ds, q, .tup h r, e => by
    have e : (pys w.S ds).map PyData.tuple = some q := by unfold D.py at e; exact e
    cases g : pys w.S ds with
    | none => rw [g] at e; cases e
    | some qs => rw [g] at e; cases e; exact .tup h.sq (pys_ok o r g)
  | _, .lst ds, q, .lst h r, e => by
    have e : (pys w.S ds).map PyData.list = some q := by unfold D.py at e; exact e
    cases g : pys w.S ds with
    | none => rw [g] at e; cases e
    | some qs => rw [g] at e; cases e; exact .lst h.sq (pys_ok o r g)
  | _, .fls ds, q, .fls h r, e => by
    have e : (pys w.S ds).map PyData.list = some q := by unfold D.py at e; exact e
    cases g : pys w.S ds with
    | none => rw [g] at e; cases e
    | some qs => rw [g] at e; cases e; exact .lst h.sq (pys_ok o r g)
  | _, .loc m, q, .loc h, e => by
    have e : ((Cell.lst? w.S[m]?).bind pys0).map PyData.list = some q := by unfold D.py at e; exact e
    cases g : Cell.lst? w.S[m]? with
    | none => rw [g] at e; cases e
    | some ds =>
      rw [g] at e
      have e : (pys0 ds).map PyData.list = some q := e
      cases g2 : pys0 ds with
      | none => rw [g2] at e; cases e
      | some qs =>
        rw [g2] at e
        cases e
        obtain ⟨xs, h1, r1⟩ := o.cell m _ (lst?_some g)
        exact .lst (SqL.of h1) (pys0_ok (P := []) r1 g2)
  | _, _, _, .obj h n r, e => by cases e
  | _, _, _, .exn0 h hz hf, e => by cases e
  | _, _, _, .exn h hz hf hd n r, e => by cases e
theorem pys_ok {w : Vw} (o : w.Ok K) : ∀ {v : List V} {d : List D} {q : List PyData}, Reps K P w v d → pys w.S d = some q → DpAll K w.H v q
  | _, _, _, .nil, e => by cases e; exact .nil
  | _, d :: ds, q, .cons h t, e => by
    have e : (match d.py w.S, pys w.S ds with
      | some a, some b => some (a :: b)
      | _, _ => none) = some q := by unfold pys at e; exact e
    cases g1 : d.py w.S with
    | none => rw [g1] at e; cases e
    | some a =>
      cases g2 : pys w.S ds with
      | none => rw [g1, g2] at e; cases e
      | some b => rw [g1, g2] at e; cases e; exact .cons (py_ok o h g1) (pys_ok o t g2)
end
def gEq (neg : Bool) : Sto → D → D → Option D := fun S d e => match d.py S, e.py S with
  | some a, some b => if (SeqAt.shaped a && SeqAt.shaped b) = true then some (.bl (if neg then !PyData.eqv a b else PyData.eqv a b)) else none
  | _, _ => none
theorem sim_eqG {neg : Bool} {r : R2} (hr : ∀ x y H Q, (∃ d e, Dp K H x d ∧ Dp K H y e ∧ SeqAt.shaped d = true ∧ SeqAt.shaped e = true ∧ Q (.bl (if neg then !PyData.eqv d e else PyData.eqv d e)) H) → r x y H Q) : Sim2 K P r (gEq neg) := by
  intro w x y d e z Q o r1 r2 q k
  unfold gEq at q
  cases h1 : d.py w.S with
  | none => rw [h1] at q; cases q
  | some a =>
    cases h2 : e.py w.S with
    | none => rw [h1, h2] at q; cases q
    | some b =>
      rw [h1, h2] at q
      have q' : (if (SeqAt.shaped a && SeqAt.shaped b) = true then some (D.bl (if neg then !PyData.eqv a b else PyData.eqv a b)) else none) = some z := q
      by_cases h : (SeqAt.shaped a && SeqAt.shaped b) = true
      · rw [if_pos h] at q'
        cases q'
        obtain ⟨s1, s2⟩ := Bool.and_eq_true_iff.mp h
        exact hr _ _ _ _ ⟨a, b, py_ok o r1 h1, py_ok o r2 h2, s1, s2, k w _ (Ext.refl w) rfl o (.bl _)⟩
      · rw [if_neg h] at q'
        cases q'
theorem sim_eq : Sim2 K P (rEqD K) (gEq false) := sim_eqG fun _ _ _ _ h => h
theorem sim_ne : Sim2 K P (rNeD K) (gEq true) := sim_eqG fun _ _ _ _ h => h
/-! ### is -/
def D.isN : D → Bool
  | .non => true
  | _ => false
theorem isN_ok {w : Vw} {v : V} {d : D} (r : Rep K P w v d) : decide (v = .non) = d.isN := by
  cases r <;> rfl
def gIsN (neg : Bool) : Sto → D → D → Option D := fun _ d e => match e with
  | .non => some (.bl (if neg then !d.isN else d.isN))
  | _ => none
theorem sim_isN : Sim2 K P (fun x y H Q => y = .non ∧ Q (.bl (decide (x = .non))) H) (gIsN false) := by
  intro w x y d e z Q o r1 r2 q k
  cases r2 with
  | non =>
    cases q
    exact ⟨rfl, by rw [isN_ok r1]; exact k w _ (Ext.refl w) rfl o (.bl _)⟩
  | _ => cases q
theorem sim_notN : Sim2 K P (fun x y H Q => y = .non ∧ Q (.bl (!decide (x = .non))) H) (gIsN true) := by
  intro w x y d e z Q o r1 r2 q k
  cases r2 with
  | non =>
    cases q
    exact ⟨rfl, by rw [isN_ok r1]; exact k w _ (Ext.refl w) rfl o (.bl _)⟩
  | _ => cases q
def gIsB (neg : Bool) : Sto → D → D → Option D := fun _ d e => match d, e with
  | .bl a, .bl b => some (.bl (if neg then !decide (a = b) else decide (a = b)))
  | _, _ => none
theorem sim_isB : Sim2 K P (fun x y H Q => ∃ a b, x = .bl a ∧ y = .bl b ∧ Q (.bl (decide (a = b))) H) (gIsB false) := by
  intro w x y d e z Q o r1 r2 q k
  cases r1 with
  | bl a =>
    cases r2 with
    | bl b =>
      cases q
      exact ⟨a, b, rfl, rfl, k w _ (Ext.refl w) rfl o (.bl _)⟩
    | _ => cases q
  | _ => cases q
/-! ### built-ins -/
def dlen (S : Sto) : D → Option Nat
  | .str x => if x.length ≤ sizeLine then some x.length else none
  | d => (seqOf S d).map List.length
def g1 (f : Sto → D → Option D) : Sto → List D → Option D := fun S ds => match ds with
  | [d] => f S d
  | _ => none
def gLen : Sto → List D → Option D := g1 fun S d => (dlen S d).map fun n : Nat => D.int n
theorem sim1 {r : List V → Hp → VK → Prop} {f : Sto → D → Option D} (h : ∀ (w : Vw) (x : V) (d z : D) (Q : VK), w.Ok K → Rep K P w x d → f w.S d = some z → (∀ w' v, Ext w w' → w'.S = w.S → w'.Ok K → Rep K P w' v z → Q v w'.H) → r [x] w.H Q) : SimC K P r (g1 f) := by
  intro w xs ds z Q o rr e q
  cases rr with
  | nil => cases e
  | cons r1 rr =>
    cases rr with
    | nil => exact h w _ _ z Q o r1 e q
    | cons _ _ => cases e
theorem sim_len : SimC K P (fun xs H Q => ∃ x n, xs = [x] ∧ LenV K x H n ∧ Q (.int n) H) gLen := sim1 fun w x d z Q o r e q => by
  by_cases hs : ∃ y, d = .str y
  · obtain ⟨y, rfl⟩ := hs
    cases r with
    | str =>
      have e' : (if y.length ≤ sizeLine then some y.length else none).map (fun n : Nat => D.int n) = some z := e
      by_cases h : y.length ≤ sizeLine
      · rw [if_pos h] at e'
        cases e'
        exact ⟨_, y.length, rfl, ⟨h, rfl⟩, q w _ (Ext.refl w) rfl o (.int _)⟩
      · rw [if_neg h] at e'
        cases e'
  · have e' : ((seqOf w.S d).map List.length).map (fun n : Nat => D.int n) = some z := by
      unfold dlen at e
      split at e
      · exact absurd ⟨_, rfl⟩ hs
      · exact e
    cases g : seqOf w.S d with
    | none => rw [g] at e'; cases e'
    | some ds =>
      rw [g] at e'
      cases e'
      obtain ⟨a, xs, rfl, h, rr⟩ := seq_of o r g
      refine ⟨_, ds.length, rfl, ?_, q w _ (Ext.refl w) rfl o (.int _)⟩
      rcases h with h | h
      · exact .inl ⟨xs, h, rr.length.symm⟩
      · exact .inr ⟨xs, h, rr.length.symm⟩
def gAbs : Sto → List D → Option D := g1 fun _ d => match d with
  | .int i => some (.int (if i < 0 then -i else i))
  | _ => none
theorem sim_abs : SimC K P (fun xs H Q => ∃ i, xs = [.int i] ∧ Q (.int (if i < 0 then -i else i)) H) gAbs := sim1 fun w x d z Q o r e q => by
  cases r with
  | int i =>
    cases e
    exact ⟨i, rfl, q w _ (Ext.refl w) rfl o (.int _)⟩
  | _ => cases e
def gInt : Sto → List D → Option D := g1 fun _ d => match d with
  | .int i => some (.int i)
  | .bl k => some (.int (if k then 1 else 0))
  | _ => none
theorem sim_int : SimC K P (fun xs H Q => (∃ i, xs = [.int i] ∧ Q (.int i) H) ∨ ∃ k, xs = [.bl k] ∧ Q (.int (if k then 1 else 0)) H) gInt := sim1 fun w x d z Q o r e q => by
  cases r with
  | int i =>
    cases e
    exact .inl ⟨i, rfl, q w _ (Ext.refl w) rfl o (.int _)⟩
  | bl k =>
    cases e
    exact .inr ⟨k, rfl, q w _ (Ext.refl w) rfl o (.int _)⟩
  | _ => cases e
/-- list(x): any list or tuple -/
def gList : Sto → List D → Option (List D) := fun S ds => match ds with
  | [d] => seqOf S d
  | _ => none
theorem sim_list : SimL K P (fun xs H Q => ∃ p ys, xs = [.ref p] ∧ (SqL K H p ys ∨ SqT K H p ys) ∧ ∀ l, H l = none → Q (.ref l) (upd H l (.lst ys))) gList := by
  intro w xs ds es Q o rr e q
  cases rr with
  | nil => cases e
  | cons r1 rr =>
    cases rr with
    | nil =>
      obtain ⟨a, ys, rfl, h, r2⟩ := seq_of o r1 e
      exact ⟨a, ys, rfl, h, fun p hp => q p ys hp r2⟩
    | cons _ _ => cases e
/-- tuple(x): any list or tuple -/
def gTuple : Sto → List D → Option D := g1 fun S d => (seqOf S d).map .tup
theorem sim_tuple : SimC K P (fun xs H Q => ∃ p ys, xs = [.ref p] ∧ ((SqL K H p ys ∧ ∀ l, H l = none → Q (.ref l) (upd H l (.tup ys))) ∨ (SqT K H p ys ∧ Q (.ref p) H))) gTuple := sim1 fun w x d z Q o r e q => by
  by_cases ht : ∃ es, d = .tup es
  · obtain ⟨es, rfl⟩ := ht
    have ez : some (D.tup es) = some z := e
    cases ez
    obtain ⟨a, xs, rfl, h2, h3⟩ := tup_of r
    exact ⟨a, xs, rfl, .inr ⟨h2, q w _ (Ext.refl w) rfl o r⟩⟩
  · have e' : (lisOf w.S d).map D.tup = some z := by
      have e : (seqOf w.S d).map D.tup = some z := e
      unfold seqOf at e
      split at e
      · exact absurd ⟨_, rfl⟩ ht
      · exact e
    cases g : lisOf w.S d with
    | none => rw [g] at e'; cases e'
    | some ds =>
      rw [g] at e'
      cases e'
      obtain ⟨a, xs, rfl, h2, h3⟩ := lis_of o r g
      exact ⟨a, xs, rfl, .inl ⟨h2, fun l hl => q (w.nu l (.tup xs)) _ (Vw.nu_ext hl) rfl (o.nu hl) (Rep.newT o hl h3)⟩⟩
def gI2C (f : Int → Int → Int) : Sto → List D → Option D := fun _ ds => match ds with
  | [.int i, .int j] => some (.int (f i j))
  | _ => none
theorem sim_i2 {f : Int → Int → Int} : SimC K P (fun xs H Q => ∃ i j, xs = [.int i, .int j] ∧ Q (.int (f i j)) H) (gI2C f) := by
  intro w xs ds z Q o rr e q
  cases rr with
  | nil => cases e
  | cons r1 rr =>
    cases rr with
    | nil => cases r1 <;> cases e
    | cons r2 rr =>
      cases rr with
      | nil =>
        cases r1 with
        | int i =>
          cases r2 with
          | int j =>
            cases e
            exact ⟨i, j, rfl, q w _ (Ext.refl w) rfl o (.int _)⟩
          | _ => cases e
        | _ => cases e
      | cons _ _ => cases r1 <;> cases r2 <;> cases e
def max2 (i j : Int) : Int := if j > i then j else i
def min2 (i j : Int) : Int := if j < i then j else i
/-- the ints of a list -/
def intsOf : List D → Option (List Int)
  | [] => some []
  | .int i :: ds => (intsOf ds).map (i :: ·)
  | _ => none
theorem ints_of {w : Vw} : ∀ {vs : List V} {ds : List D} {ns : List Int}, Reps K P w vs ds → intsOf ds = some ns → vs = ns.map V.int
  | _, _, _, .nil, e => by cases e; rfl
  | _, d :: ds, ns, .cons h t, e => by
    cases h with
    | int i =>
      have e : (intsOf ds).map (i :: ·) = some ns := e
      cases g : intsOf ds with
      | none => rw [g] at e; cases e
      | some ms =>
        rw [g] at e
        cases e
        rw [ints_of t g]
        rfl
    | _ => cases e
theorem intsOf_map : ∀ ns : List Int, intsOf (ns.map D.int) = some ns
  | [] => rfl
  | n :: ns => by
    show (intsOf (ns.map D.int)).map (n :: ·) = _
    rw [intsOf_map ns]
    rfl
/-- the list's ints (a list, not a tuple) -/
def lintsOf (S : Sto) (d : D) : Option (List Int) := (lisOf S d).bind intsOf
theorem lints_of {w : Vw} {v : V} {d : D} {ns : List Int} (o : w.Ok K) (r : Rep K P w v d) (e : lintsOf w.S d = some ns) : ∃ a, v = .ref a ∧ SqL K w.H a (ns.map V.int) := by
  unfold lintsOf at e
  cases g : lisOf w.S d with
  | none => rw [g] at e; cases e
  | some ds =>
    rw [g] at e
    obtain ⟨a, xs, e1, h1, r1⟩ := lis_of o r g
    refine ⟨a, e1, ?_⟩
    rw [← ints_of r1 e]
    exact h1
def gSum : Sto → List D → Option D := g1 fun S d => (lintsOf S d).map fun ns => .int ns.sum
theorem sim_sum : SimC K P (rSum K) gSum := sim1 fun w x d z Q o r e q => by
  cases g : lintsOf w.S d with
  | none => rw [g] at e; cases e
  | some ns =>
    rw [g] at e
    cases e
    obtain ⟨a, rfl, h⟩ := lints_of o r g
    exact ⟨a, ns, rfl, h, q w _ (Ext.refl w) rfl o (.int _)⟩
/-- the greatest, the least of a list -/
def maxI : List Int → Option Int
  | [] => none
  | n :: ns => some (ns.foldl max n)
def minI : List Int → Option Int
  | [] => none
  | n :: ns => some (ns.foldl min n)
theorem foldl_max_mem : ∀ (ns : List Int) (n : Int), ns.foldl max n ∈ n :: ns
  | [], n => by simp
  | m :: ns, n => by
    have h := foldl_max_mem ns (max n m)
    show ns.foldl max (max n m) ∈ _
    rcases List.mem_cons.mp h with e | h
    · rw [e]
      by_cases h : n ≤ m
      · rw [Int.max_eq_right h]
        simp
      · rw [Int.max_eq_left (by omega)]
        simp
    · exact List.mem_cons_of_mem _ (List.mem_cons_of_mem _ h)
theorem foldl_max_le : ∀ (ns : List Int) (n : Int), ∀ y ∈ n :: ns, y ≤ ns.foldl max n
  | [], n, y, h => by
    rcases List.mem_cons.mp h with e | h
    · rw [e]
      exact Int.le_refl _
    · cases h
  | m :: ns, n, y, h => by
    show y ≤ ns.foldl max (max n m)
    rcases List.mem_cons.mp h with e | h
    · rw [e]
      exact Int.le_trans (Int.le_max_left n m) (foldl_max_le ns (max n m) _ List.mem_cons_self)
    · rcases List.mem_cons.mp h with e | h
      · rw [e]
        exact Int.le_trans (Int.le_max_right n m) (foldl_max_le ns (max n m) _ List.mem_cons_self)
      · exact foldl_max_le ns (max n m) y (List.mem_cons_of_mem _ h)
theorem maxI_eq {ns : List Int} {m : Int} (h1 : m ∈ ns) (h2 : ∀ y ∈ ns, y ≤ m) : maxI ns = some m := by
  cases ns with
  | nil => cases h1
  | cons n ns =>
    have a := foldl_max_le ns n m h1
    have b := h2 _ (foldl_max_mem ns n)
    exact congrArg some (by omega)
theorem foldl_min_mem : ∀ (ns : List Int) (n : Int), ns.foldl min n ∈ n :: ns
  | [], n => by simp
  | m :: ns, n => by
    have h := foldl_min_mem ns (min n m)
    show ns.foldl min (min n m) ∈ _
    rcases List.mem_cons.mp h with e | h
    · rw [e]
      by_cases h : n ≤ m
      · rw [Int.min_eq_left h]
        simp
      · rw [Int.min_eq_right (by omega)]
        simp
    · exact List.mem_cons_of_mem _ (List.mem_cons_of_mem _ h)
theorem foldl_min_le : ∀ (ns : List Int) (n : Int), ∀ y ∈ n :: ns, ns.foldl min n ≤ y
  | [], n, y, h => by
    rcases List.mem_cons.mp h with e | h
    · rw [e]
      exact Int.le_refl _
    · cases h
  | m :: ns, n, y, h => by
    show ns.foldl min (min n m) ≤ y
    rcases List.mem_cons.mp h with e | h
    · rw [e]
      exact Int.le_trans (foldl_min_le ns (min n m) _ List.mem_cons_self) (Int.min_le_left n m)
    · rcases List.mem_cons.mp h with e | h
      · rw [e]
        exact Int.le_trans (foldl_min_le ns (min n m) _ List.mem_cons_self) (Int.min_le_right n m)
      · exact foldl_min_le ns (min n m) y (List.mem_cons_of_mem _ h)
theorem minI_eq {ns : List Int} {m : Int} (h1 : m ∈ ns) (h2 : ∀ y ∈ ns, m ≤ y) : minI ns = some m := by
  cases ns with
  | nil => cases h1
  | cons n ns =>
    have a := foldl_min_le ns n m h1
    have b := h2 _ (foldl_min_mem ns n)
    exact congrArg some (by omega)
def gMax1 : Sto → List D → Option D := g1 fun S d => ((lintsOf S d).bind maxI).map .int
def gMin1 : Sto → List D → Option D := g1 fun S d => ((lintsOf S d).bind minI).map .int
theorem sim_max1 : SimC K P (rMax K) gMax1 := sim1 fun w x d z Q o r e q => by
  cases g : lintsOf w.S d with
  | none => rw [g] at e; cases e
  | some ns =>
    rw [g] at e
    obtain ⟨a, rfl, h⟩ := lints_of o r g
    cases ns with
    | nil => cases e
    | cons n ns =>
      refine ⟨a, n :: ns, rfl, h, Nat.succ_pos _, fun m h1 h2 => ?_⟩
      have e' : (maxI (n :: ns)).map D.int = some z := e
      rw [maxI_eq h1 h2] at e'
      cases e'
      exact q w _ (Ext.refl w) rfl o (.int _)
theorem sim_min1 : SimC K P (rMin K) gMin1 := sim1 fun w x d z Q o r e q => by
  cases g : lintsOf w.S d with
  | none => rw [g] at e; cases e
  | some ns =>
    rw [g] at e
    obtain ⟨a, rfl, h⟩ := lints_of o r g
    cases ns with
    | nil => cases e
    | cons n ns =>
      refine ⟨a, n :: ns, rfl, h, Nat.succ_pos _, fun m h1 h2 => ?_⟩
      have e' : (minI (n :: ns)).map D.int = some z := e
      rw [minI_eq h1 h2] at e'
      cases e'
      exact q w _ (Ext.refl w) rfl o (.int _)
end
end FL
set_option maxRecDepth 100000
set_option maxHeartbeats 2000000
namespace FL
open PySem PySem.Spec PyProof.Rows L2
/-! ### rules of our own: list.count of flat items; max, min, sum of a tuple -/
section
variable {X : Cx}
theorem countP_eqU {x : V} : ∀ {xs : List V} {us : List Value}, Vals xs us → xs.all flatV = true → us.countP (eqU x) = xs.countP fun y => eqV y x
  | _, _, .nil, _ => rfl
  | _, _, .cons r t, f => by
    rw [List.all_cons, Bool.and_eq_true] at f
    rw [List.countP_cons, List.countP_cons, eqU_of r f.1, countP_eqU t f.2]
def rCntF (K : PySem.W.Frag) : V → List V → Hp → VK → Prop := fun x xs H Q => ∃ (p : Addr) (ys : List V) (k : V), x = .ref p ∧ xs = [k] ∧ SqL K H p ys ∧ flatV k = true ∧ ys.all flatV = true ∧ Q (.int (ys.countP (fun y => eqV y k) : Nat)) H
theorem mt_cntF : MtR X "list.count" (rCntF X.K) := by
  intro pins s σ H x xs v us Q I rx rxs h
  obtain ⟨p, ys, k, rfl, rfl, hs, fk, fs, q⟩ := h
  cases rx
  obtain ⟨u, rfl, ru⟩ := vals1 rxs
  obtain ⟨its, rv, ⟨⟨cls, dd, data, sl⟩, n, ho, hc, hdn, hd⟩, hlen⟩ := I.list hs
  simp only at hc hd
  subst hc hd
  refine call_meets PySem.F.slot_list_count ⟨_, ho, rfl⟩ PySem.F.entry_list_count (PySem.F.args_list_count_2 _ _)
    (SeqAt.list_countAt p its.toArray n dd sl u (eqU k)) ⟨ho, fun y hy => mem_eqAt ru fk rv fs y (by simpa using hy), ?_⟩
  have ec : its.toArray.toList.countP (eqU k) = ys.countP (fun y => eqV y k) := countP_eqU rv fs
  refine ⟨.int (ys.countP (fun y => eqV y k) : Nat), H, I.tok _, ⟨s.toks, ?_⟩, q⟩
  show Value.int ((its.toArray.toList.countP (eqU k) : Nat) : Int) s.toks = Value.int ((ys.countP (fun y => eqV y k) : Nat) : Int) s.toks
  rw [ec]
end
section
variable {X : Cx} {K : PySem.W.Frag} {P : Pn} {W : WX} {a b : Expr} {es : List Expr} {fa fb : F} {fs : Fa} {pos p : Pos}
/-! ### an item, a slice -/
theorem ixAt {w : Vw} {xs : List V} {ds : List D} {i : Int} {d : D} (r : Reps K P w xs ds) (e : atI ds i = some d) : ∃ v, atI xs i = some v ∧ Rep K P w v d := by
  unfold atI at e ⊢
  rw [r.length]
  cases g : ixN ds.length i with
  | none => rw [g] at e; cases e
  | some j =>
    rw [g] at e
    exact r.get e
def D.str? : D → Option Str
  | .str z => some z
  | _ => none
def gIx : Sto → D → D → Option D := fun S d e => match e with
  | .int i => (match d.str? with
    | some z => if z.length ≤ sizeLine then (atI z.cps.toList i).map fun c => .str ⟨#[c]⟩ else none
    | none => (seqOf S d).bind fun ds => atI ds i)
  | _ => none
theorem sim_ix : Sim2 K P (rIx K) gIx := by
  intro w x y d e z Q o r1 r2 q k
  cases r2 with
  | int i =>
    have q : (match d.str? with
      | some z => if z.length ≤ sizeLine then (atI z.cps.toList i).map fun c => D.str ⟨#[c]⟩ else none
      | none => (seqOf w.S d).bind fun ds => atI ds i) = some z := q
    cases g : d.str? with
    | some y =>
      rw [g] at q
      have hd : d = .str y := by
        cases d with
        | str z => cases g; rfl
        | _ => cases g
      subst hd
      cases r1 with
      | str =>
        have q' : (if y.length ≤ sizeLine then (atI y.cps.toList i).map fun c => D.str ⟨#[c]⟩ else none) = some z := q
        by_cases h : y.length ≤ sizeLine
        · rw [if_pos h] at q'
          cases g : atI y.cps.toList i with
          | none => rw [g] at q'; cases q'
          | some c =>
            rw [g] at q'
            cases q'
            exact .inr (.inr ⟨y, i, c, rfl, rfl, h, g, k w _ (Ext.refl w) rfl o (.str _)⟩)
        · rw [if_neg h] at q'
          cases q'
    | none =>
      rw [g] at q
      have q' : ((seqOf w.S d).bind fun ds => atI ds i) = some z := q
      cases g : seqOf w.S d with
      | none => rw [g] at q'; cases q'
      | some ds =>
        rw [g] at q'
        obtain ⟨a, xs, rfl, h, rr⟩ := seq_of o r1 g
        obtain ⟨v, h1, h2⟩ := ixAt rr q'
        rcases h with h | h
        · exact .inl ⟨a, xs, i, v, rfl, rfl, h, h1, k w _ (Ext.refl w) rfl o h2⟩
        · exact .inr (.inl ⟨a, xs, i, v, rfl, rfl, h, h1, k w _ (Ext.refl w) rfl o h2⟩)
  | _ => cases q
theorem fe_ix (ha : FE X P W a fa) (hb : FE X P W b fb) (hs : PlainIx b := by exact fun _ _ => rfl) : FE X P W (.Subscript a b pos) (fBin gIx fa fb) :=
  peI (pe_ix ix_seq ha hb hs) fun σ H Q ⟨w, env, hH, o, en, p⟩ => by
    subst hH
    refine re_bind o en p fun w1 x d e1 o1 en1 r1 p1 => re_bind o1 en1 p1 fun w2 y e e2 o2 en2 r2 p2 => ?_
    obtain ⟨z, hz, q⟩ := p2.of
    exact sim_ix w2 x y d e z Q o2 (r1.to e2) r2 hz fun w' v e' s' o' r' => q w' e' s' o' v r'
/-- the parts of a slice -/
abbrev Fo := Env → Sto → R (Option Int)
def RO (K : PySem.W.Frag) (pn : Pn) (W : WX) (f : Fo) : TO := fun σ H Q => ∃ w env, w.H = H ∧ w.Ok K ∧ EnvOk K pn w σ env ∧ Post K w (f env w.S) (fun w' b => Q b w'.H) (WP K W σ)
def FO (X : Cx) (P : Pn) (W : WX) (e : Option Expr) (f : Fo) : Prop := PO X e (RO X.K P W f)
theorem poI {e : Option Expr} {t t' : TO} (h : PO X e t) (i : ∀ σ H Q, t' σ H Q → t σ H Q) : PO X e t' := ⟨fun pins s σ H Q I q => h.run pins s σ H Q I (i _ _ _ q)⟩
theorem ro_bind {σ : St} {w : Vw} {env : Env} {f : Fo} {β : Type} {k : Option Int → Sto → R β} {P' : Vw → β → Prop} {Q : Option Int → Hp → Prop} (o : w.Ok K) (en : EnvOk K P w σ env) (h : Post K w ((f env w.S).bind k) P' (WP K W σ))
    (c : ∀ w1 b, Ext w w1 → w1.Ok K → EnvOk K P w1 σ env → Post K w1 (k b w1.S) P' (WP K W σ) → Q b w1.H) : RO K P W f σ w.H Q :=
  ⟨w, env, rfl, o, en, h.bind.mono (fun w1 b e1 o1 q => c w1 b e1 o1 (en.to e1) q) fun _ _ _ _ _ q => q⟩
def fNoP : Fo := fun _ S => .ok none S
def fPart (f : F) : Fo := fun env S => (f env S).bind fun d S1 => match d with
  | .int i => .ok (some i) S1
  | _ => .bad
theorem fo_none : FO X P W none fNoP := poI po_none fun σ H Q ⟨w, env, hH, o, en, p⟩ => by
  subst hH
  exact Post.ret (a := (none : Option Int)) o p
theorem fo_some (h : FE X P W a fa) : FO X P W (some a) (fPart fa) := poI (po_some h) fun σ H Q ⟨w, env, hH, o, en, p⟩ => by
  subst hH
  refine re_bind o en p fun w1 x d e1 o1 en1 r1 p1 => ?_
  cases r1 with
  | int i => exact ⟨i, rfl, Post.ret (a := some i) o1 p1⟩
  | _ => exact p1.elim
def cutD (ds : List D) (lo hi : Option Int) : List D := (ds.drop (HT.sIx ds.length 0 lo)).take (HT.sIx ds.length ds.length hi - HT.sIx ds.length 0 lo)
def fSlG (g : Sto → D → Option Int → Option Int → Option D) (f : F) (fl fh : Fo) : F := fun env S => (f env S).bind fun d S1 => (fl env S1).bind fun l S2 => (fh env S2).bind fun h S3 => R.of (g S3 d l h) S3
theorem fe_slG {r : V → Option Int → Option Int → Hp → VK → Prop} {g : Sto → D → Option Int → Option Int → Option D} {fl fh : Fo} {lo hi : Option Expr} {p2 : Pos} (hr : SlR X r)
    (hs : ∀ (w : Vw) (x : V) (d z : D) (l h : Option Int) (Q : VK), w.Ok X.K → Rep X.K P w x d → g w.S d l h = some z → (∀ w' v, Ext w w' → w'.S = w.S → w'.Ok X.K → Rep X.K P w' v z → Q v w'.H) → r x l h w.H Q)
    (ha : FE X P W a fa) (hl : FO X P W lo fl) (hh : FO X P W hi fh) : FE X P W (.Subscript a (.Slice lo hi none p2) pos) (fSlG g fa fl fh) :=
  peI (pe_slice hr ha hl hh) fun σ H Q ⟨w, env, hH, o, en, p⟩ => by
    subst hH
    refine re_bind o en p fun w1 x d e1 o1 en1 r1 p1 => ro_bind o1 en1 p1 fun w2 l e2 o2 en2 p2 => ro_bind o2 en2 p2 fun w3 h e3 o3 en3 p3 => ?_
    obtain ⟨z, hz, q⟩ := p3.of
    exact hs w3 x d z l h Q o3 (r1.to (e2.trans e3)) hz fun w' v e' s' o' r' => q w' e' s' o' v r'
def gSlL : Sto → D → Option Int → Option Int → Option D := fun S d l h => (lisOf S d).map fun ds => .lst (cutD ds l h)
def gSlS : Sto → D → Option Int → Option Int → Option D := fun _ d l h => match d with
  | .str z => if z.length ≤ sizeLine then some (.str (cutS z l h)) else none
  | _ => none
def gSl : Sto → D → Option Int → Option Int → Option D := fun S d l h => match gSlL S d l h with
  | some z => some z
  | none => gSlS S d l h
theorem SlR.or {r r' : V → Option Int → Option Int → Hp → VK → Prop} (h : SlR X r) (h' : SlR X r') : SlR X (fun x l u H Q => r x l u H Q ∨ r' x l u H Q) := by
  intro pins s σ H x v vl vu lo hi sl Q I rx hs pl pu q
  rcases q with q | q
  · exact h pins s σ H x v vl vu lo hi sl Q I rx hs pl pu q
  · exact h' pins s σ H x v vl vu lo hi sl Q I rx hs pl pu q
theorem fe_sl {fl fh : Fo} {lo hi : Option Expr} {p2 : Pos} (ha : FE X P W a fa) (hl : FO X P W lo fl) (hh : FO X P W hi fh) : FE X P W (.Subscript a (.Slice lo hi none p2) pos) (fSlG gSl fa fl fh) :=
  fe_slG (SlR.or sl_list sl_str) (fun w x d z l h Q o r q k => by
    have q : (match gSlL w.S d l h with
      | some z => some z
      | none => gSlS w.S d l h) = some z := q
    cases g : gSlL w.S d l h with
    | some z' =>
      rw [g] at q
      cases q
      have g' : (lisOf w.S d).map (fun ds => D.lst (cutD ds l h)) = some z := g
      cases g2 : lisOf w.S d with
      | none => rw [g2] at g'; cases g'
      | some ds =>
        rw [g2] at g'
        cases g'
        obtain ⟨a, xs, rfl, h1, rr⟩ := lis_of o r g2
        refine .inl ⟨a, xs, rfl, h1, fun p hp => k (w.nu p (.lst (cutV xs l h))) _ (Vw.nu_ext hp) rfl (o.nu hp) (Rep.newL o hp ?_)⟩
        unfold cutV cutD
        rw [rr.length]
        exact (rr.drop _).take _
    | none =>
      rw [g] at q
      cases r with
      | str y =>
        have q : (if y.length ≤ sizeLine then some (D.str (cutS y l h)) else none) = some z := q
        by_cases hz : y.length ≤ sizeLine
        · rw [if_pos hz] at q
          cases q
          exact .inr ⟨y, rfl, hz, k w _ (Ext.refl w) rfl o (.str _)⟩
        · rw [if_neg hz] at q
          cases q
      | _ => cases q) ha hl hh
/-! ### methods of lists that are cells -/
def locL (S : Sto) : D → Option (Nat × List D)
  | .loc m => (Cell.lst? S[m]?).map fun ds => (m, ds)
  | _ => none
theorem loc_of {w : Vw} {v : V} {d : D} {m : Nat} {ds : List D} (o : w.Ok K) (r : Rep K P w v d) (e : locL w.S d = some (m, ds)) : d = .loc m ∧ v = .ref (w.ι m) ∧ m < w.S.length ∧ ∃ xs, w.H (w.ι m) = some (.lst xs) ∧ Reps K [] w xs ds := by
  cases r with
  | loc h =>
    rename_i k
    have e' : (Cell.lst? w.S[k]?).map (fun ds => (k, ds)) = some (m, ds) := e
    cases g : Cell.lst? w.S[k]? with
    | none => rw [g] at e'; cases e'
    | some es =>
      rw [g] at e'
      cases e'
      exact ⟨rfl, rfl, h, o.cell _ _ (lst?_some g)⟩
  | _ => cases e
/-- a method that changes its list: the answer, the list behind it -/
def mutAt (g : List D → List D → Option (D × List D)) (d : D) (ds : List D) (S : Sto) : R D := match locL S d with
  | some (m, xs) => (match g xs ds with
    | some (z, ys) => .ok z (S.set m (.lst ys))
    | none => .bad)
  | none => .bad
def fMut (g : List D → List D → Option (D × List D)) (fo : F) (fs : Fa) : F := fun env S => (fo env S).bind fun d S1 => match locL S1 d with
  | some _ => (fs env S1).bind fun ds S2 => mutAt g d ds S2
  | none => .bad
def fMut0 (g : List D → List D → Option (D × List D)) (fo : F) : F := fun env S => (fo env S).bind fun d S1 => mutAt g d [] S1
/-- what a changing method's rule says -/
def SimM (K : PySem.W.Frag) (r : V → List V → Hp → VK → Prop) (g : List D → List D → Option (D × List D)) : Prop :=
  ∀ (w : Vw) (l : Addr) (xs vs : List V) (ds es : List D) (z : D) (ys : List D) (Q : VK), w.H l = some (.lst xs) → Reps K [] w xs ds → Reps K [] w vs es → g ds es = some (z, ys) →
    (∀ v us, Rep K [] w v z → Reps K [] w us ys → Q v (upd w.H l (.lst us))) → r (.ref l) vs w.H Q
theorem mut_fin {w : Vw} {m : Nat} {us : List V} {ys : List D} (o : w.Ok K) (hm : m < w.S.length) (r : Reps K [] w us ys) : Ext w (w.st m (.lst us) (.lst ys)) ∧ (w.st m (.lst us) (.lst ys)).Ok K := by
  have e := Vw.st_ext (u := .lst us) (c := .lst ys) hm
  exact ⟨e, o.st hm ⟨us, upd_same, r.to e⟩⟩
theorem mut_end {w : Vw} {r : V → List V → Hp → VK → Prop} {g : List D → List D → Option (D × List D)} {x : V} {d : D} {vs : List V} {ds : List D} {Q : VK} {W' : Vw → Addr → List (Str × D) → Prop} (hs : SimM K r g) (o : w.Ok K) (r1 : Rep K [] w x d) (r2 : Reps K [] w vs ds)
    (p : Post K w (mutAt g d ds w.S) (fun w' d => ∀ v, Rep K [] w' v d → Q v w'.H) W') : r x vs w.H Q := by
  unfold mutAt at p
  cases h1 : locL w.S d with
  | none => rw [h1] at p; exact p.elim
  | some q =>
    obtain ⟨m, xs⟩ := q
    rw [h1] at p
    obtain ⟨rfl, rfl, hm, us, hu, ru⟩ := loc_of o r1 h1
    have p : Post K w (match g xs ds with
      | some (z, ys) => .ok z (w.S.set m (.lst ys))
      | none => .bad) (fun w' d => ∀ v, Rep K [] w' v d → Q v w'.H) W' := p
    cases h2 : g xs ds with
    | none => rw [h2] at p; exact p.elim
    | some q =>
      obtain ⟨z, ys⟩ := q
      rw [h2] at p
      refine hs w _ us vs xs ds z ys Q hu ru r2 h2 fun v us' rv rus => ?_
      obtain ⟨e, o'⟩ := mut_fin (K := K) o hm rus
      exact p _ e rfl o' v (rv.to e)
theorem locL_ty {w : Vw} {x : V} {d : D} {q : Nat × List D} (o : w.Ok K) (r : Rep K P w x d) (e : locL w.S d = some q) : tyV K "list" x w.H := by
  obtain ⟨m, xs⟩ := q
  obtain ⟨rfl, rfl, hm, us, hu, ru⟩ := loc_of o r e
  exact .inl ⟨rfl, us, SqL.of hu⟩
theorem fe_mut {r : V → List V → Hp → VK → Prop} {g : List D → List D → Option (D × List D)} {name : Str} {id : String} {apos cpos : Pos} (hpn : P = []) (hm : MtR X id r) (hs : SimM X.K r g) (slot : Slot "list" name id) (hty : typeOf (.builtin id) = pure (.type "method_descriptor")) (ho : FE X P W a fa) (ha : FA X P W (b :: es) fs)
    (hbase : attributeBase a name X.env (eval a X.env) = eval a X.env := by rfl)
    (hfew : ((backTo cpos (starEach (b :: es) X.env)).all (fun x => !x.1) && (backToKw cpos (keywordEach [] X.env)).all (fun x => x.1.isSome)
      && decide ((b :: es).length + ([] : List Keyword).length + (if ([] : List Keyword).isEmpty then 0 else 1) < 30)) = true := by rfl)
    (hline : (apos.endLine == cpos.line) = true := by rfl) (hst : starEach (b :: es) X.env = (false, eval b X.env) :: starEach es X.env := by rfl) (hplain : (backTo cpos (starEach es X.env)).any (·.1) = false := by rfl) :
    FE X P W (.Call (.Attribute a name apos) (b :: es) [] cpos) (fMut g fa fs) := by
  subst hpn
  refine peI (pe_bm PySem.F.plainAttrs_list slot hty hm ho ha hbase hfew hline hst hplain) fun σ H Q ⟨w, env, hH, o, en, p⟩ => ?_
  subst hH
  refine re_bind o en p fun w1 x d e1 o1 en1 r1 p1 => ?_
  cases h1 : locL w1.S d with
  | none => rw [h1] at p1; exact p1.elim
  | some q =>
    rw [h1] at p1
    exact ⟨locL_ty o1 r1 h1, ra_bind o1 en1 p1 fun w2 xs ds e2 o2 en2 r2 p2 => mut_end hs o2 (r1.to e2) r2 p2⟩
theorem fe_mut0 {r : V → List V → Hp → VK → Prop} {g : List D → List D → Option (D × List D)} {name : Str} {id : String} {apos cpos : Pos} (hpn : P = []) (hm : MtR X id r) (hs : SimM X.K r g) (slot : Slot "list" name id) (hty : typeOf (.builtin id) = pure (.type "method_descriptor")) (ho : FE X P W a fa)
    (hbase : attributeBase a name X.env (eval a X.env) = eval a X.env := by rfl) (hline : (apos.endLine == cpos.line) = true := by rfl) :
    FE X P W (.Call (.Attribute a name apos) [] [] cpos) (fMut0 g fa) := by
  subst hpn
  refine peI (pe_bm0 PySem.F.plainAttrs_list slot hty hm ho hbase hline) fun σ H Q ⟨w, env, hH, o, en, p⟩ => ?_
  subst hH
  refine re_bind o en p fun w1 x d e1 o1 en1 r1 p1 => ?_
  cases h1 : locL w1.S d with
  | none => unfold mutAt at p1; rw [h1] at p1; exact p1.elim
  | some q => exact ⟨locL_ty o1 r1 h1, mut_end hs o1 r1 .nil p1⟩
/-! the changing methods -/
def gAppend (xs : List D) (ds : List D) : Option (D × List D) := match ds with
  | [d] => if xs.length < sizeLine then some (.non, xs ++ [d]) else none
  | _ => none
theorem sim_append : SimM K rAppend gAppend := by
  intro w l xs vs ds es z ys Q hl r1 r2 e k
  cases r2 with
  | nil => cases e
  | cons a t =>
    cases t with
    | cons _ _ => cases e
    | nil =>
      rename_i v d
      have e : (if ds.length < sizeLine then some (D.non, ds ++ [d]) else none) = some (z, ys) := e
      by_cases h : ds.length < sizeLine
      · rw [if_pos h] at e
        cases e
        exact ⟨l, xs, v, rfl, rfl, hl, by rw [r1.length]; exact h, k _ _ .non (r1.append (.cons a .nil))⟩
      · rw [if_neg h] at e
        cases e
def gPop (xs : List D) (ds : List D) : Option (D × List D) := match ds, xs[xs.length - 1]? with
  | [], some d => some (d, xs.dropLast)
  | _, _ => none
theorem Reps.dropLast {w : Vw} : ∀ {vs : List V} {ds : List D}, Reps K P w vs ds → Reps K P w vs.dropLast ds.dropLast
  | _, _, .nil => .nil
  | _, _, .cons _ .nil => .nil
  | _, _, .cons h (.cons a t) => .cons h (Reps.dropLast (.cons a t))
theorem sim_pop : SimM K rPop gPop := by
  intro w l xs vs ds es z ys Q hl r1 r2 e k
  cases r2 with
  | cons _ _ => unfold gPop at e; split at e <;> first | contradiction | cases e
  | nil =>
    unfold gPop at e
    cases g : ds[ds.length - 1]? with
    | none => rw [g] at e; cases e
    | some d =>
      rw [g] at e
      cases e
      obtain ⟨v, h1, h2⟩ := r1.get g
      exact ⟨l, xs, v, rfl, rfl, hl, by rw [r1.length]; exact h1, k _ _ h2 r1.dropLast⟩
theorem Reps.eraseIdx {w : Vw} : ∀ {vs : List V} {ds : List D} (i : Nat), Reps K P w vs ds → Reps K P w (vs.eraseIdx i) (ds.eraseIdx i)
  | _, _, _, .nil => .nil
  | _, _, 0, .cons _ t => t
  | _, _, i + 1, .cons h t => .cons h (Reps.eraseIdx i t)
def gPopAt (xs : List D) (ds : List D) : Option (D × List D) := match ds with
  | [.int i] => if -(2 ^ 63) ≤ i ∧ i < 2 ^ 63 then (match seqIndex? i xs.length with
    | some k => (xs[k]?).map fun d => (d, xs.eraseIdx k)
    | none => none) else none
  | _ => none
theorem sim_popAt : SimM K rPopAt gPopAt := by
  intro w l xs vs ds es z ys Q hl r1 r2 e k
  cases r2 with
  | nil => cases e
  | cons a t =>
    cases t with
    | cons _ _ => cases a <;> cases e
    | nil =>
      cases a with
      | int i =>
        have e : (if -(2 ^ 63) ≤ i ∧ i < 2 ^ 63 then (match seqIndex? i ds.length with
          | some k => (ds[k]?).map fun d => (d, ds.eraseIdx k)
          | none => none) else none) = some (z, ys) := e
        by_cases h : -(2 ^ 63) ≤ i ∧ i < 2 ^ 63
        · rw [if_pos h] at e
          cases g : seqIndex? i ds.length with
          | none => rw [g] at e; cases e
          | some j =>
            rw [g] at e
            have e : (ds[j]?).map (fun d => (d, ds.eraseIdx j)) = some (z, ys) := e
            cases g2 : ds[j]? with
            | none => rw [g2] at e; cases e
            | some d =>
              rw [g2] at e
              cases e
              obtain ⟨v, h1, h2⟩ := r1.get g2
              exact ⟨l, xs, i, j, v, rfl, rfl, hl, h.1, h.2, by rw [r1.length]; exact g, h1, k _ _ h2 (r1.eraseIdx j)⟩
        · rw [if_neg h] at e
          cases e
      | _ => cases e
def gInsert (xs : List D) (ds : List D) : Option (D × List D) := match ds with
  | [.int i, d] => if xs.length < sizeLine ∧ 0 ≤ i ∧ i < 2 ^ 63 then some (.non, xs.take i.toNat ++ [d] ++ xs.drop i.toNat) else none
  | _ => none
theorem sim_insert : SimM K (fun x vs H Q => ∃ (l : Addr) (xs : List V) (i : Int) (y : V), x = .ref l ∧ vs = [.int i, y] ∧ H l = some (.lst xs) ∧ xs.length < sizeLine ∧ 0 ≤ i ∧ i < 2 ^ 63 ∧
    Q .non (upd H l (.lst (xs.take i.toNat ++ [y] ++ xs.drop i.toNat)))) gInsert := by
  intro w l xs vs ds es z ys Q hl r1 r2 e k
  cases r2 with
  | nil => cases e
  | cons a t =>
    cases t with
    | nil => cases a <;> cases e
    | cons b t =>
      cases t with
      | cons _ _ => cases a <;> cases e
      | nil =>
        cases a with
        | int i =>
          rename_i v d
          have e : (if ds.length < sizeLine ∧ 0 ≤ i ∧ i < 2 ^ 63 then some (D.non, ds.take i.toNat ++ [d] ++ ds.drop i.toNat) else none) = some (z, ys) := e
          by_cases h : ds.length < sizeLine ∧ 0 ≤ i ∧ i < 2 ^ 63
          · rw [if_pos h] at e
            cases e
            exact ⟨l, xs, i, v, rfl, rfl, hl, by rw [r1.length]; exact h.1, h.2.1, h.2.2, k _ _ .non (((r1.take _).append (.cons b .nil)).append (r1.drop _))⟩
          · rw [if_neg h] at e
            cases e
        | _ => cases e
/-! ### methods that only read -/
def fMeth (g : Sto → D → List D → Option D) (fo : F) (fs : Fa) : F := fun env S => (fo env S).bind fun d S1 => (fs env S1).bind fun ds S2 => R.of (g S2 d ds) S2
/-- a list's reading method: the receiver a list -/
def fMethL (g : Sto → D → List D → Option D) (fo : F) (fs : Fa) : F := fun env S => (fo env S).bind fun d S1 => match lisOf S1 d with
  | some _ => (fs env S1).bind fun ds S2 => R.of (g S2 d ds) S2
  | none => .bad
def SimMR (K : PySem.W.Frag) (P : Pn) (r : V → List V → Hp → VK → Prop) (g : Sto → D → List D → Option D) : Prop :=
  ∀ (w : Vw) (x : V) (vs : List V) (d : D) (es : List D) (z : D) (Q : VK), w.Ok K → Rep K P w x d → Reps K P w vs es → g w.S d es = some z → (∀ w' v, Ext w w' → w'.S = w.S → w'.Ok K → Rep K P w' v z → Q v w'.H) → r x vs w.H Q
theorem fe_methL {r : V → List V → Hp → VK → Prop} {g : Sto → D → List D → Option D} {name : Str} {id : String} {apos cpos : Pos} (hm : MtR X id r) (hs : SimMR X.K P r g) (slot : Slot "list" name id) (hty : typeOf (.builtin id) = pure (.type "method_descriptor")) (ho : FE X P W a fa) (ha : FA X P W (b :: es) fs)
    (hbase : attributeBase a name X.env (eval a X.env) = eval a X.env := by rfl)
    (hfew : ((backTo cpos (starEach (b :: es) X.env)).all (fun x => !x.1) && (backToKw cpos (keywordEach [] X.env)).all (fun x => x.1.isSome)
      && decide ((b :: es).length + ([] : List Keyword).length + (if ([] : List Keyword).isEmpty then 0 else 1) < 30)) = true := by rfl)
    (hline : (apos.endLine == cpos.line) = true := by rfl) (hst : starEach (b :: es) X.env = (false, eval b X.env) :: starEach es X.env := by rfl) (hplain : (backTo cpos (starEach es X.env)).any (·.1) = false := by rfl) :
    FE X P W (.Call (.Attribute a name apos) (b :: es) [] cpos) (fMethL g fa fs) := by
  refine peI (pe_bm PySem.F.plainAttrs_list slot hty hm ho ha hbase hfew hline hst hplain) fun σ H Q ⟨w, env, hH, o, en, p⟩ => ?_
  subst hH
  refine re_bind o en p fun w1 x d e1 o1 en1 r1 p1 => ?_
  cases h1 : lisOf w1.S d with
  | none => rw [h1] at p1; exact p1.elim
  | some ds =>
    rw [h1] at p1
    obtain ⟨a, xs, rfl, hl, _⟩ := lis_of o1 r1 h1
    refine ⟨.inl ⟨rfl, xs, hl⟩, ra_bind o1 en1 p1 fun w2 xs ds e2 o2 en2 r2 p2 => ?_⟩
    obtain ⟨z, hz, q⟩ := p2.of
    exact hs w2 _ xs d ds z Q o2 (r1.to e2) r2 hz fun w' v e' s' o' r' => q w' e' s' o' v r'
def D.flat : D → Bool
  | .non => true
  | .bl _ => true
  | .int _ => true
  | .str _ => true
  | _ => false
def eqD : D → D → Bool
  | .non, .non => true
  | .bl a, .bl b => a == b
  | .bl a, .int b => (if a then 1 else 0) == b
  | .int a, .bl b => a == (if b then 1 else 0)
  | .int a, .int b => a == b
  | .str a, .str b => a == b
  | _, _ => false
theorem flat_ok {w : Vw} {v : V} {d : D} (r : Rep K P w v d) (f : d.flat = true) : flatV v = true := by
  cases r <;> first | rfl | exact absurd f Bool.false_ne_true
theorem eqD_ok {w : Vw} {v u : V} {d e : D} (r : Rep K P w v d) (q : Rep K P w u e) (f : d.flat = true) (f' : e.flat = true) : eqV v u = eqD d e := by
  cases r <;> first | (cases q <;> first | rfl | exact absurd f' Bool.false_ne_true) | exact absurd f Bool.false_ne_true
theorem flats_ok {w : Vw} : ∀ {vs : List V} {ds : List D}, Reps K P w vs ds → ds.all D.flat = true → vs.all flatV = true
  | _, _, .nil, _ => rfl
  | _, _, .cons h t, f => by
    rw [List.all_cons, Bool.and_eq_true] at f
    rw [List.all_cons, flat_ok h f.1, flats_ok t f.2]
    rfl
theorem countP_ok {w : Vw} {u : V} {e : D} (q : Rep K P w u e) (f' : e.flat = true) : ∀ {vs : List V} {ds : List D}, Reps K P w vs ds → ds.all D.flat = true → vs.countP (fun y => eqV y u) = ds.countP fun d => eqD d e
  | _, _, .nil, _ => rfl
  | _, _, .cons h t, f => by
    rw [List.all_cons, Bool.and_eq_true] at f
    rw [List.countP_cons, List.countP_cons, eqD_ok h q f.1 f', countP_ok q f' t f.2]
theorem any_ok {w : Vw} {u : V} {e : D} (q : Rep K P w u e) (f' : e.flat = true) : ∀ {vs : List V} {ds : List D}, Reps K P w vs ds → ds.all D.flat = true → inV u vs = ds.any fun d => eqD d e
  | _, _, .nil, _ => rfl
  | _, _, .cons h t, f => by
    rw [List.all_cons, Bool.and_eq_true] at f
    have ih := any_ok q f' t f.2
    unfold inV at ih ⊢
    rw [List.any_cons, List.any_cons, eqD_ok h q f.1 f', ih]
def gCount : Sto → D → List D → Option D := fun S d es => match es with
  | [e] => (lisOf S d).bind fun ds => if (e.flat && ds.all D.flat) = true then some (.int (ds.countP fun d => eqD d e : Nat)) else none
  | _ => none
theorem sim_count : SimMR K P (rCntF K) gCount := by
  intro w x vs d es z Q o r rr e k
  cases rr with
  | nil => cases e
  | cons a t =>
    cases t with
    | cons _ _ => cases e
    | nil =>
      rename_i u e1
      have e : ((lisOf w.S d).bind fun ds => if (e1.flat && ds.all D.flat) = true then some (D.int (ds.countP fun d => eqD d e1 : Nat)) else none) = some z := e
      cases g : lisOf w.S d with
      | none => rw [g] at e; cases e
      | some ds =>
        rw [g] at e
        have e : (if (e1.flat && ds.all D.flat) = true then some (D.int (ds.countP fun d => eqD d e1 : Nat)) else none) = some z := e
        by_cases h : (e1.flat && ds.all D.flat) = true
        · rw [if_pos h] at e
          cases e
          obtain ⟨h1, h2⟩ := Bool.and_eq_true_iff.mp h
          obtain ⟨p, xs, rfl, hl, rl⟩ := lis_of o r g
          refine ⟨p, xs, u, rfl, rfl, hl, flat_ok a h1, flats_ok rl h2, ?_⟩
          rw [countP_ok a h1 rl h2]
          exact k w _ (Ext.refl w) rfl o (.int _)
        · rw [if_neg h] at e
          cases e
def gIn (neg : Bool) : Sto → D → D → Option D := fun S e d => (seqOf S d).bind fun ds => if (e.flat && ds.all D.flat) = true then some (.bl (if neg then !(ds.any fun d => eqD d e) else ds.any fun d => eqD d e)) else none
theorem sim_in {neg : Bool} : Sim2 K P (rIn K neg) (gIn neg) := by
  intro w x y e d z Q o r1 r2 q k
  have q : ((seqOf w.S d).bind fun ds => if (e.flat && ds.all D.flat) = true then some (D.bl (if neg then !(ds.any fun d => eqD d e) else ds.any fun d => eqD d e)) else none) = some z := q
  cases g : seqOf w.S d with
  | none => rw [g] at q; cases q
  | some ds =>
    rw [g] at q
    have q : (if (e.flat && ds.all D.flat) = true then some (D.bl (if neg then !(ds.any fun d => eqD d e) else ds.any fun d => eqD d e)) else none) = some z := q
    by_cases h : (e.flat && ds.all D.flat) = true
    · rw [if_pos h] at q
      cases q
      obtain ⟨h1, h2⟩ := Bool.and_eq_true_iff.mp h
      obtain ⟨p, xs, rfl, hl, rl⟩ := seq_of o r2 g
      refine ⟨p, xs, rfl, hl, flat_ok r1 h1, flats_ok rl h2, ?_⟩
      rw [any_ok r1 h1 rl h2]
      exact k w _ (Ext.refl w) rfl o (.bl _)
    · rw [if_neg h] at q
      cases q
end
end FL
set_option maxRecDepth 100000
set_option maxHeartbeats 2000000
namespace FL
open PySem PySem.Spec PyProof.Rows L2
section
variable {X : Cx} {K : PySem.W.Frag} {P : Pn} {W : WX} {a b e o i : Expr} {es : List Expr} {fa fb fo fi : F} {fs : Fa} {pos p : Pos}
/-! ### o[i] = e, o a cell -/
def setAt (d x j : D) (S : Sto) : Option Sto := match locL S x, j with
  | some (m, xs), .int k => (ixN xs.length k).map fun j => S.set m (.lst (xs.set j d))
  | _, _ => none
def sSetI (f fo fi : F) : SF := fun env S => (f env S).bindS env fun d S1 => (fo env S1).bindS env fun x S2 => (fi env S2).bindS env fun j S3 => match setAt d x j S3 with
  | some S4 => .fl (.nx env) S4
  | none => .bad
theorem fs_seti {tpos : Pos} (hpn : P = []) (he : FE X P W e fa) (ho : FE X P W o fo) (hi : FE X P W i fi)
    (ha : ∀ v, assign (.Subscript o i tpos) X.env v = (do
      let ov ← holding [v] (eval o X.env)
      let iv ← holding [v, ov] (eval i X.env)
      standAt tpos
      holding [v, ov, iv] (setItem ov iv v)
      release [v, ov, iv] []) := by intro _; rfl)
    (hs : swapsWithSole [.Subscript o i tpos] e pos.line X.env = pure false := by rfl) (hw : swappedStores [.Subscript o i tpos] e X.env = pure none := by rfl)
    (h1 : (assignEach [.Subscript o i tpos] X.env).map (·.2) = [assign (.Subscript o i tpos) X.env] := by rfl) : FS X P W (.Assign [.Subscript o i tpos] e pos) (sSetI fa fo fi) := by
  subst hpn
  refine psI (ps_asg he (pg_sub ho hi set_list ha) hs hw h1) fun D σ H ⟨w, env, hH, ok, en, p⟩ => ?_
  subst hH
  refine rs_bind ok en p fun w1 v d e1 o1 en1 r1 p1 => ?_
  refine rs_bind o1 en1 p1 fun w2 x dx e2 o2 en2 r2 p2 => ?_
  refine rs_bind o2 en2 p2 fun w3 j dj e3 o3 en3 r3 p3 => ?_
  unfold setAt at p3
  cases g : locL w3.S dx with
  | none => rw [g] at p3; exact p3.elim
  | some q =>
    obtain ⟨m, xs⟩ := q
    rw [g] at p3
    obtain ⟨rfl, rfl, hm, us, hu, ru⟩ := loc_of o3 (r2.to e3) g
    cases r3 with
    | int k =>
      have p3 : PostS X.K [] w3 (match (ixN xs.length k).map fun j => w3.S.set m (.lst (xs.set j d)) with
        | some S4 => .fl (.nx env) S4
        | none => .bad) D W := p3
      cases g2 : ixN xs.length k with
      | none => rw [g2] at p3; exact p3.elim
      | some j =>
        rw [g2] at p3
        refine ⟨_, us, k, j, rfl, rfl, hu, by rw [ru.length]; exact g2, ?_⟩
        have rd := (r1.to e2).to e3
        have r4 : Reps X.K [] w3 (us.set j v) (xs.set j d) := Reps.set rd j ru
        obtain ⟨e4, o4⟩ := mut_fin (K := X.K) o3 hm r4
        exact p3 (w3.st m (.lst (us.set j v)) (.lst (xs.set j d))) σ e4 rfl o4 (en3.to e4)
    | _ => exact p3.elim
/-! ### a, b = .. -/
abbrev TGfs := List D → Env → Sto → Option Env
def RGs (K : PySem.W.Frag) (pn : Pn) (g : TGfs) : TGs := fun vs σ H Q => ∃ w env ds env', w.H = H ∧ w.Ok K ∧ EnvOk K pn w σ env ∧ Reps K pn w vs ds ∧ g ds env w.S = some env' ∧ ∀ w' σ', Ext w w' → w'.S = w.S → w'.Ok K → EnvOk K pn w' σ' env' → Q σ' w'.H
def FGs (X : Cx) (P : Pn) (ts : List Expr) (g : TGfs) : Prop := PGs X ts (RGs X.K P g)
theorem pgsI {es : List Expr} {t t' : TGs} (h : PGs X es t) (i : ∀ v σ H Q, t' v σ H Q → t v σ H Q) : PGs X es t' := ⟨fun pins s σ H v u Q I r q => h.run pins s σ H v u Q I r (i _ _ _ _ q)⟩
def gsNil : TGfs := fun ds env _ => match ds with
  | [] => some env
  | _ => none
def gsCons (g : TGf) (h : TGfs) : TGfs := fun ds env S => match ds with
  | d :: ds => (g d env S).bind fun env' => h ds env' S
  | [] => none
theorem fgs_nil : FGs X P [] gsNil := pgsI pgs_nil fun vs σ H Q ⟨w, env, ds, env', hH, ok, en, r, g, q⟩ => by
  subst hH
  cases r with
  | nil =>
    cases g
    exact ⟨rfl, q w σ (Ext.refl w) rfl ok en⟩
  | cons _ _ => cases g
theorem fgs_cons {g : TGf} {h : TGfs} (h1 : FG X P e g) (h2 : FGs X P es h) (hs : (assignEach (e :: es) X.env).map (·.2) = assign e X.env :: (assignEach es X.env).map (·.2) := by rfl) : FGs X P (e :: es) (gsCons g h) :=
  pgsI (pgs_cons h1 h2 hs) fun vs σ H Q ⟨w, env, ds, env', hH, ok, en, r, q, k⟩ => by
    subst hH
    cases r with
    | nil => cases q
    | @cons v d vs ds r1 r2 =>
      have q : (g d env w.S).bind (fun env' => h ds env' w.S) = some env' := q
      cases g1 : g d env w.S with
      | none => rw [g1] at q; cases q
      | some env1 =>
        rw [g1] at q
        refine ⟨v, vs, rfl, w, env, d, env1, rfl, ok, en, r1, g1, fun w' σ' e' s' o' en' => ⟨w', env1, ds, env', rfl, o', en', r2.to e', by rw [s']; exact q, fun w2 σ2 e2 s2 o2 en2 => k w2 σ2 (e'.trans e2) (s2.trans s') o2 en2⟩⟩
def gTupF (n : Nat) (g : TGfs) : TGf := fun d env S => (seqOf S d).bind fun ds => if ds.length = n then g ds env S else none
theorem fg_tup {k n : Nat} {g : TGfs} (hc : X.calm = true) (h : FGs X P es g) (hn : (assignEach es X.env).length = n := by rfl) (hst : (assignEach es X.env).findIdx? (·.1) = none := by rfl) : FG X P (.Tuple es k pos) (gTupF n g) := by
  have both : PG X (.Tuple es k pos) (fun v σ H Q => gTup X.K n (RGs X.K P g) v σ H Q ∨ gUnl X.K n (RGs X.K P g) v σ H Q) := ⟨fun pins s σ H v u Q I r q => by
    rcases q with q | q
    · exact (pg_tup hc h hn hst).run pins s σ H v u Q I r q
    · exact (pg_unl hc h hn hst).run pins s σ H v u Q I r q⟩
  refine pgI both fun v σ H Q ⟨w, env, d, env', hH, ok, en, r, q, kk⟩ => ?_
  subst hH
  have q : ((seqOf w.S d).bind fun ds => if ds.length = n then g ds env w.S else none) = some env' := q
  cases g1 : seqOf w.S d with
  | none => rw [g1] at q; cases q
  | some ds =>
    rw [g1] at q
    have q : (if ds.length = n then g ds env w.S else none) = some env' := q
    by_cases hl : ds.length = n
    · rw [if_pos hl] at q
      obtain ⟨a, xs, rfl, h1, rr⟩ := seq_of ok r g1
      have fin : RGs X.K P g xs σ w.H Q := ⟨w, env, ds, env', rfl, ok, en, rr, q, kk⟩
      rcases h1 with h1 | h1
      · exact .inr ⟨a, xs, rfl, h1, rr.length.trans hl, fin⟩
      · exact .inl ⟨a, xs, rfl, h1, rr.length.trans hl, fin⟩
    · rw [if_neg hl] at q
      cases q
/-! ### a op= e at a name -/
def sAug (i : Nat) (g : Sto → D → D → Option D) (f : F) : SF := fun env S => match env[i]? with
  | some (some d) => (f env S).bindS env fun y S1 => (R.of (g S1 d y) S1).bindS env fun z S2 => .fl (.nx (env.set i (some z))) S2
  | _ => .bad
theorem fs_aug {n : Nat} {x : Str} {op : Operator} {r : R2} {g : Sto → D → D → Option D} {pos' : Pos} (hN : X.N.Nodup) (hi : X.N[n]? = some x) (hx : Loc X.env.scope x) (he : FE X P W e fa) (ho : OpR X (inplaceOp op) r) (hg : Sim2 X.K P r g)
    (hf : X.fn x = true ∨ X.env.scope.names.lookup x = some .local := by first | exact .inl rfl | exact .inr rfl | assumption) : FS X P W (.AugAssign (.Name x pos') op e pos) (sAug n g fa) :=
  psI (ps_aug (ti := r) hN hi hx he (fun pins s σ H x y v u Q I r1 r2 h => ho pins s σ H x y v u Q I r1 r2 h) hf) fun D σ H ⟨w, env, hH, ok, en, p⟩ => by
    subst hH
    unfold sAug at p
    cases g1 : env[n]? with
    | none => rw [g1] at p; exact p.elim
    | some od =>
      cases od with
      | none => rw [g1] at p; exact p.elim
      | some d =>
        rw [g1] at p
        obtain ⟨v, h1, h2⟩ := en.2 n d g1
        refine ⟨v, h1, rs_bind ok en p fun w1 y dy e1 o1 en1 r1 p1 => ?_⟩
        cases g2 : g w1.S d dy with
        | none => rw [g2] at p1; exact p1.elim
        | some z =>
          rw [g2] at p1
          exact hg w1 v y d dy z _ o1 (h2.to e1) r1 g2 fun w' u e' s' o' r' => p1 w' _ e' s' o' ((en1.to e').set r')
/-! ### what is walked -/
def srcOf (S : Sto) : D → Option Src
  | .tup ds => some (.fix ds)
  | .lst ds => some (.fix ds)
  | .fls ds => some (.fix ds)
  | .loc m => (Cell.lst? S[m]?).map fun _ => .cell m
  | .str x => some (.fix (x.cps.toList.map fun c => .str ⟨#[c]⟩))
  | _ => none
def iSeq (f : F) : Fi := fun env S => (f env S).bind fun d S1 => R.of (srcOf S1 d) S1
theorem walk_list {w : Vw} {a : Addr} {xs : List V} {ds : List D} (h : ∀ w', Ext w w' → w'.Ok K → SqL K w'.H a xs) (r : Reps K P w xs ds) : WalksS K P w (Itl K a) (.fix ds) := by
  intro w' e o i
  have q := h w' e o
  refine ⟨fun z => ?_, fun d z => ?_⟩
  · have z : ds[i]? = none := Option.some.inj z
    exact ⟨xs, q, by rw [r.length]; exact List.getElem?_eq_none_iff.mp z⟩
  · have z : ds[i]? = some d := Option.some.inj z
    obtain ⟨v, h1, h2⟩ := r.get z
    refine ⟨⟨xs, v, q, h1⟩, fun x H' y => ⟨w', y.1.symm, Ext.refl w', rfl, o, ?_⟩⟩
    have := y.2 xs q
    rw [h1] at this
    cases this
    exact h2.to e
theorem walk_tup {w : Vw} {a : Addr} {xs : List V} {ds : List D} (h : ∀ w', Ext w w' → w'.Ok K → SqT K w'.H a xs) (r : Reps K P w xs ds) : WalksS K P w (Itt K a) (.fix ds) := by
  intro w' e o i
  have q := h w' e o
  refine ⟨fun z => ?_, fun d z => ?_⟩
  · have z : ds[i]? = none := Option.some.inj z
    exact ⟨xs, q, by rw [r.length]; exact List.getElem?_eq_none_iff.mp z⟩
  · have z : ds[i]? = some d := Option.some.inj z
    obtain ⟨v, h1, h2⟩ := r.get z
    refine ⟨⟨xs, v, q, h1⟩, fun x H' y => ⟨w', y.1.symm, Ext.refl w', rfl, o, ?_⟩⟩
    have := y.2 xs q
    rw [h1] at this
    cases this
    exact h2.to e
theorem walk_cell {w : Vw} {m : Nat} (hm : m < w.S.length) : WalksS K P w (Itl K (w.ι m)) (.cell m) := by
  intro w' e o i
  have hi : w'.ι m = w.ι m := e.ι m hm
  refine ⟨fun z => ?_, fun d z => ?_⟩
  · have z : (Cell.lst? w'.S[m]?).map (fun ds => ds[i]?) = some none := z
    cases g : Cell.lst? w'.S[m]? with
    | none => rw [g] at z; cases z
    | some ds =>
      rw [g] at z
      have z : ds[i]? = none := Option.some.inj z
      obtain ⟨xs, h1, r⟩ := o.cell m _ (lst?_some g)
      rw [hi] at h1
      exact ⟨xs, SqL.of h1, by rw [r.length]; exact List.getElem?_eq_none_iff.mp z⟩
  · have z : (Cell.lst? w'.S[m]?).map (fun ds => ds[i]?) = some (some d) := z
    cases g : Cell.lst? w'.S[m]? with
    | none => rw [g] at z; cases z
    | some ds =>
      rw [g] at z
      have z : ds[i]? = some d := Option.some.inj z
      obtain ⟨xs, h1, r⟩ := o.cell m _ (lst?_some g)
      rw [hi] at h1
      obtain ⟨v, h2, h3⟩ := r.get z
      refine ⟨⟨xs, v, SqL.of h1, h2⟩, fun x H' y => ⟨w', y.1.symm, Ext.refl w', rfl, o, ?_⟩⟩
      have := y.2 xs (SqL.of h1)
      rw [h2] at this
      cases this
      exact h3.ext (Ext.refl w') (fun _ z => absurd z (by simp))
theorem walk_str {w : Vw} {x : Str} : WalksS K P w (Its x) (.fix (x.cps.toList.map fun c => .str ⟨#[c]⟩)) := by
  intro w' e o i
  refine ⟨fun z => ?_, fun d z => ?_⟩
  · have z : (x.cps.toList.map fun c => D.str ⟨#[c]⟩)[i]? = none := Option.some.inj z
    have := List.getElem?_eq_none_iff.mp z
    show x.cps.size ≤ i
    simpa using this
  · have z : (x.cps.toList.map fun c => D.str ⟨#[c]⟩)[i]? = some d := Option.some.inj z
    rw [List.getElem?_map] at z
    cases g : x.cps.toList[i]? with
    | none => rw [g] at z; cases z
    | some c =>
      rw [g] at z
      cases z
      have hi : i < x.cps.size := by simpa using (List.getElem?_eq_some_iff.mp g).1
      refine ⟨hi, fun v H' y => ⟨w', y.1.symm, Ext.refl w', rfl, o, ?_⟩⟩
      obtain ⟨c', h1, rfl⟩ := y.2
      have : x.cps[i]? = some c := by simpa using g
      rw [this] at h1
      cases h1
      exact .str _
theorem fi_seq {tg : Expr} (he : FE X P W e fa) : FI X P W tg e (iSeq fa) := by
  have both : PI X tg e (fun σ H R => iList X.K (RE X.K P W fa) σ H R ∨ (iTup X.K (RE X.K P W fa) σ H R ∨ iStr (RE X.K P W fa) σ H R)) := ⟨fun pins s σ H R I q => by
    rcases q with q | q | q
    · exact (pi_list he).run pins s σ H R I q
    · exact (pi_tup he).run pins s σ H R I q
    · exact (pi_str he).run pins s σ H R I q⟩
  refine piI both fun σ H R ⟨w, env, hH, ok, en, p⟩ => ?_
  subst hH
  -- which kind it is
  unfold iSeq at p
  cases q : fa env w.S with
  | bad => rw [q] at p; exact p.elim
  | exc C fs S1 =>
    rw [q] at p
    exact .inl ⟨w, env, rfl, ok, en, by rw [q]; exact p⟩
  | ok d S1 =>
    have p0 := p.bind
    rw [q] at p0
    have fin : ∀ (Q : VK), (∀ w1 v, Ext w w1 → w1.S = S1 → w1.Ok X.K → Rep X.K P w1 v d → (∃ s, srcOf w1.S d = some s ∧ ∀ J, WalksS X.K P w1 J s → R J w1.H) → Q v w1.H) → RE X.K P W fa σ w.H Q := fun Q k => by
      refine ⟨w, env, rfl, ok, en, ?_⟩
      rw [q]
      intro w1 e1 s1 o1 v r
      have p1 := p0 w1 e1 s1 o1
      obtain ⟨s, hs, q1⟩ := p1.of
      exact k w1 v e1 s1 o1 r ⟨s, hs, q1 w1 (Ext.refl w1) rfl o1⟩
    cases d with
    | lst ds =>
      refine .inl (fin _ fun w1 v e1 s1 o1 r ⟨s, hs, kk⟩ => ?_)
      cases hs
      cases r with
      | @lst a xs _ h r => exact ⟨a, rfl, ⟨xs, h.sq⟩, kk _ (walk_list (fun w' e' _ => (e'.lstV h).sq) r)⟩
    | fls ds =>
      refine .inl (fin _ fun w1 v e1 s1 o1 r ⟨s, hs, kk⟩ => ?_)
      cases hs
      cases r with
      | @fls a xs _ h r => exact ⟨a, rfl, ⟨xs, h.sq⟩, kk _ (walk_list (fun w' e' _ => (e'.lst h).sq) r)⟩
    | tup ds =>
      refine .inr (.inl (fin _ fun w1 v e1 s1 o1 r ⟨s, hs, kk⟩ => ?_))
      cases hs
      cases r with
      | @tup a xs _ h r => exact ⟨a, rfl, ⟨xs, h.sq⟩, kk _ (walk_tup (fun w' e' _ => (e'.tup h).sq) r)⟩
    | loc m =>
      refine .inl (fin _ fun w1 v e1 s1 o1 r ⟨s, hs, kk⟩ => ?_)
      have hs : (Cell.lst? w1.S[m]?).map (fun _ => Src.cell m) = some s := hs
      cases g : Cell.lst? w1.S[m]? with
      | none => rw [g] at hs; cases hs
      | some ds =>
        rw [g] at hs
        cases hs
        cases r with
        | loc h =>
          obtain ⟨xs, h1, _⟩ := o1.cell m _ (lst?_some g)
          exact ⟨_, rfl, ⟨xs, SqL.of h1⟩, kk _ (walk_cell h)⟩
    | str x =>
      refine .inr (.inr (fin _ fun w1 v e1 s1 o1 r ⟨s, hs, kk⟩ => ?_))
      cases hs
      cases r with
      | str => exact ⟨x, rfl, kk _ walk_str⟩
    | _ =>
      refine .inl (fin _ fun w1 v e1 s1 o1 r ⟨s, hs, kk⟩ => ?_)
      cases hs
/-! ranges -/
def rngD (lo : Int) (n : Nat) : List D := (List.range n).map fun i : Nat => .int (lo + (i : Int))
theorem rngD_get {lo : Int} {n i : Nat} {d : D} (h : (rngD lo n)[i]? = some d) : i < n ∧ d = .int (lo + i) := by
  unfold rngD at h
  rw [List.getElem?_map] at h
  cases g : (List.range n)[i]? with
  | none => rw [g] at h; cases h
  | some j =>
    rw [g] at h
    cases h
    have h1 := List.getElem?_eq_some_iff.mp g
    obtain ⟨h2, h3⟩ := h1
    rw [List.getElem_range] at h3
    subst h3
    exact ⟨by simpa using h2, rfl⟩
theorem walk_rng {w : Vw} {lo : Int} {n : Nat} : WalksS K P w (Itr lo n) (.fix (rngD lo n)) := by
  intro w' e o i
  refine ⟨fun z => ?_, fun d z => ?_⟩
  · have z : (rngD lo n)[i]? = none := Option.some.inj z
    have := List.getElem?_eq_none_iff.mp z
    show n ≤ i
    simpa [rngD] using this
  · have z : (rngD lo n)[i]? = some d := Option.some.inj z
    obtain ⟨h1, rfl⟩ := rngD_get z
    exact ⟨h1, fun v H' y => ⟨w', y.1.symm, Ext.refl w', rfl, o, by rw [y.2]; exact .int _⟩⟩
def smallI (i : Int) : Bool := decide (-(2 ^ 62) ≤ i ∧ i < 2 ^ 62)
def gRng1 : List D → Option Src
  | [.int j] => if smallI j = true then some (.fix (rngD 0 j.toNat)) else none
  | _ => none
def gRng2 : List D → Option Src
  | [.int i, .int j] => if (smallI i && smallI j) = true then some (.fix (rngD i (j - i).toNat)) else none
  | _ => none
def iRng (g : List D → Option Src) (f : Fa) : Fi := fun env S => (f env S).bind fun ds S1 => R.of (g ds) S1
theorem fi_range1 {tg : Expr} (hg : Gl X "range") (hm : X.mg "range" = none) (ha : FA X P W [a] fs) (hs : starEach [a] X.env = [(false, eval a X.env)] := by rfl) : FI X P W tg (.Call (.Name "range" p) [a] [] pos) (iRng gRng1 fs) :=
  piI (pi_range1 hg hm ha hs) fun σ H R ⟨w, env, hH, ok, en, pp⟩ => by
    subst hH
    refine ra_bind ok en pp fun w1 vs ds e1 o1 en1 r1 p1 => ?_
    obtain ⟨s, hs, k⟩ := p1.of
    have k := k w1 (Ext.refl w1) rfl o1
    cases r1 with
    | nil => cases hs
    | cons h t =>
      cases t with
      | cons h2 t => cases h <;> cases hs
      | nil =>
        cases h with
        | int j =>
          have hs : (if smallI j = true then some (Src.fix (rngD 0 j.toNat)) else none) = some s := hs
          by_cases hj : smallI j = true
          · rw [if_pos hj] at hs
            cases hs
            obtain ⟨h1, h2⟩ := of_decide_eq_true hj
            exact ⟨j, rfl, h1, h2, k _ walk_rng⟩
          · rw [if_neg hj] at hs
            cases hs
        | _ => cases hs
theorem fi_range2 {tg : Expr} (hg : Gl X "range") (hm : X.mg "range" = none) (ha : FA X P W [a, b] fs) (hs : starEach [a, b] X.env = [(false, eval a X.env), (false, eval b X.env)] := by rfl) (hs2 : starEach [b] X.env = [(false, eval b X.env)] := by rfl) : FI X P W tg (.Call (.Name "range" p) [a, b] [] pos) (iRng gRng2 fs) :=
  piI (pi_range2 hg hm ha hs hs2) fun σ H R ⟨w, env, hH, ok, en, pp⟩ => by
    subst hH
    refine ra_bind ok en pp fun w1 vs ds e1 o1 en1 r1 p1 => ?_
    obtain ⟨s, hs, k⟩ := p1.of
    have k := k w1 (Ext.refl w1) rfl o1
    cases r1 with
    | nil => cases hs
    | cons h t =>
      cases t with
      | nil => cases h <;> cases hs
      | cons h2 t =>
        cases t with
        | cons h3 t => cases h <;> cases h2 <;> cases hs
        | nil =>
          cases h with
          | int i =>
            cases h2 with
            | int j =>
              have hs : (if (smallI i && smallI j) = true then some (Src.fix (rngD i (j - i).toNat)) else none) = some s := hs
              by_cases hj : (smallI i && smallI j) = true
              · rw [if_pos hj] at hs
                cases hs
                obtain ⟨q1, q2⟩ := Bool.and_eq_true_iff.mp hj
                obtain ⟨h1, h2⟩ := of_decide_eq_true q1
                obtain ⟨h3, h4⟩ := of_decide_eq_true q2
                exact ⟨i, j, rfl, ⟨h1, h2, h3, h4⟩, k _ walk_rng⟩
              · rw [if_neg hj] at hs
                cases hs
            | _ => cases hs
          | _ => cases h2 <;> cases hs
end
/-! ### comprehensions -/
section
variable {K : PySem.W.Frag} {P : Pn} {w : Vw}
abbrev Vw.z (w : Vw) (Z : List Addr) : Vw := { w with Z := Z }
theorem unz_mut {Z0 : List Addr} (h : ∀ z ∈ Z0, z ∈ w.Z) {a : Addr} (n : ¬ w.mut a) : ¬ (w.z Z0).mut a := fun q => n (q.imp id (h a))
mutual
theorem Rep.unz {Z0 : List Addr} (hz : ∀ z ∈ Z0, z ∈ w.Z) : ∀ {v : V} {d : D}, Rep K P w v d → Rep K P (w.z Z0) v d
  | _, _, .non => .non
  | _, _, .bl b => .bl b
  | _, _, .int i => .int i
  | _, _, .str x => .str x
  | _, _, .ty n => .ty n
  | _, _, .ref a => .ref a
  | _, _, .tup h r => .tup (h.imp (fun h => ⟨h.1, unz_mut hz h.2⟩) id) (Reps.unz hz r)
  | _, _, .lst h r => .lst ⟨h.1, unz_mut hz h.2⟩ (Reps.unz hz r)
  | _, _, .fls h r => .fls (h.imp (fun h => ⟨h.1, unz_mut hz h.2⟩) id) (Reps.unz hz r)
  | _, _, .loc h => Rep.loc (w := w.z Z0) h
  | _, _, .obj h n r => .obj h (unz_mut hz n) (RepF.unz hz r)
  | _, _, .exn0 h hz hf => .exn0 h hz hf
  | _, _, .exn h hc hf hd n r => .exn h hc hf hd (unz_mut hz n) (RepF.unz hz r)
theorem Reps.unz {Z0 : List Addr} (hz : ∀ z ∈ Z0, z ∈ w.Z) : ∀ {v : List V} {d : List D}, Reps K P w v d → Reps K P (w.z Z0) v d
  | _, _, .nil => .nil
  | _, _, .cons h t => .cons (Rep.unz hz h) (Reps.unz hz t)
theorem RepF.unz {Z0 : List Addr} (hz : ∀ z ∈ Z0, z ∈ w.Z) : ∀ {v : List (Str × V)} {d : List (Str × D)}, RepF K P w v d → RepF K P (w.z Z0) v d
  | _, _, .nil => .nil
  | _, _, .cons h t => .cons (Rep.unz hz h) (RepF.unz hz t)
end
theorem Vw.Ok.unz {Z0 : List Addr} (o : w.Ok K) (hz : ∀ z ∈ Z0, z ∈ w.Z) : (w.z Z0).Ok K where
  inj := o.inj
  hz := fun z h => o.hz z (hz z h)
  hzl := fun m hm h => o.hzl m hm (hz _ h)
  cell := fun m c h => by
    have q := o.cell m c h
    cases c with
    | lst ds => obtain ⟨xs, h, r⟩ := q; exact ⟨xs, h, r.unz hz⟩
    | ins C gs => obtain ⟨dx, fs, h, r⟩ := q; exact ⟨dx, fs, h, r.unz hz⟩
/-- the hidden object changes -/
theorem zu_rd {D0 : Addr} {u o : HO} {a : Addr} (hD : D0 ∈ w.Z) (h : Rd w.H a o ∧ ¬ w.mut a) : Rd (upd w.H D0 u) a o ∧ ¬ (w.nu D0 u).mut a := by
  have ne : a ≠ D0 := fun e => h.2 (.inr (by rw [e]; exact hD))
  refine ⟨?_, h.2⟩
  rcases h.1 with g | ⟨x, g⟩
  · exact .inl ((upd_ne ne).trans g)
  · exact .inr ⟨x, (upd_ne ne).trans g⟩
mutual
theorem Rep.zu {D0 : Addr} {u : HO} (hD : D0 ∈ w.Z) : ∀ {v : V} {d : D}, Rep K P w v d → Rep K P (w.nu D0 u) v d
  | _, _, .non => .non
  | _, _, .bl b => .bl b
  | _, _, .int i => .int i
  | _, _, .str x => .str x
  | _, _, .ty n => .ty n
  | _, _, .ref a => .ref a
  | _, _, .tup h r => .tup (h.imp (zu_rd hD) id) (Reps.zu hD r)
  | _, _, .lst h r => .lst ⟨(upd_ne (fun e => h.2 (.inr (by rw [e]; exact hD)))).trans h.1, h.2⟩ (Reps.zu hD r)
  | _, _, .fls h r => .fls (h.imp (zu_rd hD) id) (Reps.zu hD r)
  | _, _, .loc h => Rep.loc (w := w.nu D0 u) h
  | _, _, .obj h n r => .obj ((upd_ne (fun e => n (.inr (by rw [e]; exact hD)))).trans h) n (RepF.zu hD r)
  | _, _, .exn0 h hz hf => .exn0 h hz hf
  | _, _, .exn h hc hf hd n r => .exn h hc hf ((upd_ne (fun e => n (.inr (by rw [e]; exact hD)))).trans hd) n (RepF.zu hD r)
theorem Reps.zu {D0 : Addr} {u : HO} (hD : D0 ∈ w.Z) : ∀ {v : List V} {d : List D}, Reps K P w v d → Reps K P (w.nu D0 u) v d
  | _, _, .nil => .nil
  | _, _, .cons h t => .cons (Rep.zu hD h) (Reps.zu hD t)
theorem RepF.zu {D0 : Addr} {u : HO} (hD : D0 ∈ w.Z) : ∀ {v : List (Str × V)} {d : List (Str × D)}, RepF K P w v d → RepF K P (w.nu D0 u) v d
  | _, _, .nil => .nil
  | _, _, .cons h t => .cons (Rep.zu hD h) (RepF.zu hD t)
end
theorem Vw.Ok.zu {D0 : Addr} {u : HO} (o : w.Ok K) (hD : D0 ∈ w.Z) : (w.nu D0 u).Ok K where
  inj := o.inj
  hz := fun z h => by
    by_cases e : z = D0
    · subst e
      exact ⟨u, upd_same⟩
    · obtain ⟨x, hx⟩ := o.hz z h
      exact ⟨x, (upd_ne e).trans hx⟩
  hzl := o.hzl
  cell := fun m c h => by
    have q := o.cell m c h
    have ne : w.ι m ≠ D0 := fun e => o.hzl m (List.getElem?_eq_some_iff.mp h).1 (by rw [e]; exact hD)
    cases c with
    | lst ds => obtain ⟨xs, h, r⟩ := q; exact ⟨xs, (upd_ne ne).trans h, r.zu hD⟩
    | ins C gs => obtain ⟨dx, fs, h, r⟩ := q; exact ⟨dx, fs, (upd_ne ne).trans h, r.zu hD⟩
/-- a new object that is hidden -/
theorem hide_ext {D0 : Addr} {u : HO} (h : w.H D0 = none) : Ext w ((w.nu D0 u).z (D0 :: w.Z)) :=
  ⟨Nat.le_refl _, fun _ _ => rfl, fun m h1 h2 => absurd h2 (Nat.not_lt.mpr h1), ⟨fun z hz => List.mem_cons_of_mem _ hz, fun z hz => by
    rcases List.mem_cons.mp hz with e | hz
    · exact .inr (by rw [e]; exact h)
    · exact .inl hz⟩, fun a o q _ => (upd_ne (ne_of_none q h)).trans q, fun a o q => ⟨o, (upd_ne (ne_of_none q h)).trans q⟩⟩
theorem hide_ok {D0 : Addr} {u : HO} (o : w.Ok K) (h : w.H D0 = none) : ((w.nu D0 u).z (D0 :: w.Z)).Ok K where
  inj := o.inj
  hz := fun z hz => by
    rcases List.mem_cons.mp hz with e | hz
    · rw [e]; exact ⟨u, upd_same⟩
    · obtain ⟨x, hx⟩ := o.hz z hz
      exact ⟨x, (upd_ne (ne_of_none hx h)).trans hx⟩
  hzl := fun m hm hz => by
    rcases List.mem_cons.mp hz with e | hz
    · exact o.fresh h (.inl ⟨m, hm, e⟩)
    · exact o.hzl m hm hz
  cell := fun m c q => by
    obtain ⟨x, hx, _⟩ := (o.cell m c q).live
    exact (o.cell m c q).ext (hide_ext h) (upd_ne (ne_of_none hx h))
/-- the later view with the hidden objects of the elder one alone -/
theorem Ext.unz {w1 w2 : Vw} (e : Ext w1 w2) : Ext w1 (w2.z w1.Z) := ⟨e.len, e.ι, e.new, ⟨fun _ h => h, fun _ h => .inl h⟩, e.keep, e.live⟩
theorem Ext.zu {w1 w2 : Vw} {D0 : Addr} {u : HO} (e : Ext w1 w2) (hn : w1.H D0 = none) : Ext w1 (w2.nu D0 u) :=
  ⟨e.len, e.ι, e.new, e.Z, fun a o h n => (upd_ne (ne_of_none h hn)).trans (e.keep a o h n), fun a o h => by
    obtain ⟨o', h'⟩ := e.live a o h
    exact ⟨o', (upd_ne (ne_of_none h hn)).trans h'⟩⟩
end
/-- the turns of a comprehension -/
def lcS (s : Src) (body : D → Sto → R (Option D)) : Nat → Nat → List D → Sto → R (List D)
  | fuel, i, acc, S => match s.next S i with
    | none => .bad
    | some none => .ok acc S
    | some (some d) => match fuel with
      | 0 => .bad
      | fuel + 1 => (body d S).bind fun o S1 => match o with
        | some z => if acc.length < sizeLine then lcS s body fuel (i + 1) (acc ++ [z]) S1 else .bad
        | none => lcS s body fuel (i + 1) acc S1
def wipeE (env : Env) : List Nat → Env
  | [] => env
  | v :: vs => (wipeE env vs).set v none
theorem wipeE_ok {K : PySem.W.Frag} {P : Pn} {w : Vw} {σ : St} {env : Env} (en : EnvOk K P w σ env) : ∀ vs, EnvOk K P w (wipe σ vs) (wipeE env vs)
  | [] => en
  | v :: vs => (wipeE_ok en vs).drop1
def R.noX {α : Type} : R α → R α
  | .ok a S => .ok a S
  | _ => .bad
def lcBody (g : TGf) (ft : Ft) (fe : F) (env : Env) : D → Sto → R (Option D) := fun d S => match g d env S with
  | some env' => (ft env' S).noX.bind fun b S1 => if b = true then (fe env' S1).noX.bind fun z S2 => .ok (some z) S2 else .ok none S1
  | none => .bad
def Src.fuel (S : Sto) : Src → Nat
  | .fix ds => ds.length
  | .cell m => ((Cell.lst? S[m]?).getD []).length
/-- the items of [fe for g in fi if ft] -/
def fLcA (fi : Fi) (g : TGf) (ft : Ft) (fe : F) (vs : List Nat) : Fa := fun env S => (fi env S).bind fun s S1 => lcS s (lcBody g ft fe (wipeE env vs)) (s.fuel S1) 0 [] S1
def fLc (fi : Fi) (g : TGf) (ft : Ft) (fe : F) (vs : List Nat) : F := fun env S => (fLcA fi g ft fe vs env S).bind fun ds S1 => .ok (.lst ds) S1
def fLcL (fi : Fi) (g : TGf) (ft : Ft) (fe : F) (vs : List Nat) : F := fun env S => (fLcA fi g ft fe vs env S).bind fun ds S1 => .ok (.loc S1.length) (S1 ++ [.lst ds])
abbrev WF : WX := fun _ _ _ _ => False
theorem Post.to {K : PySem.W.Frag} {α : Type} {w w1 : Vw} {r : R α} {P : Vw → α → Prop} {W : Vw → Addr → List (Str × D) → Prop} (h : Post K w r P W) (e : Ext w w1) : Post K w1 r P W := by
  cases r with
  | ok a S => exact fun w' e' => h w' (e.trans e')
  | exc C fs S => exact fun w' e' => h w' (e.trans e')
  | bad => exact h
def FTs (X : Cx) (P : Pn) (W : WX) (ifs : List Expr) (f : Ft) : Prop := PTs X ifs (RT X.K P W f)
def fYes : Ft := fun _ S => .ok true S
theorem fts_nil {X : Cx} {P : Pn} {W : WX} : FTs X P W [] fYes := ⟨fun pins s σ H Q I ⟨w, env, hH, o, en, p⟩ => by
  subst hH
  exact pts_nil.run pins s σ w.H Q I (Post.ret (a := true) o p)⟩
theorem fts_one {X : Cx} {P : Pn} {W : WX} {c : Expr} {f : Ft} (h : FT X P W c f) : FTs X P W [c] f := pts_one h
theorem wipe_get {σ : St} {j : Nat} : ∀ {vs : List Nat}, (wipe σ vs)[j]? = if j ∈ vs then (if j < σ.length then some none else none) else σ[j]?
  | [] => by simp [wipe]
  | v :: vs => by
    have ih := wipe_get (σ := σ) (j := j) (vs := vs)
    unfold wipe
    by_cases e : v = j
    · subst e
      by_cases hl : v < σ.length
      · rw [List.getElem?_set_self (by rw [wipe_length]; exact hl)]
        simp [hl]
      · rw [List.getElem?_eq_none (by rw [List.length_set, wipe_length]; omega)]
        simp [hl]
    · rw [List.getElem?_set_ne e, ih]
      simp [Ne.symm e]
theorem wipe_set {σ : St} {i : Nat} {x : Option V} {vs : List Nat} (h : i ∈ vs) : wipe (σ.set i x) vs = wipe σ vs := by
  refine List.ext_getElem? fun j => ?_
  rw [wipe_get, wipe_get]
  by_cases hj : j ∈ vs
  · simp [hj]
  · rw [if_neg hj, if_neg hj, List.getElem?_set_ne (fun e => hj (by rw [← e]; exact h))]
theorem wipe_idem {σ : St} {vs : List Nat} : wipe (wipe σ vs) vs = wipe σ vs := by
  refine List.ext_getElem? fun j => ?_
  rw [wipe_get, wipe_get]
  by_cases hj : j ∈ vs
  · simp [hj, wipe_length]
  · rw [if_neg hj, if_neg hj]
/-- targets of a comprehension: its own slots -/
def RGv (K : PySem.W.Frag) (pn : Pn) (vs : List Nat) (g : TGf) : TG := fun v σ H Q => ∃ w env d env', w.H = H ∧ w.Ok K ∧ EnvOk K pn w σ env ∧ Rep K pn w v d ∧ g d env w.S = some env' ∧ ∀ w' σ', Ext w w' → w'.S = w.S → w'.Ok K → EnvOk K pn w' σ' env' → wipe σ' vs = wipe σ vs → Q σ' w'.H
def FGv (X : Cx) (P : Pn) (vs : List Nat) (tg : Expr) (g : TGf) : Prop := PG X tg (RGv X.K P vs g)
def RGsv (K : PySem.W.Frag) (pn : Pn) (ws : List Nat) (g : TGfs) : TGs := fun vs σ H Q => ∃ w env ds env', w.H = H ∧ w.Ok K ∧ EnvOk K pn w σ env ∧ Reps K pn w vs ds ∧ g ds env w.S = some env' ∧ ∀ w' σ', Ext w w' → w'.S = w.S → w'.Ok K → EnvOk K pn w' σ' env' → wipe σ' ws = wipe σ ws → Q σ' w'.H
def FGsv (X : Cx) (P : Pn) (ws : List Nat) (ts : List Expr) (g : TGfs) : Prop := PGs X ts (RGsv X.K P ws g)
section
variable {X : Cx} {P : Pn} {vs : List Nat} {pos : Pos} {e : Expr} {es : List Expr}
theorem fgv_name {i : Nat} {x : Str} (hv : i ∈ vs) (hN : X.N.Nodup) (hi : X.N[i]? = some x) (hx : Loc X.env.scope x) (hf : X.fn x = true ∨ X.env.scope.names.lookup x = some .local := by first | exact .inl rfl | exact .inr rfl | assumption) : FGv X P vs (.Name x pos) (gN i) :=
  pgI (pg_name hN hi hx hf) fun v σ H Q ⟨w, env, d, env', hH, o, en, r, q, h⟩ => by
    subst hH
    cases q
    exact h w _ (Ext.refl w) rfl o (en.set r) (wipe_set hv)
theorem fgsv_nil : FGsv X P vs [] gsNil := pgsI pgs_nil fun us σ H Q ⟨w, env, ds, env', hH, ok, en, r, g, q⟩ => by
  subst hH
  cases r with
  | nil =>
    cases g
    exact ⟨rfl, q w σ (Ext.refl w) rfl ok en rfl⟩
  | cons _ _ => cases g
theorem fgsv_cons {g : TGf} {h : TGfs} (h1 : FGv X P vs e g) (h2 : FGsv X P vs es h) (hs : (assignEach (e :: es) X.env).map (·.2) = assign e X.env :: (assignEach es X.env).map (·.2) := by rfl) : FGsv X P vs (e :: es) (gsCons g h) :=
  pgsI (pgs_cons h1 h2 hs) fun us σ H Q ⟨w, env, ds, env', hH, ok, en, r, q, k⟩ => by
    subst hH
    cases r with
    | nil => cases q
    | @cons v d us ds r1 r2 =>
      have q : (g d env w.S).bind (fun env' => h ds env' w.S) = some env' := q
      cases g1 : g d env w.S with
      | none => rw [g1] at q; cases q
      | some env1 =>
        rw [g1] at q
        refine ⟨v, us, rfl, w, env, d, env1, rfl, ok, en, r1, g1, fun w' σ' e' s' o' en' hw => ⟨w', env1, ds, env', rfl, o', en', r2.to e', by rw [s']; exact q, fun w2 σ2 e2 s2 o2 en2 hw2 => k w2 σ2 (e'.trans e2) (s2.trans s') o2 en2 (hw2.trans hw)⟩⟩
theorem fgv_tup {k n : Nat} {g : TGfs} (hc : X.calm = true) (h : FGsv X P vs es g) (hn : (assignEach es X.env).length = n := by rfl) (hst : (assignEach es X.env).findIdx? (·.1) = none := by rfl) : FGv X P vs (.Tuple es k pos) (gTupF n g) := by
  have both : PG X (.Tuple es k pos) (fun v σ H Q => gTup X.K n (RGsv X.K P vs g) v σ H Q ∨ gUnl X.K n (RGsv X.K P vs g) v σ H Q) := ⟨fun pins s σ H v u Q I r q => by
    rcases q with q | q
    · exact (pg_tup hc h hn hst).run pins s σ H v u Q I r q
    · exact (pg_unl hc h hn hst).run pins s σ H v u Q I r q⟩
  refine pgI both fun v σ H Q ⟨w, env, d, env', hH, ok, en, r, q, kk⟩ => ?_
  subst hH
  have q : ((seqOf w.S d).bind fun ds => if ds.length = n then g ds env w.S else none) = some env' := q
  cases g1 : seqOf w.S d with
  | none => rw [g1] at q; cases q
  | some ds =>
    rw [g1] at q
    have q : (if ds.length = n then g ds env w.S else none) = some env' := q
    by_cases hl : ds.length = n
    · rw [if_pos hl] at q
      obtain ⟨a, xs, rfl, h1, rr⟩ := seq_of ok r g1
      have fin : RGsv X.K P vs g xs σ w.H Q := ⟨w, env, ds, env', rfl, ok, en, rr, q, kk⟩
      rcases h1 with h1 | h1
      · exact .inr ⟨a, xs, rfl, h1, rr.length.trans hl, fin⟩
      · exact .inl ⟨a, xs, rfl, h1, rr.length.trans hl, fin⟩
    · rw [if_neg hl] at q
      cases q
end
/-! the same heap, fewer that change -/
structure Sub (w w' : Vw) : Prop where
  H : w'.H = w.H
  mt : ∀ a, w'.mut a → w.mut a
  len : w.S.length ≤ w'.S.length
  ι : ∀ m, m < w.S.length → w'.ι m = w.ι m
section
variable {K : PySem.W.Frag} {P : Pn} {w w' : Vw}
theorem Sub.rd (s : Sub w w') {a : Addr} {o : HO} (h : Rd w.H a o ∧ ¬ w.mut a) : Rd w'.H a o ∧ ¬ w'.mut a := ⟨by rw [s.H]; exact h.1, fun q => h.2 (s.mt a q)⟩
mutual
theorem Rep.sub (s : Sub w w') : ∀ {v : V} {d : D}, Rep K P w v d → Rep K P w' v d
  | _, _, .non => .non
  | _, _, .bl b => .bl b
  | _, _, .int i => .int i
  | _, _, .str x => .str x
  | _, _, .ty n => .ty n
  | _, _, .ref a => .ref a
  | _, _, .tup h r => .tup (h.imp s.rd id) (Reps.sub s r)
  | _, _, .lst h r => .lst ⟨by rw [s.H]; exact h.1, fun q => h.2 (s.mt _ q)⟩ (Reps.sub s r)
  | _, _, .fls h r => .fls (h.imp s.rd id) (Reps.sub s r)
  | _, _, .loc (m := m) h => by
    have q : w'.ι m = w.ι m := s.ι m h
    rw [← q]
    exact .loc (Nat.lt_of_lt_of_le h s.len)
  | _, _, .obj h n r => .obj (by rw [s.H]; exact h) (fun q => n (s.mt _ q)) (RepF.sub s r)
  | _, _, .exn0 h hz hf => .exn0 h hz hf
  | _, _, .exn h hc hf hd n r => .exn h hc hf (by rw [s.H]; exact hd) (fun q => n (s.mt _ q)) (RepF.sub s r)
theorem Reps.sub (s : Sub w w') : ∀ {v : List V} {d : List D}, Reps K P w v d → Reps K P w' v d
  | _, _, .nil => .nil
  | _, _, .cons h t => .cons (Rep.sub s h) (Reps.sub s t)
theorem RepF.sub (s : Sub w w') : ∀ {v : List (Str × V)} {d : List (Str × D)}, RepF K P w v d → RepF K P w' v d
  | _, _, .nil => .nil
  | _, _, .cons h t => .cons (Rep.sub s h) (RepF.sub s t)
end
end
theorem lc_coreF {K : PySem.W.Frag} {P : Pn} {W : WX} {w : Vw} {σ : St} {env : Env} {β : Type} {fi : Fi} {g : TGf} {ft : Ft} {fe : F} {vs : List Nat} {k : List D → Sto → R β} {P' : Vw → β → Prop} {Q : VK}
    (o : w.Ok K) (en : EnvOk K P w σ env) (p : Post K w ((fLcA fi g ft fe vs env w.S).bind k) P' (WP K W σ))
    (fin : ∀ w1 w2 D0 ys es, Ext w w1 → w1.Ok K → Ext w1 w2 → w1.H D0 = none → w2.Ok K → w2.H D0 = some (.lst ys) → D0 ∈ w2.Z → D0 ∉ w1.Z → Reps K P w2 ys es → Post K w1 (k es w2.S) P' (WP K W σ) → Q (.ref D0) w2.H) :
    tLc (RI K P W fi) (RGv K P vs g) (RT K P WF ft) (RE K P WF fe) vs σ w.H Q := by
  unfold fLcA at p
  rw [bind_assoc] at p
  refine ⟨w, env, rfl, o, en, p.bind.mono (fun w1 s e1 o1 p1 J walk D0 hD => ?_) fun _ _ _ _ _ q => q⟩
  refine ⟨fun i m H => ∃ w' ys acc, w'.H = H ∧ Ext w1 w' ∧ w'.Ok K ∧ D0 ∈ w'.Z ∧ w'.H D0 = some (.lst ys) ∧ Reps K P w' ys acc ∧ EnvOk K P w' (wipe σ vs) (wipeE env vs) ∧ Post K w1 ((lcS s (lcBody g ft fe (wipeE env vs)) m i acc w'.S).bind k) P' (WP K W σ),
    ⟨s.fuel w1.S, (w1.nu D0 (.lst [])).z (D0 :: w1.Z), [], [], rfl, hide_ext hD, hide_ok o1 hD, List.mem_cons_self, upd_same, .nil, wipeE_ok ((en.to e1).to (hide_ext hD)) vs, p1⟩, ?_⟩
  rintro i m _ ⟨w', ys, acc, rfl, e', o', hz, hl, rr, en', pp⟩
  obtain ⟨hstop, hgo⟩ := walk w' e' o' i
  have nl : ¬ w'.loc D0 := fun ⟨j, hj, ej⟩ => o'.hzl j hj (by rw [ej]; exact hz)
  unfold lcS at pp
  cases q : s.next w'.S i with
  | none => rw [q] at pp; exact pp.elim
  | some q1 =>
    rw [q] at pp
    cases q1 with
    | none =>
      refine .inl ⟨hstop q, ?_⟩
      have nz : D0 ∉ w1.Z := fun h => by
        obtain ⟨u, hu⟩ := o1.hz D0 h
        rw [hD] at hu
        cases hu
      exact fin w1 w' D0 ys acc e1 o1 e' hD o' hl hz nz rr pp
    | some d =>
      obtain ⟨go, yld⟩ := hgo d q
      cases m with
      | zero => exact pp.elim
      | succ m =>
        refine .inr ⟨go, fun H' => ∃ w' ys acc, w'.H = H' ∧ Ext w1 w' ∧ w'.Ok K ∧ D0 ∈ w'.Z ∧ w'.H D0 = some (.lst ys) ∧ Reps K P w' ys acc ∧ EnvOk K P w' (wipe σ vs) (wipeE env vs) ∧ Post K w1 ((lcS s (lcBody g ft fe (wipeE env vs)) m (i + 1) acc w'.S).bind k) P' (WP K W σ),
          fun H' h => ⟨m, Nat.lt_succ_self m, h⟩, fun x H' hy => ?_⟩
        obtain ⟨w3, rfl, e3, s3, o3, r3⟩ := yld x H' hy
        have pp : Post K w1 (((lcBody g ft fe (wipeE env vs) d w'.S).bind fun o S1 => match o with
          | some z => if acc.length < sizeLine then lcS s (lcBody g ft fe (wipeE env vs)) m (i + 1) (acc ++ [z]) S1 else .bad
          | none => lcS s (lcBody g ft fe (wipeE env vs)) m (i + 1) acc S1).bind k) P' (WP K W σ) := pp
        cases qg : g d (wipeE env vs) w'.S with
        | none =>
          have hb : lcBody g ft fe (wipeE env vs) d w'.S = .bad := by unfold lcBody; rw [qg]
          rw [hb] at pp
          exact pp.elim
        | some env3 =>
          have hb : lcBody g ft fe (wipeE env vs) d w'.S = (ft env3 w'.S).noX.bind fun b S1 => if b = true then (fe env3 S1).noX.bind fun z S2 => .ok (some z) S2 else .ok none S1 := by unfold lcBody; rw [qg]
          rw [hb] at pp
          refine ⟨w3, wipeE env vs, d, env3, rfl, o3, en'.to e3, r3, by rw [s3]; exact qg, fun w4 σ4 e4 s4 o4 en4 hw4 => ⟨hw4.trans wipe_idem, ?_⟩⟩
          have s4' : w4.S = w'.S := s4.trans s3
          refine ⟨w4, env3, rfl, o4, en4, ?_⟩
          rw [s4']
          have e4' := e3.trans e4
          cases qt : ft env3 w'.S with
          | bad => rw [qt] at pp; exact pp.elim
          | exc C fs S1 => rw [qt] at pp; exact pp.elim
          | ok b S1 =>
            rw [qt] at pp
            intro w5 e5 s5 o5
            subst s5
            have e5' := e4'.trans e5
            cases b with
            | false =>
              exact ⟨w5, ys, acc, rfl, e'.trans e5', o5, e5'.Z.1 _ hz, e5'.keep _ _ hl nl, rr.to e5', en'.to e5', pp⟩
            | true =>
              refine ⟨w5, env3, rfl, o5, en4.to e5, ?_⟩
              have pp : Post K w1 ((((fe env3 w5.S).noX.bind fun z S2 => R.ok (some z) S2).bind fun o S1 => match o with
                | some z => if acc.length < sizeLine then lcS s (lcBody g ft fe (wipeE env vs)) m (i + 1) (acc ++ [z]) S1 else .bad
                | none => lcS s (lcBody g ft fe (wipeE env vs)) m (i + 1) acc S1).bind k) P' (WP K W σ) := pp
              cases qe : fe env3 w5.S with
              | bad => rw [qe] at pp; exact pp.elim
              | exc C fs S1 => rw [qe] at pp; exact pp.elim
              | ok z S2 =>
                rw [qe] at pp
                have pp : Post K w1 ((if acc.length < sizeLine then lcS s (lcBody g ft fe (wipeE env vs)) m (i + 1) (acc ++ [z]) S2 else R.bad).bind k) P' (WP K W σ) := pp
                intro w6 e6 s6 o6 y ry
                subst s6
                have e6' := e5'.trans e6
                have hz6 := e6'.Z.1 _ hz
                by_cases hlen : acc.length < sizeLine
                · rw [if_pos hlen] at pp
                  refine ⟨ys, e6'.keep _ _ hl nl, by rw [rr.length]; exact hlen, w6.nu D0 (.lst (ys ++ [y])), ys ++ [y], acc ++ [z], rfl, (e'.trans e6').zu hD, o6.zu hz6, hz6, upd_same, ((rr.to e6').append (.cons ry .nil)).zu hz6, ?_, pp⟩
                  refine ⟨(en'.to e6').1, fun j d' q => ?_⟩
                  obtain ⟨u, h1, h2⟩ := (en'.to e6').2 j d' q
                  exact ⟨u, h1, h2.zu hz6⟩
                · rw [if_neg hlen] at pp
                  exact pp.elim
section
variable {K : PySem.W.Frag} {P : Pn} {w1 w2 : Vw} {D0 : Addr} {ys : List V} {es : List D}
theorem lc_end (e2 : Ext w1 w2) (hD : w1.H D0 = none) (o2 : w2.Ok K) (hl : w2.H D0 = some (.lst ys)) (hz : D0 ∈ w2.Z) (nz : D0 ∉ w1.Z) (rr : Reps K P w2 ys es) :
    Ext w1 (w2.z w1.Z) ∧ (w2.z w1.Z).Ok K ∧ Rep K P (w2.z w1.Z) (.ref D0) (.lst es) := by
  have s : Sub w2 (w2.z w1.Z) := ⟨rfl, fun a q => q.imp id (e2.Z.1 a), Nat.le_refl _, fun _ _ => rfl⟩
  refine ⟨e2.unz, o2.unz e2.Z.1, .lst ⟨hl, fun q => ?_⟩ (rr.sub s)⟩
  rcases q with ⟨j, hj, ej⟩ | q
  · exact o2.hzl j hj (by
      have ej' : w2.ι j = D0 := ej
      rw [ej']
      exact hz)
  · exact nz q
theorem lc_val {W' : Vw → Addr → List (Str × D) → Prop} {Q : VK} (e2 : Ext w1 w2) (hD : w1.H D0 = none) (o2 : w2.Ok K) (hl : w2.H D0 = some (.lst ys)) (hz : D0 ∈ w2.Z) (nz : D0 ∉ w1.Z) (rr : Reps K P w2 ys es)
    (pp : Post K w1 (.ok (.lst es) w2.S) (fun w' d => ∀ v, Rep K P w' v d → Q v w'.H) W') : Q (.ref D0) w2.H := by
  obtain ⟨e3, o3, r3⟩ := lc_end e2 hD o2 hl hz nz rr
  exact pp (w2.z w1.Z) e3 rfl o3 _ r3
/-- the made list as a cell -/
abbrev Vw.lcv (w1 w2 : Vw) (D0 : Addr) (es : List D) : Vw := { ι := fun m => if m = w2.S.length then D0 else w2.ι m, Z := w1.Z, H := w2.H, S := w2.S ++ [.lst es] }
theorem lc_endL (e2 : Ext w1 w2) (hD : w1.H D0 = none) (o2 : w2.Ok K) (hl : w2.H D0 = some (.lst ys)) (hz : D0 ∈ w2.Z) (nz : D0 ∉ w1.Z) (rr : Reps K [] w2 ys es) :
    Ext w1 (Vw.lcv w1 w2 D0 es) ∧ (Vw.lcv w1 w2 D0 es).Ok K ∧ Rep K [] (Vw.lcv w1 w2 D0 es) (.ref D0) (.loc w2.S.length) := by
  have len : (Vw.lcv w1 w2 D0 es).S.length = w2.S.length + 1 := by simp
  have ne : ∀ m, m < w2.S.length → w2.ι m ≠ D0 := fun m hm e => o2.hzl m hm (by rw [e]; exact hz)
  have s : Sub w2 (Vw.lcv w1 w2 D0 es) := ⟨rfl, fun a q => by
    rcases q with ⟨j, hj, ej⟩ | q
    · have ej' : (if j = w2.S.length then D0 else w2.ι j) = a := ej
      by_cases h : j = w2.S.length
      · rw [if_pos h] at ej'
        exact .inr (by rw [← ej']; exact hz)
      · rw [if_neg h] at ej'
        exact .inl ⟨j, by rw [len] at hj; omega, ej'⟩
    · exact .inr (e2.Z.1 _ q), by rw [len]; omega, fun m hm => if_neg (Nat.ne_of_lt hm)⟩
  refine ⟨⟨by rw [len]; have := e2.len; omega, fun m hm => ?_, fun m h1 h2 => ?_, ⟨fun _ h => h, fun _ h => .inl h⟩, e2.keep, e2.live⟩, ⟨fun i j hi hj e => ?_, fun z h => ?_, fun m hm q => ?_, fun m c q => ?_⟩, ?_⟩
  · have : m < w2.S.length := Nat.lt_of_lt_of_le hm e2.len
    show (if m = w2.S.length then D0 else w2.ι m) = w1.ι m
    rw [if_neg (Nat.ne_of_lt this)]
    exact e2.ι m hm
  · show w1.H (if m = w2.S.length then D0 else w2.ι m) = none
    by_cases h : m = w2.S.length
    · rw [if_pos h]; exact hD
    · rw [if_neg h]
      rw [len] at h2
      exact e2.new m h1 (by omega)
  · rw [len] at hi hj
    have e' : (if i = w2.S.length then D0 else w2.ι i) = (if j = w2.S.length then D0 else w2.ι j) := e
    by_cases h1 : i = w2.S.length <;> by_cases h2 : j = w2.S.length
    · omega
    · rw [if_pos h1, if_neg h2] at e'
      exact absurd e'.symm (ne j (by omega))
    · rw [if_neg h1, if_pos h2] at e'
      exact absurd e' (ne i (by omega))
    · rw [if_neg h1, if_neg h2] at e'
      exact o2.inj i j (by omega) (by omega) e'
  · exact o2.hz z (e2.Z.1 z h)
  · rw [len] at hm
    have q' : (if m = w2.S.length then D0 else w2.ι m) ∈ w1.Z := q
    by_cases h1 : m = w2.S.length
    · rw [if_pos h1] at q'
      exact nz q'
    · rw [if_neg h1] at q'
      exact o2.hzl m (by omega) (e2.Z.1 _ q')
  · have q' : (w2.S ++ [Cell.lst es])[m]? = some c := q
    show CellOk K [] (Vw.lcv w1 w2 D0 es) (if m = w2.S.length then D0 else w2.ι m) c
    by_cases h1 : m = w2.S.length
    · subst h1
      rw [List.getElem?_append_right (Nat.le_refl _)] at q'
      simp at q'
      subst q'
      rw [if_pos rfl]
      exact ⟨ys, hl, rr.sub s⟩
    · have hm : m < w2.S.length := by
        have := (List.getElem?_eq_some_iff.mp q').1
        rw [List.length_append] at this
        simp at this
        omega
      rw [List.getElem?_append_left hm] at q'
      rw [if_neg h1]
      have cc := o2.cell m c q'
      cases c with
      | lst ds => obtain ⟨xs, h, r⟩ := cc; exact ⟨xs, h, r.sub s⟩
      | ins C gs => obtain ⟨dx, fs, h, r⟩ := cc; exact ⟨dx, fs, h, r.sub s⟩
  · have z : (Vw.lcv w1 w2 D0 es).ι w2.S.length = D0 := if_pos rfl
    have r := Rep.loc (K := K) (pn := []) (w := Vw.lcv w1 w2 D0 es) (m := w2.S.length) (by rw [len]; omega)
    rw [z] at r
    exact r
theorem lc_loc {W' : Vw → Addr → List (Str × D) → Prop} {Q : VK} (e2 : Ext w1 w2) (hD : w1.H D0 = none) (o2 : w2.Ok K) (hl : w2.H D0 = some (.lst ys)) (hz : D0 ∈ w2.Z) (nz : D0 ∉ w1.Z) (rr : Reps K [] w2 ys es)
    (pp : Post K w1 (.ok (.loc w2.S.length) (w2.S ++ [.lst es])) (fun w' d => ∀ v, Rep K [] w' v d → Q v w'.H) W') : Q (.ref D0) w2.H := by
  obtain ⟨e3, o3, r3⟩ := lc_endL e2 hD o2 hl hz nz rr
  exact pp (Vw.lcv w1 w2 D0 es) e3 rfl o3 _ r3
end
abbrev ownS (own : List (Str × Nat)) : List Nat := own.map (·.2)
section
variable {X : Cx} {P : Pn} {W : WX} {elt tg iter : Expr} {ifs : List Expr} {scope : Scope} {own : List (Str × Nat)} {pos : Pos} {fi : Fi} {g : TGf} {ft : Ft} {fe : F}
theorem fe_lc (hc : X.calm = true) (hN : X.N.Nodup) (hi : FI X P W tg iter fi) (ok : BlkOk X.N X.env.scope scope own)
    (hg : ∀ (s : Shared) (H : Hp) (C : Addr) (cl : List (Str × Addr)) (fp : List Addr), FGv (X.blk s H scope (compEnvC scope cl C X.env) fp) P (ownS own) tg g)
    (ht : ∀ (s : Shared) (H : Hp) (C : Addr) (cl : List (Str × Addr)) (fp : List Addr), FTs (X.blk s H scope (compEnvC scope cl C X.env) fp) P WF ifs ft)
    (he : ∀ (s : Shared) (H : Hp) (C : Addr) (cl : List (Str × Addr)) (fp : List Addr), FE (X.blk s H scope (compEnvC scope cl C X.env) fp) P WF elt fe) (hs : ∀ x, foldedSetIterable iter X.env x = pure x := by intro _; rfl) :
    FE X P W (.ListComp elt [⟨tg, iter, ifs, 0⟩] scope pos) (fLc fi g ft fe (ownS own)) :=
  peI (pe_lc (wi := RI X.K P W fi) (g := RGv X.K P (ownS own) g) (tt := RT X.K P WF ft) (te := RE X.K P WF fe) hc hN hi ok hg ht he hs) fun σ H Q ⟨w, env, hH, o, en, p⟩ => by
    subst hH
    exact lc_coreF o en p fun w1 w2 D0 ys es e1 o1 e2 hD o2 hl hz nz rr pp => lc_val e2 hD o2 hl hz nz rr pp
theorem fe_lcL (hpn : P = []) (hc : X.calm = true) (hN : X.N.Nodup) (hi : FI X P W tg iter fi) (ok : BlkOk X.N X.env.scope scope own)
    (hg : ∀ (s : Shared) (H : Hp) (C : Addr) (cl : List (Str × Addr)) (fp : List Addr), FGv (X.blk s H scope (compEnvC scope cl C X.env) fp) P (ownS own) tg g)
    (ht : ∀ (s : Shared) (H : Hp) (C : Addr) (cl : List (Str × Addr)) (fp : List Addr), FTs (X.blk s H scope (compEnvC scope cl C X.env) fp) P WF ifs ft)
    (he : ∀ (s : Shared) (H : Hp) (C : Addr) (cl : List (Str × Addr)) (fp : List Addr), FE (X.blk s H scope (compEnvC scope cl C X.env) fp) P WF elt fe) (hs : ∀ x, foldedSetIterable iter X.env x = pure x := by intro _; rfl) :
    FE X P W (.ListComp elt [⟨tg, iter, ifs, 0⟩] scope pos) (fLcL fi g ft fe (ownS own)) := by
  subst hpn
  exact peI (pe_lc (wi := RI X.K [] W fi) (g := RGv X.K [] (ownS own) g) (tt := RT X.K [] WF ft) (te := RE X.K [] WF fe) hc hN hi ok hg ht he hs) fun σ H Q ⟨w, env, hH, o, en, p⟩ => by
    subst hH
    exact lc_coreF o en p fun w1 w2 D0 ys es e1 o1 e2 hD o2 hl hz nz rr pp => lc_loc e2 hD o2 hl hz nz rr pp
/-- y = [..] on one line, y a local -/
theorem fs_setLcG {fA : SF} {i : Nat} {y : Str} {py spos : Pos} {k : List D → Sto → R D} (hc : X.calm = true) (hN : X.N.Nodup) (hy : X.N[i]? = some y) (hyl : X.env.scope.names.lookup y = some .local)
    (hsw : swapsWith (.ListComp elt [⟨tg, iter, ifs, 0⟩] scope pos) (some (.Name y py)) spos.line X.env = pure true) (hi : FI X P W tg iter fi) (ok : BlkOk X.N X.env.scope scope own)
    (hg : ∀ (s : Shared) (H : Hp) (C : Addr) (cl : List (Str × Addr)) (fp : List Addr), FGv (X.blk s H scope (compEnvC scope cl C X.env) fp) P (ownS own) tg g)
    (ht : ∀ (s : Shared) (H : Hp) (C : Addr) (cl : List (Str × Addr)) (fp : List Addr), FTs (X.blk s H scope (compEnvC scope cl C X.env) fp) P WF ifs ft)
    (he : ∀ (s : Shared) (H : Hp) (C : Addr) (cl : List (Str × Addr)) (fp : List Addr), FE (X.blk s H scope (compEnvC scope cl C X.env) fp) P WF elt fe)
    (hk : ∀ (w1 w2 : Vw) (D0 : Addr) (ys : List V) (es : List D) (P' : Vw → D → Prop) (W' : Vw → Addr → List (Str × D) → Prop), Ext w1 w2 → w1.H D0 = none → w2.Ok X.K → w2.H D0 = some (.lst ys) → D0 ∈ w2.Z → D0 ∉ w1.Z → Reps X.K P w2 ys es → Post X.K w1 (k es w2.S) P' W' →
      ∃ w3 z, w3.H = w2.H ∧ P' w3 z ∧ Ext w1 w3 ∧ w3.Ok X.K ∧ Rep X.K P w3 (.ref D0) z) (hs : ∀ x, foldedSetIterable iter X.env x = pure x := by intro _; rfl) :
    FS X P W (.Assign [.Name y py] (.ListComp elt [⟨tg, iter, ifs, 0⟩] scope pos) spos) (sAsg (fun env S => (fLcA fi g ft fe (ownS own) env S).bind k) (gN i)) :=
  psI (ps_setLc (wi := RI X.K P W fi) (g := RGv X.K P (ownS own) g) (tt := RT X.K P WF ft) (te := RE X.K P WF fe) hc hN hy hyl hsw hi ok hg ht he hs) fun D σ H ⟨w, env, hH, o, en, p⟩ => by
    subst hH
    have p' : Post X.K w ((fLcA fi g ft fe (ownS own) env w.S).bind k) (fun w1 d => PostS X.K P w1 (.fl (.nx (env.set i (some d))) w1.S) D W) (WP X.K W σ) := Post.ofS en p
    refine lc_coreF o en p' fun w1 w2 D0 ys es e1 o1 e2 hD o2 hl hz nz rr pp => ?_
    obtain ⟨w3, z, h1, h2, e3, o3, r3⟩ := hk w1 w2 D0 ys es _ _ e2 hD o2 hl hz nz rr pp
    rw [← h1]
    exact h2 w3 _ (Ext.refl w3) rfl o3 (((en.to e1).to e3).set r3)
end
end FL
set_option maxRecDepth 100000
set_option maxHeartbeats 2000000
namespace FL
open PySem PySem.Spec PyProof.Rows L2
/-! ### a def of the text is called -/
def fCallH (fn : Fn) (fs : Fa) : F := fun env S => (fs env S).bind fun ds S1 => (fn ds S1).noX
def fCall (fn : Fn) (dd : List D) (fs : Fa) : F := fun env S => (fs env S).bind fun ds S1 => fn (ds ++ dd) S1
theorem ra_known {K : PySem.W.Frag} {P : Pn} {W : WX} {w : Vw} {σ : St} {env : Env} {fs : Fa} {m : Nat} [L : Len fs m] {β : Type} {k : List D → Sto → R β} {P' : Vw → β → Prop} {Q : List V → Hp → Prop} (o : w.Ok K) (en : EnvOk K P w σ env) (h : Post K w ((fs env w.S).bind k) P' (WP K W σ))
    (c : ∀ w1 v d, Ext w w1 → w1.Ok K → EnvOk K P w1 σ env → Reps K P w1 v d → d.length = m → Post K w1 (k d w1.S) P' (WP K W σ) → Q v w1.H) : RA K P W fs σ w.H Q := by
  refine ⟨w, env, rfl, o, en, ?_⟩
  cases q : fs env w.S with
  | bad => rw [q] at h; exact h.elim
  | exc C gs S => rw [q] at h; exact h
  | ok ds S =>
    rw [q] at h
    intro w1 e1 s1 o1 vs r
    subst s1
    exact c w1 vs ds e1 o1 (en.to e1) r (L.len _ _ _ _ q) (Post.to (show Post K w (k ds w1.S) P' (WP K W σ) from h) e1)
section
variable {X : Cx} {P : Pn} {W : WX} {a : Expr} {es : List Expr} {fs : Fa} {fn : Fn} {k n m : Nat} {f : Addr} {fd : FuncData} {ps : List Str} {dvs : List V} {dd : List D} {ds : List Value} {x : Str} {p pos : Pos}
/-- the defaults as data -/
structure Dfl (K : PySem.W.Frag) (dvs : List V) (dd : List D) : Prop where
  rep : ∀ (w : Vw), Reps K [] w dvs dd
theorem Dfl.nil {K : PySem.W.Frag} : Dfl K [] [] := ⟨fun _ => .nil⟩
theorem fe_call [L : Len fs m] (hpn : P = []) (F : FnOk X.prog X.w X.K X.mg X.base (L2.CX X.prog X.w) k f fd ps (spF X.K n fn)) (hr : Room k X.A) (hg : Gl X x) (hm : X.mg x = some (.ref f)) (hk : PySem.W.keepIn X.K (.ref f) = true) (hb : Binds X.K fd ps ds) (hd : Vals dvs ds) (hdd : Dfl X.K dvs dd) (tk : Takes X W)
    (ha : FA X P W (a :: es) fs) (hn : m + dd.length = n := by rfl) (hdb : (x == ("__debug__" : Str)) = false := by decide) (he : starEach (a :: es) X.env = (false, eval a X.env) :: starEach es X.env := by rfl) (hpl : (backTo pos (starEach es X.env)).any (·.1) = false := by rfl) :
    FE X P W (.Call (.Name x p) (a :: es) [] pos) (fCall fn dd fs) := by
  subst hpn
  refine peI (pe_callSD F hr hg hm hk hb hd (fun σ => passAt tk σ) ha hdb he hpl) fun σ H Q ⟨w, env, hH, o, en, p⟩ => ?_
  subst hH
  refine ra_known o en p fun w1 vs ds e1 o1 en1 r1 hl p1 => ?_
  exact ⟨w1, ds ++ dd, rfl, o1, r1.append (hdd.rep w1), by rw [List.length_append, hl]; exact hn, p1⟩
/-! ### exceptions that are made -/
/-- the __init__ of an own error: self.f = x; self.g = y -/
def spIni2 (C : Addr) (f g : Str) : Sp := fun vs H Q _ => ∃ (a : Addr) (x y : V), vs = [.ref a, x, y] ∧ H a = some (exo a C none) ∧ ∀ dx, H dx = none → dx ≠ a → Q .non (upd (upd (upd H dx (exd dx [(f, x)])) a (exo a C (some dx))) dx (exd dx [(g, y), (f, x)]))
def spIni1 (C : Addr) (f : Str) : Sp := fun vs H Q _ => ∃ (a : Addr) (x : V), vs = [.ref a, x] ∧ H a = some (exo a C none) ∧ ∀ dx, H dx = none → dx ≠ a → Q .non (upd (upd H dx (exd dx [(f, x)])) a (exo a C (some dx)))
def sRaise (C : Addr) (mk : List D → Option (List (Str × D))) (fs : Fa) : SF := fun env S => (fs env S).bindS env fun ds S1 => match mk ds with
  | some gs => .exc env C gs S1
  | none => .bad
def mk2 (f g : Str) : List D → Option (List (Str × D)) := fun ds => match ds with
  | [x, y] => some [(g, y), (f, x)]
  | _ => none
def mk1 (f : Str) : List D → Option (List (Str × D)) := fun ds => match ds with
  | [x] => some [(f, x)]
  | _ => none
theorem heap2 {H : Hp} {a dx : Addr} {u1 u2 u3 u4 u5 : HO} (ha : H a = none) (hne : dx ≠ a) : upd (del (upd (upd (upd (upd H a u1) dx u2) a u3) dx u4) a) dx u5 = upd H dx u5 := by
  funext b
  by_cases h1 : b = dx
  · subst h1; rw [upd_same, upd_same]
  · rw [upd_ne h1, upd_ne h1]
    by_cases h2 : b = a
    · subst h2; rw [del_same, ha]
    · rw [del_ne h2, upd_ne h1, upd_ne h2, upd_ne h1, upd_ne h2]
/-- what a class of errors must have -/
structure ErrC (K : PySem.W.Frag) (mg : Str → Option Value) (x : Str) (C fI : Addr) : Prop where
  oex : OexC K C
  gC : mg x = some (.ref C)
  iC : PySem.W.findIn K (.ref C) "__init__" = some (some (.ref fI))
  tI : PySem.W.typeIn K (.ref fI) = some (.type "function")
theorem fs_raise2 {C fI : Addr} {pos2 : Pos} {f g : Str} (hpn : P = []) (hc : X.calm = true) (T : ErrC X.K X.mg x C fI) (F1 : FnOk X.prog X.w X.K X.mg X.base CX0 k fI fd ps (spIni2 C f g)) (hr : Room (k + 1) X.A) (hb : Binds X.K fd ps []) (tk : Takes X W) (hg : Gl X x) [L : Len fs 2] (ha : FA X P W (a :: es) fs)
    (hdb : (x == ("__debug__" : Str)) = false := by decide) (he : starEach (a :: es) X.env = (false, eval a X.env) :: starEach es X.env := by rfl) (hpl : (backTo pos (starEach es X.env)).any (·.1) = false := by rfl) :
    FS X P W (.Raise (some (.Call (.Name x p) (a :: es) [] pos)) none pos2) (sRaise C (mk2 f g) fs) := by
  subst hpn
  refine psI (ps_raise hc tk (pmk_oex T.oex T.iC T.tI F1 hr hb .nil pass0 hg T.gC ha hdb he hpl)) fun D σ H ⟨w, env, hH, o, en, p⟩ => ?_
  subst hH
  refine ⟨w, env, rfl, o, en, ?_⟩
  have p' := Post.ofS en p
  refine p'.mono (fun w1 ds e1 o1 p1 vs r1 => ?_) fun _ _ _ _ _ q => q
  cases r1 with
  | nil => exact p1.elim
  | @cons x dx' _ _ r1 rr =>
    cases rr with
    | nil => exact p1.elim
    | @cons y dy _ _ r2 rr =>
      cases rr with
      | cons _ _ => exact p1.elim
      | nil =>
        refine ⟨by show 2 ≤ 1000; decide, fun a0 ha0 => ⟨a0, x, y, rfl, upd_same, fun dx hdx hne => ⟨rfl, dx, [(g, y), (f, x)], ?_, upd_same, ?_, ?_⟩⟩⟩
        · rw [upd_ne (Ne.symm hne), upd_same]
        · rw [upd_ne hne] at hdx
          exact hdx
        · show W (.ref C) (some dx) σ (upd (del (upd (upd (upd (upd w1.H a0 (exo a0 C none)) dx (exd dx [(f, x)])) a0 (exo a0 C (some dx))) dx (exd dx [(g, y), (f, x)])) a0) dx (.xd [(g, y), (f, x)]))
          rw [heap2 ha0 hne]
          rw [upd_ne hne] at hdx
          have e2 := Vw.nu_ext (w := w1) (u := .xd [(g, y), (f, x)]) hdx
          exact p1 (w1.nu dx (.xd [(g, y), (f, x)])) σ e2 rfl (o1.nu hdx) ((en.to e1).to e2) (some dx) (.inr ⟨dx, _, rfl, upd_same, o1.fresh hdx, .cons (r2.to e2) (.cons (r1.to e2) .nil)⟩)
/-! ### try: body, except T as e: suite -/
mutual
def D.nox : D → Bool
  | .tup ds => noxs ds
  | .lst ds => noxs ds
  | .fls ds => noxs ds
  | .obj _ fs => noxf fs
  | .exn _ _ => false
  | _ => true
def noxs : List D → Bool
  | [] => true
  | d :: ds => d.nox && noxs ds
def noxf : List (Str × D) → Bool
  | [] => true
  | d :: ds => d.2.nox && noxf ds
end
mutual
theorem Rep.nox {K : PySem.W.Frag} {w : Vw} : ∀ {v : V} {d : D}, Rep K P w v d → d.nox = true → Rep K [] w v d
  | _, _, .non, _ => .non
  | _, _, .bl b, _ => .bl b
  | _, _, .int i, _ => .int i
  | _, _, .str x, _ => .str x
  | _, _, .ty n, _ => .ty n
  | _, _, .ref a, _ => .ref a
  | _, _, .tup h r, p => .tup h (Reps.nox r (by unfold D.nox at p; exact p))
  | _, _, .lst h r, p => .lst h (Reps.nox r (by unfold D.nox at p; exact p))
  | _, _, .fls h r, p => .fls h (Reps.nox r (by unfold D.nox at p; exact p))
  | _, _, .loc h, _ => .loc h
  | _, _, .obj h n r, p => .obj h n (RepF.nox r (by unfold D.nox at p; exact p))
  | _, _, .exn0 h hz hf, p => by unfold D.nox at p; cases p
  | _, _, .exn h hz hf hd n r, p => by unfold D.nox at p; cases p
theorem Reps.nox {K : PySem.W.Frag} {w : Vw} : ∀ {v : List V} {d : List D}, Reps K P w v d → noxs d = true → Reps K [] w v d
  | _, _, .nil, _ => .nil
  | _, _, .cons h t, p => by
    unfold noxs at p
    obtain ⟨p1, p2⟩ := Bool.and_eq_true_iff.mp p
    exact .cons (Rep.nox h p1) (Reps.nox t p2)
theorem RepF.nox {K : PySem.W.Frag} {w : Vw} : ∀ {v : List (Str × V)} {d : List (Str × D)}, RepF K P w v d → noxf d = true → RepF K [] w v d
  | _, _, .nil, _ => .nil
  | _, _, .cons h t, p => by
    unfold noxf at p
    obtain ⟨p1, p2⟩ := Bool.and_eq_true_iff.mp p
    exact .cons (Rep.nox h p1) (RepF.nox t p2)
end
/-- behind a suite: what holds the exception is forgotten -/
def dropX (env : Env) : Env := env.map fun o => o.bind fun d => if d.nox then some d else none
theorem dropX_ok {K : PySem.W.Frag} {w : Vw} {σ : St} {env : Env} (en : EnvOk K P w σ env) : EnvOk K [] w σ (dropX env) := by
  refine ⟨by unfold dropX; rw [List.length_map]; exact en.1, fun i d q => ?_⟩
  unfold dropX at q
  rw [List.getElem?_map] at q
  cases g : env[i]? with
  | none => rw [g] at q; cases q
  | some o =>
    rw [g] at q
    cases o with
    | none => cases q
    | some d0 =>
      have q : some (if d0.nox then some d0 else none) = some (some d) := q
      by_cases h : d0.nox = true
      · rw [if_pos h] at q
        cases q
        obtain ⟨v, h1, h2⟩ := en.2 i d g
        exact ⟨v, h1, h2.nox h⟩
      · rw [if_neg h] at q
        cases q
def sSuite (i : Nat) (r : RS) : RS := match r with
  | .fl (.nx env) S => .fl (.nx (dropX (env.set i none))) S
  | .fl (.rt d) S => if d.nox = true then .fl (.rt d) S else .bad
  | .fl (.bk env) S => .fl (.bk (dropX (env.set i none))) S
  | .fl (.ct env) S => .fl (.ct (dropX (env.set i none))) S
  | _ => .bad
/-- ex: which classes of errors are caught -/
def sTry (ex : List (Addr × Bool)) (g : SF) (i : Nat) (h : SF) : SF := fun env S => match g env S with
  | .exc env' C fs S' => (match ex.lookup C with
    | some true => sSuite i (h (env'.set i (some (.exn C fs))) S')
    | some false => .exc env' C fs S'
    | none => .bad)
  | r => r
theorem lookup_memA {α : Type} {C : Addr} {b : α} : ∀ {l : List (Addr × α)}, l.lookup C = some b → (C, b) ∈ l
  | [], h => by cases h
  | (c, x) :: l, h => by
    unfold List.lookup at h
    cases q : (C == c) with
    | true =>
      rw [q] at h
      cases h
      rw [beq_iff_eq.mp q]
      exact List.mem_cons_self
    | false => rw [q] at h; exact List.mem_cons_of_mem _ (lookup_memA h)
theorem fs_try {nm : Str} {c : Value} {i : Nat} {body suite : List Stmt} {b₀ : Stmt} {np pos' : Pos} {g h : SF} {ex : List (Addr × Bool)} (hpn : P = []) (hs : X.stack = X.env :: X.outer) (hf : X.env.frame = some X.env.locals) (hN : X.N.Nodup) (hi : X.N[i]? = some nm) (hln : X.env.kindOf nm = some .local) (hc : Names X x c) (tk : Takes X W)
    (hex : ∀ q ∈ ex, PySem.W.exmOne X.K (.ref q.1) c = some q.2)
    (hb : ∀ (W' : WX) (pn : List (Addr × Obj)) (xe : Value → Shared → Prop), Takes (X.tr pn xe) W' → PassesOwn (model X.prog X.w) X.A X.env xe → FSs (X.tr pn xe) [] W' body g)
    (hsu : ∀ (a : Addr) (oe : Obj) (pn : List (Addr × Obj)), (∃ vs, oe.data = .fields vs) → FSs (X.suite a ((a, oe) :: pn)) [(a, oe)] WF (b₀ :: suite) h) :
    FS X P W (.Try body [.ExceptHandler (some (.Name x np)) (some nm) (b₀ :: suite) pos'] [] [] pos) (sTry ex g i h) := by
  subst hpn
  refine psI (ps_try_as (i := i) (tb := fun W' => RSt X.K [] W' g) (ts := fun a cls d D σ H => ∀ oe, Zc cls d oe → (∃ vs, oe.data = .fields vs) → RSt X.K [(a, oe)] WF h D σ H) (Wout := W) hs hf hN hi hln hc tk hb
    (fun a oe cls d pn hz hf => pssI (hsu a oe pn hf) fun D σ H q => q oe hz hf)) fun D σ H ⟨w, env, hH, o, en, p⟩ => ?_
  subst hH
  refine ⟨w, env, rfl, o, en, ?_⟩
  unfold sTry at p
  cases q : g env w.S with
  | bad => rw [q] at p; exact p
  | fl f S => rw [q] at p; cases f <;> exact p
  | exc env' C fs S' =>
    rw [q] at p
    have p : PostS X.K [] w (match ex.lookup C with
      | some true => sSuite i (h (env'.set i (some (.exn C fs))) S')
      | some false => .exc env' C fs S'
      | none => .bad) D W := p
    intro w' σ' e' s' o' en' dA a'
    subst s'
    cases l : ex.lookup C with
    | none => rw [l] at p; exact p.elim
    | some b =>
      refine ⟨b, hex (C, b) (lookup_memA l), fun hb a ha oe hz hf => ?_, fun hb => ?_⟩
      · subst hb
        rw [l] at p
        have p : PostS X.K [] w (sSuite i (h (env'.set i (some (.exn C fs))) w'.S)) D W := p
        have up : ∀ q ∈ ([] : Pn), q ∈ [(a, oe)] := fun q hq => by cases hq
        have rx : Rep X.K [(a, oe)] w' (.ref a) (.exn C fs) := by
          rcases a' with ⟨rfl, rfl⟩ | ⟨dd, gs, rfl, h1, h2, h3⟩
          · exact .exn0 List.mem_cons_self hz hf
          · exact .exn List.mem_cons_self hz hf h1 h2 (h3.ext (Ext.refl w') up)
        have en2 : EnvOk X.K [(a, oe)] w' (σ'.set i (some (.ref a))) (env'.set i (some (.exn C fs))) :=
          EnvOk.set ⟨en'.1, fun j d q => by
            obtain ⟨v, h1, h2⟩ := en'.2 j d q
            exact ⟨v, h1, h2.ext (Ext.refl w') up⟩⟩ rx
        refine ⟨w', _, rfl, o', en2, ?_⟩
        have p := p.to e'
        cases qh : h (env'.set i (some (.exn C fs))) w'.S with
        | bad => rw [qh] at p; exact p.elim
        | exc _ _ _ _ => rw [qh] at p; exact p.elim
        | fl f S =>
          cases f with
          | nx env2 =>
            rw [qh] at p
            exact fun w2 σ2 e2 s2 o2 en2 => p w2 _ e2 s2 o2 (dropX_ok en2.drop1)
          | bk env2 =>
            rw [qh] at p
            exact fun w2 σ2 e2 s2 o2 en2 => p w2 _ e2 s2 o2 (dropX_ok en2.drop1)
          | ct env2 =>
            rw [qh] at p
            exact fun w2 σ2 e2 s2 o2 en2 => p w2 _ e2 s2 o2 (dropX_ok en2.drop1)
          | rt d =>
            rw [qh] at p
            have p : PostS X.K [] w' (if d.nox = true then .fl (.rt d) S else .bad) D W := p
            by_cases hd : d.nox = true
            · rw [if_pos hd] at p
              exact fun w2 v e2 s2 o2 r2 => p w2 v e2 s2 o2 (r2.nox hd)
            · rw [if_neg hd] at p
              exact p.elim
      · subst hb
        rw [l] at p
        exact p w' σ' e' rfl o' en' dA a'
/-! ### e.f, isinstance(e, T), e an error -/
def tXg (X : Cx) (f : Str) (te : TE) : TE := fun σ H Q => te σ H fun x H1 => ∃ (a C dd : Addr) (oe : Obj) (fs : List (Str × V)) (v : V), x = .ref a ∧ (a, oe) ∈ X.pn ∧ Zc (.ref C) (some dd) oe ∧ (∃ vs, oe.data = .fields vs) ∧ XfC X.K C ∧ PySem.W.findIn X.K (.ref C) f = some none ∧ H1 dd = some (.xd fs) ∧ fs.lookup f = some v ∧ Q v H1
theorem pe_xg {te : TE} {n : Str} (he : PE X a te) (hb : attributeBase a n X.env (eval a X.env) = eval a X.env := by rfl) : PE X (.Attribute a n pos) (tXg X n te) := by
  refine ⟨fun pins s σ H Q I h => ?_⟩
  refine attr_of hb (thn (he.run pins s σ H _ I h) fun u s1 hh => ?_)
  obtain ⟨x, H1, I1, rx, a, C, dd, oe, fs, v, ex, hm, hz, ⟨vs, hd⟩, T, hno, ea, l, q⟩ := hh
  subst ex
  obtain rfl : u = Value.ref a := rx
  obtain ⟨ha, _⟩ := I1.pin (a, oe) (List.mem_append_left _ hm)
  have hx : ObjOk X.prog X.w H1 s1.heap dd (.xd fs) := I1.hok dd _ ea
  obtain ⟨mA, hns, hr⟩ := hx
  obtain ⟨od, ho, hl⟩ := lookIn_ns hns
  obtain ⟨u, hu, ru⟩ := RelO.some_of (v := v) (o := mA n) (by rw [← l]; exact hr n)
  have J : PySem.W.InstAt s1.heap a oe C (some od) := ⟨ha, hz.1, by unfold PySem.W.notCls; rw [hd] <;> rfl, by rw [hz.2]; exact ho⟩
  exact HandSPX.exc_get I1.kIn J T.ga T.gg T.exC (PySem.W.findObj_own T.hdC hno rfl (by rw [hl, hu])) (handed_of ru) ⟨v, H1, I1.tok _, ru, q⟩
def fExf (cls : List Addr) (n : Str) (f : F) : F := fun env S => (f env S).bind fun d S1 => match d with
  | .exn C fs => if C ∈ cls then R.of (fs.lookup n) S1 else .bad
  | _ => .bad
theorem fe_exf {n : Str} {fa : F} {cls : List Addr} (hP : ∀ q ∈ P, q ∈ X.pn) (hT : ∀ C ∈ cls, XfC X.K C ∧ PySem.W.findIn X.K (.ref C) n = some none) (he : FE X P W a fa) (hb : attributeBase a n X.env (eval a X.env) = eval a X.env := by rfl) : FE X P W (.Attribute a n pos) (fExf cls n fa) :=
  peI (pe_xg he hb) fun σ H Q ⟨w, env, hH, o, en, p⟩ => by
    subst hH
    refine re_bind o en p fun w1 x d e1 o1 en1 r1 p1 => ?_
    cases r1 with
    | @exn0 a C oe h hz hf =>
      have p1 : Post X.K w1 (if C ∈ cls then R.of (List.lookup n []) w1.S else .bad) _ _ := p1
      by_cases hc : C ∈ cls
      · rw [if_pos hc] at p1
        exact p1.elim
      · rw [if_neg hc] at p1
        exact p1.elim
    | @exn a C dd oe fs gs h hz hf hd nm r =>
      have p1 : Post X.K w1 (if C ∈ cls then R.of (gs.lookup n) w1.S else .bad) (fun w' d => ∀ v, Rep X.K P w' v d → Q v w'.H) (WP X.K W σ) := p1
      by_cases hc : C ∈ cls
      · rw [if_pos hc] at p1
        obtain ⟨z, hz2, q⟩ := p1.of
        obtain ⟨v, h1, h2⟩ := r.lookup hz2
        exact ⟨a, C, dd, oe, fs, v, rfl, hP _ h, hz, hf, (hT C hc).1, (hT C hc).2, hd, h1, q w1 (Ext.refl w1) rfl o1 v h2⟩
      · rw [if_neg hc] at p1
        exact p1.elim
    | _ => exact p1.elim
/-- isinstance of an error -/
def rIsX (X : Cx) : List V → Hp → VK → Prop := fun xs H Q => ∃ (a D : Addr) (oe : Obj) (c : V) (cv : Value) (b : Bool), xs = [.ref a, c] ∧ (a, oe) ∈ X.pn ∧ oe.cls = .ref D ∧ (∃ vs, oe.data = .fields vs) ∧ (oe.dict = none ∨ ∃ dd fs, oe.dict = some dd ∧ H dd = some (.xd fs)) ∧ L2.ExcC X.K D ∧ (PySem.W.clsIn X.K D).isSome = true ∧
  ClsV c cv ∧ PySem.W.kitOne X.K (.ref D) cv = some b ∧ Q (.bl b) H
theorem call_isX : CallR X (.builtin "isinstance") (rIsX X) := by
  intro pins s σ H xs us Q I r h
  obtain ⟨a, D, oe, c, cv, b, rfl, hm, hz, ⟨vs, hv⟩, hd, C, hcl, hcv, e, q⟩ := h
  obtain ⟨u1, u2, rfl, r1, r2⟩ := vals2 r
  cases r1
  have ec := hcv.eq r2
  subst ec
  obtain ⟨hget, _⟩ := I.pin (a, oe) (List.mem_append_left _ hm)
  rcases hd with hd | ⟨dd, fs, hd, hx⟩
  · have J : PySem.W.InstAt s.heap a oe D none := ⟨hget, hz, by unfold PySem.W.notCls; rw [hv] <;> rfl, by rw [hd]; trivial⟩
    exact PySem.W.kia_one (PySem.W.kitx_exc hcl C.hg C.hk C.hs C.ha C.hn C.ht C.hm) I.kIn J e (fun z => nomatch z) fun tk => ⟨.bl b, H, I.kept (t' := tk) fun _ _ z => z, rfl, q⟩
  · have hx : ObjOk X.prog X.w H s.heap dd (.xd fs) := I.hok dd _ hx
    obtain ⟨mA, hns, hr⟩ := hx
    obtain ⟨od, ho, hl⟩ := lookIn_ns hns
    have J : PySem.W.InstAt s.heap a oe D (some od) := ⟨hget, hz, by unfold PySem.W.notCls; rw [hv] <;> rfl, by rw [hd]; exact ho⟩
    exact PySem.W.kia_one (PySem.W.kitx_exc hcl C.hg C.hk C.hs C.ha C.hn C.ht C.hm) I.kIn J e (fun z => nomatch z) fun tk => ⟨.bl b, H, I.kept (t' := tk) fun _ _ z => z, rfl, q⟩
/-- the kind of plain data -/
def D.tyn (S : Sto) : D → Option String
  | .non => some "NoneType"
  | .bl _ => some "bool"
  | .int _ => some "int"
  | .str _ => some "str"
  | .lst _ => some "list"
  | .tup _ => some "tuple"
  | .loc m => (Cell.lst? S[m]?).map fun _ => "list"
  | _ => none
def rIsA (X : Cx) : List V → Hp → VK → Prop := fun xs H Q => rIsi X.K xs H Q ∨ rIsX X xs H Q
theorem call_isA : CallR X (.builtin "isinstance") (rIsA X) := by
  intro pins s σ H xs us Q I r h
  rcases h with h | h
  · exact call_isi pins s σ H xs us Q I r h
  · exact call_isX pins s σ H xs us Q I r h
/-- isinstance: tab tells of the classes of errors -/
def lookT (C : Addr) (t : String ⊕ Addr) : List (Addr × (String ⊕ Addr) × Bool) → Option Bool
  | [] => none
  | (c, u, b) :: l => if c = C then (if u = t then some b else lookT C t l) else lookT C t l
def gIsD (tab : List (Addr × (String ⊕ Addr) × Bool)) (S : Sto) (t : String ⊕ Addr) : D → Option D
  | .exn C _ => (lookT C t tab).map .bl
  | d => match t with
    | .inl n => (d.tyn S).bind fun t => (kitB t n).map .bl
    | .inr _ => none
def gIsi (tab : List (Addr × (String ⊕ Addr) × Bool)) : Sto → List D → Option D := fun S ds => match ds with
  | [d, .ty n] => gIsD tab S (.inl n) d
  | [d, .ref c] => gIsD tab S (.inr c) d
  | _ => none
def clsOf : String ⊕ Addr → Value
  | .inl n => .type n
  | .inr c => .ref c
theorem lookT_mem {C : Addr} {t : String ⊕ Addr} {b : Bool} : ∀ {l : List (Addr × (String ⊕ Addr) × Bool)}, lookT C t l = some b → (C, t, b) ∈ l
  | [], h => by cases h
  | (c, u, y) :: l, h => by
    unfold lookT at h
    by_cases h1 : c = C
    · rw [if_pos h1] at h
      by_cases h2 : u = t
      · rw [if_pos h2] at h
        cases h
        subst h1 h2
        exact List.mem_cons_self
      · rw [if_neg h2] at h
        exact List.mem_cons_of_mem _ (lookT_mem h)
    · rw [if_neg h1] at h
      exact List.mem_cons_of_mem _ (lookT_mem h)
theorem tyn_ok {K : PySem.W.Frag} {w : Vw} {v : V} {d : D} {t : String} (o : w.Ok K) (r : Rep K P w v d) (e : d.tyn w.S = some t) : TyX K w.H v (.type t) := by
  cases r with
  | non => cases e; exact .base .non
  | bl b => cases e; exact .base (.bl b)
  | int i => cases e; exact .base (.int i)
  | str x => cases e; exact .base (.str x)
  | lst h r => cases e; exact .base (.lst h.1)
  | tup h r =>
    cases e
    rcases h with ⟨h | ⟨o, h⟩, _⟩ | ⟨o, its, n, h1, h2, _⟩
    · exact .base (.tup h)
    · exact .fTuple h
    · exact .kTuple h1 h2
  | @loc m h =>
    have e : (Cell.lst? w.S[m]?).map (fun _ => "list") = some t := e
    cases g : Cell.lst? w.S[m]? with
    | none => rw [g] at e; cases e
    | some ds =>
      rw [g] at e
      cases e
      obtain ⟨xs, h1, _⟩ := o.cell m _ (lst?_some g)
      exact .base (.lst h1)
  | _ => cases e
theorem sim_isi {tab : List (Addr × (String ⊕ Addr) × Bool)} (hP : ∀ q ∈ P, q ∈ X.pn) (hT : ∀ q ∈ tab, L2.ExcC X.K q.1 ∧ (PySem.W.clsIn X.K q.1).isSome = true ∧ PySem.W.kitOne X.K (.ref q.1) (clsOf q.2.1) = some q.2.2) : SimC X.K P (rIsA X) (gIsi tab) := by
  intro w xs ds z Q o rr e q
  cases rr with
  | nil => cases e
  | @cons v d vs ds r1 rr =>
    cases rr with
    | nil => cases d <;> cases e
    | @cons u c us cs r2 rr =>
      cases rr with
      | cons _ _ => cases d <;> cases c <;> cases e
      | nil =>
        -- an error
        have err : ∀ (C : Addr) (gs : List (Str × D)) (t : String ⊕ Addr) (cv : Value), d = .exn C gs → (lookT C t tab).map D.bl = some z → cv = clsOf t → ClsV u cv → rIsA X [v, u] w.H Q := fun C gs t cv hd hl hcv hu => by
          subst hd hcv
          cases g : lookT C t tab with
          | none => rw [g] at hl; cases hl
          | some b =>
            rw [g] at hl
            cases hl
            obtain ⟨h1, h2, h3⟩ := hT _ (lookT_mem g)
            cases r1 with
            | @exn0 a _ oe h hz hf => exact .inr ⟨a, C, oe, u, _, b, rfl, hP _ h, hz.1, hf, .inl hz.2, h1, h2, hu, h3, q w _ (Ext.refl w) rfl o (.bl _)⟩
            | @exn a _ dd oe fs _ h hz hf hd nm r => exact .inr ⟨a, C, oe, u, _, b, rfl, hP _ h, hz.1, hf, .inr ⟨dd, fs, hz.2, hd⟩, h1, h2, hu, h3, q w _ (Ext.refl w) rfl o (.bl _)⟩
        cases r2 with
        | ty n =>
          by_cases hx : ∃ C gs, d = .exn C gs
          · obtain ⟨C, gs, hd⟩ := hx
            exact err C gs (.inl n) _ hd (by rw [hd] at e; exact e) rfl (.ty n)
          · have e : ((d.tyn w.S).bind fun t => (kitB t n).map D.bl) = some z := by
              cases d with
              | exn C gs => exact absurd ⟨_, _, rfl⟩ hx
              | _ => exact e
            cases g : d.tyn w.S with
            | none => rw [g] at e; cases e
            | some t =>
              rw [g] at e
              have e : (kitB t n).map D.bl = some z := e
              cases g2 : kitB t n with
              | none => rw [g2] at e; cases e
              | some b =>
                rw [g2] at e
                cases e
                exact .inl ⟨v, .ty n, .type t, .type n, b, rfl, .ty n, tyn_ok o r1 g, kit_ty g2, q w _ (Ext.refl w) rfl o (.bl _)⟩
        | ref c =>
          cases d with
          | exn C gs => exact err C gs (.inr c) _ rfl e rfl (.own c)
          | _ => cases e
        | _ => cases d <;> cases e
end
/-! ### defs that are called while an exception is handled -/
open L2H in
structure FnHp (P : Program) (w : World) (K : PySem.W.Frag) (mg : Str → Option Value) (base : Heap) (k : Nat) (f : Addr) (fd : FuncData) (ps : List Str) (sp : Pn → Sp) : Prop where
  len : ∀ pn vs H Q E, sp pn vs H Q E → vs.length = ps.length
  run : ∀ (A : Around) (outer : List PySem.Env) (s : Shared) (H : Hp) (args : Args) (us : List Value) (vs : List V) (Q : VK) (pn : Pn), RoomH k A → (∀ p ∈ pn, PinOk outer H s p) → Env0 P w K mg base A outer s H → BindsTo s fd args (ps.zip us) → Vals vs us → sp pn vs H Q E0 →
    codeAny (model P w) A (.call (.ref f) args) (CR CX0 outer P w H s Q E0) s
/-- the context of such a def's body -/
def cxP (P : Program) (w : World) (K : PySem.W.Frag) (mg : Str → Option Value) (base : Heap) (N : List Str) (qual : Str) (scope : Scope) (f : Addr) (cd : Value) (A : Around) (outer : List PySem.Env) (s : Shared) (H : Hp) (pn : Pn) : Cx :=
  { cxOf CX0 P w K mg base N qual scope f cd A outer s H E0 with calm := false, pn := pn }
open L2H in
theorem inv_startP {P : Program} {w : World} {K : PySem.W.Frag} {mg : Str → Option Value} {base : Heap} {N ps : List Str} {qual : Str} {scope : Scope} {f : Addr} {cd : Value} {A : Around} {outer : List PySem.Env} {s s1 : Shared} {H : Hp} {us : List Value} {vs : List V}
    (S : FnScope N ps scope) {pn : Pn} (hpin : ∀ p ∈ pn, PinOk outer H s p) (e0 : Env0 P w K mg base A outer s H) (hl : vs.length = ps.length) (r : Vals vs us)
    (x : InCallC s s.heap.objs.size (bindL (envOfC qual scope s.heap.objs.size f cd).kindOf (ps.zip us) fun _ => none) (cellsFrom (s.heap.objs.size + 1) scope.names []) (bindC (envOfC qual scope s.heap.objs.size f cd).kindOf (ps.zip us) fun _ => none) s1) :
    Inv (cxP P w K mg base N qual scope f cd A outer s H pn) [] (L2.start N vs) H s1 := by
  have hpl : ps.length ≤ N.length := by have := congrArg List.length S.pre; rw [List.length_take] at this; omega
  obtain ⟨h1, tk, rfl, hk⟩ := x.done
  have noA : ∀ b : Addr, b ∉ (cxP P w K mg base N qual scope f cd A outer s H pn).ex := fun b z => absurd (show b ∈ ([] : List Addr) from z) (by simp)
  refine ⟨⟨e0.mod, S.kind, rfl, rfl, Nat.le_refl _, fun y z c h1 h2 => ?_, fun y hy => ?_, fun y c _ h => ?_, (fun z => Bool.noConfusion (show false = true from z)), Around.frames_deeper e0.frames, .inr ⟨rfl, rfl⟩, fun b z => absurd z (noA b), e0.bs, e0.bsz, fun b _ _ => noA b, fun b z => absurd z (noA b), e0.funs, e0.frf⟩,
    rfl, e0.bare, Un.kept hk, ⟨_, x.toInCall.ns, fun i y v h1 h2 h3 => ?_⟩, fun y c h => ⟨_, x.cell y c h⟩, e0.hok.fresh (Nat.le_refl _), fun y c h => ?_, fun q hq => ?_, e0.hok.kept hk, ?_⟩
  · exact name_of_addr x.apart (PySem.mem_of_lookup h1) (PySem.mem_of_lookup h2)
  · have hy : scope.names.lookup y = some .cell ∨ scope.names.lookup y = some .free := hy
    rcases hy with hy | hy
    · exact cell_has hy
    · exact absurd rfl (S.nofree _ (PySem.mem_of_lookup hy))
  · exact Nat.le_of_lt (x.above y c (PySem.mem_of_lookup h))
  · have hi : i < vs.length := by
      unfold L2.start at h2
      by_cases hi : i < vs.length
      · exact hi
      · rw [List.getElem?_append_right (by simpa using hi)] at h2
        rw [List.getElem?_replicate] at h2
        split at h2 <;> cases h2
    have ha : vs[i]? = some v := by
      unfold L2.start at h2
      rw [List.getElem?_append_left (by simpa using hi), List.getElem?_map] at h2
      cases e : vs[i]? with
      | none => rw [e] at h2; cases h2
      | some a => rw [e] at h2; cases h2; rfl
    obtain ⟨u, hu, rv⟩ := r.get ha
    have hp : ps[i]? = some y := by
      rw [← S.pre, List.getElem?_take_of_lt (by omega)]; exact h1
    have ndP : ps.Nodup := by rw [← S.pre]; exact S.nd.sublist (List.take_sublist _ _)
    refine ⟨u, rv, ?_⟩
    rcases S.par y (List.mem_of_getElem? hp) with k | k
    · exact .inl ⟨k, bindL_get ndP hp hu k⟩
    · obtain ⟨c, e⟩ := cell_has (n := s.heap.objs.size + 1) k
      refine .inr ⟨.inl k, c, e, ?_⟩
      have q := x.cell y c e
      rw [bindC_get ndP hp hu (by show scope.names.lookup y ≠ _; rw [k]; decide)] at q
      exact q
  · exact e0.hok.fresh (Nat.le_of_lt (x.above y c (PySem.mem_of_lookup h)))
  · have eq : q ∈ pn := by simpa using (show q ∈ pn ++ ([] : List (Addr × Obj)) from hq)
    have hp := hpin q eq
    exact ⟨hk q.1 q.2 hp.get, hp.free, Nat.ne_of_lt (Heap.lt_size hp.get), hp.nofs, hp.nocell⟩
  · unfold L2.start
    show _ = N.length
    rw [List.length_append, List.length_map, List.length_replicate]
    omega
open L2H in
theorem fn_ofP {P : Program} {w : World} {K : PySem.W.Frag} {mg : Str → Option Value} {base : Heap} {k : Nat} {f : Addr} {name qual : Str} {params : Arguments} {body : List Stmt} {scope : Scope} {dV kV doc pm cdv ct oc : Value} {an od : Option Addr}
    {osl : Array (Option Value)} {N ps : List Str} {sp : Pn → Sp} (lk : K.lookup f = some ⟨oc, od, .func (PySem.W.fnOf name qual params body scope dV kV doc pm an cdv ct), osl⟩) (hcd : PySem.W.codeIn K cdv qual = true) (S : FnScope N ps scope)
    (len : ∀ pn vs H Q E, sp pn vs H Q E → vs.length = ps.length)
    (hbody : ∀ (A : Around) (outer : List PySem.Env) (s : Shared) (H : Hp) (vs : List V) (Q : VK) (pn : Pn), RoomH k (A.deeper (envOfC qual scope s.heap.objs.size f cdv)) → sp pn vs H Q E0 →
      ∃ t, PSs (cxP P w K mg base N qual scope f cdv A outer s H pn) body t ∧ t { nx := fun _ H' => Q .non H', rt := Q } (L2.start N vs) H) :
    FnHp P w K mg base (k + 1) f (PySem.W.fnOf name qual params body scope dV kV doc pm an cdv ct) ps sp := by
  refine ⟨len, fun A outer s H args us vs Q pn hr hpin e0 hb r hsp => ?_⟩
  have hl := len _ _ _ _ _ hsp
  have KX : K.In s.heap := e0.mod.kin.keeps fun b o e => (e0.bs b o e).1
  have lim : s.heap.NoLimit := e0.mod.nolimit.keeps fun b o e => (e0.bs b o e).1
  have hkind : ∀ y ∈ ps.zip us, scope.names.lookup y.1 = some .local ∨ (scope.names.lookup y.1 = some .cell ∧ ((cellsFrom (s.heap.objs.size + 1) scope.names []).lookup y.1).isSome = true) := fun ⟨n, v⟩ hy => by
    rcases S.par n (List.of_mem_zip hy).1 with q | q
    · exact .inl q
    · exact .inr ⟨q, PySem.W.cellsFrom_some _ _ _ (.inl q)⟩
  refine codeAny_call_function hr.depth (KX _ _ lk) rfl S.co S.gen rfl (PySem.W.codeRec_of KX hcd) (hb _ _ _ _ ?_)
  refine wpAny_newFunctionEnv_cells S.kind hkind fun env he s1 x => ?_
  subst he
  refine ⟨lim.keeps x.toInCall.keep, codeAny_func ?_⟩
  obtain ⟨t, ht, hq⟩ := hbody A outer s H vs Q pn (hr.deeper _) hsp
  have I : Inv (cxP P w K mg base N qual scope f cdv A outer s H pn) [] (L2.start N vs) H s1 := inv_startP S hpin e0 hl r x
  refine wpAny_mono (ht.run [] s1 (L2.start N vs) H _ I hq) (fun fl s' hs => ?_) fun e s' hs => hs
  have fin : ∀ {σ' : St} {H' : Hp} {v : V} {u : Value}, Inv (cxP P w K mg base N qual scope f cdv A outer s H pn) [] σ' H' s' → RelV v u → Q v H' → CE outer P w H s Q u s' :=
    fun {σ' H' v u} J rv q => ⟨v, H', J.os, J.bare, J.base, J.hok, rv, q⟩
  cases fl with
  | ret u =>
    obtain ⟨v, σ', H', J, rv, q⟩ := hs
    exact fin J rv q
  | next =>
    obtain ⟨σ', H', J, q⟩ := hs
    exact fin (v := V.non) (u := Value.none) J rfl q
  | brk =>
    obtain ⟨_, _, _, q⟩ := hs
    exact False.elim q
  | cont =>
    obtain ⟨_, _, _, q⟩ := hs
    exact False.elim q
/-- the promise of such a def: what it does is told by f; no error leaves it -/
def spH (K : PySem.W.Frag) (n : Nat) (f : Fn) : Pn → Sp := fun pn vs H Q _ => ∃ w ds, w.H = H ∧ w.Ok K ∧ Reps K pn w vs ds ∧ ds.length = n ∧
  Post K w (f ds w.S) (fun w' d => ∀ v, Rep K pn w' v d → Q v w'.H) (fun _ _ _ => False)
section
variable {P : Program} {w : World} {K : PySem.W.Frag} {mg : Str → Option Value} {base : Heap} {x qual : Str} {params : Arguments} {body : List Stmt} {scope : Scope} {dvs : List V} {kws : List (Str × V)} {f : Addr} {fd : FuncData}
open L2H in
theorem fn_okH {N ps : List Str} {k : Nat} {g : SF} (F : FunD K x qual params body scope dvs kws f fd) (S : FnScope N ps scope)
    (hbody : ∀ (cdv : Value) (A : Around) (outer : List PySem.Env) (s : Shared) (H : Hp) (pn : Pn), RoomH k (A.deeper (envOfC qual scope s.heap.objs.size f cdv)) →
      FSs (cxP P w K mg base N qual scope f cdv A outer s H pn) pn WF body g) :
    FnHp P w K mg base (k + 1) f fd ps (spH K ps.length (runF g N.length)) := by
  obtain ⟨oc, od, dV, kV, doc, pm, an, cdv, ct, osl, rfl, lk, hcd, _, _⟩ := F.ex
  refine fn_ofP lk hcd S (fun pn vs H Q E ⟨v, ds, _, _, r, hl, _⟩ => r.length.trans hl) fun A outer s H vs Q pn hr hsp => ?_
  refine ⟨_, hbody cdv A outer s H pn hr, ?_⟩
  obtain ⟨v, ds, hH, o, r, hl, p⟩ := hsp
  refine ⟨v, env0 N.length ds, hH, o, env0_ok r, ?_⟩
  unfold runF at p
  cases q : g (env0 N.length ds) v.S with
  | bad => rw [q] at p; exact p.elim
  | exc env C fs S => rw [q] at p; exact fun w' σ' e s o en dA a => p w' e s o
  | fl fl S => cases fl with
    | nx env => rw [q] at p; exact fun w' σ' e s o en => p w' e s o _ .non
    | rt d => rw [q] at p; exact fun w' u e s o r => p w' e s o u r
    | bk env => rw [q] at p; exact p.elim
    | ct env => rw [q] at p; exact p.elim
end
section
variable {X : Cx} {P : Pn} {W : WX} {a : Expr} {es : List Expr} {fs : Fa} {fn : Fn} {k n m : Nat} {f : Addr} {fd : FuncData} {ps : List Str} {x : Str} {p pos : Pos}
open L2H in
theorem fe_callH [L : Len fs m] (hP : ∀ q ∈ P, q ∈ X.pn) (F : FnHp X.prog X.w X.K X.mg X.base k f fd ps (spH X.K n fn)) (hr : RoomH k X.A) (hg : Gl X x) (hm : X.mg x = some (.ref f)) (hk : PySem.W.keepIn X.K (.ref f) = true) (hb : Binds X.K fd ps [])
    (ha : FA X P W (a :: es) fs) (hn : m = n := by rfl) (hdb : (x == ("__debug__" : Str)) = false := by decide) (he : starEach (a :: es) X.env = (false, eval a X.env) :: starEach es X.env := by rfl) (hpl : (backTo pos (starEach es X.env)).any (·.1) = false := by rfl) :
    FE X P W (.Call (.Name x p) (a :: es) [] pos) (fCallH fn fs) := by
  refine ⟨fun pins s σ H Q I ⟨w, env, hH, o, en, pp⟩ => ?_⟩
  subst hH
  refine wpAny_Call_Name_kw (ld_glob I hg hm ?_ hdb)
  have ha' : RA X.K P W fs σ w.H (fun vs H1 => spH X.K n fn P vs H1 Q E0) := by
    refine ⟨w, env, rfl, o, en, ?_⟩
    have pp : Post X.K w ((fs env w.S).bind fun ds S1 => (fn ds S1).noX) (fun w' d => ∀ v, Rep X.K P w' v d → Q v w'.H) (WP X.K W σ) := pp
    cases q : fs env w.S with
    | bad => rw [q] at pp; exact pp.elim
    | exc C gs S => rw [q] at pp; exact pp
    | ok ds S =>
      rw [q] at pp
      intro w1 e1 s1 o1 vs r
      subst s1
      have hl : ds.length = n := (L.len _ _ _ _ q).trans hn
      have pp : Post X.K w (fn ds w1.S).noX (fun w' d => ∀ v, Rep X.K P w' v d → Q v w'.H) (WP X.K W σ) := pp
      refine ⟨w1, ds, rfl, o1, r, hl, ?_⟩
      have pp := pp.to e1
      cases qf : fn ds w1.S with
      | bad => rw [qf] at pp; exact pp.elim
      | exc C gs S => rw [qf] at pp; exact pp.elim
      | ok d S => rw [qf] at pp; exact pp
  refine PySem.W.callWith_K (h₀ := X.base) I.ok.mod.kin hk (thn (ha.run pos pins s σ w.H _ I ha') fun us s1 ⟨vs, H1, I1, r, q⟩ => ⟨I1.kIn, ?_⟩) he hpl
  have hl : us.length = ps.length := by rw [← r.length]; exact F.len _ _ _ _ _ q
  have b := hb s1 us I1.kIn (by rw [List.append_nil]; exact hl)
  rw [List.append_nil] at b
  have hpin : ∀ p ∈ P, PinOk X.stack H1 s1 p := fun p hp => by
    have P1 := I1.pin p (List.mem_append_left _ (hP p hp))
    exact ⟨P1.1, P1.2.1, fun hm => (List.mem_cons.mp (I1.stkSub p.1 hm)).elim P1.2.2.1 P1.2.2.2.1, P1.2.2.2.2⟩
  refine wpAny_call (codeAny_mono (F.run X.A X.stack s1 H1 ⟨us, []⟩ us vs Q P hr hpin I1.env0 b r q) fun r s' hq => ?_)
  cases r with
  | error e => exact hq.elim
  | ok fl =>
    cases fl with
    | ret u => exact I1.after hq
    | next => exact False.elim hq
    | brk => exact False.elim hq
    | cont => exact False.elim hq
end
end FL
set_option maxRecDepth 100000
set_option maxHeartbeats 2000000
namespace FL
open PySem PySem.Spec PyProof.Rows L2
/-! ### sorted of a list of ints -/
def insI (i : Int) : List Int → List Int
  | [] => [i]
  | j :: r => if i ≤ j then i :: j :: r else j :: insI i r
def sortI : List Int → List Int
  | [] => []
  | i :: r => insI i (sortI r)
theorem insI_perm (i : Int) : ∀ l : List Int, (insI i l).Perm (i :: l)
  | [] => .refl _
  | j :: r => by
    unfold insI
    by_cases h : i ≤ j
    · rw [if_pos h]
    · rw [if_neg h]
      exact ((insI_perm i r).cons j).trans (.swap i j r)
theorem sortI_perm : ∀ l : List Int, (sortI l).Perm l
  | [] => .refl _
  | i :: r => (insI_perm i (sortI r)).trans ((sortI_perm r).cons i)
theorem insI_sorted (i : Int) : ∀ l : List Int, l.Pairwise (· ≤ ·) → (insI i l).Pairwise (· ≤ ·)
  | [], _ => List.pairwise_singleton _ _
  | j :: r, h => by
    unfold insI
    by_cases q : i ≤ j
    · rw [if_pos q]
      refine List.pairwise_cons.mpr ⟨fun k hk => ?_, h⟩
      rcases List.mem_cons.mp hk with e | hk
      · rw [e]; exact q
      · exact Int.le_trans q ((List.pairwise_cons.mp h).1 k hk)
    · rw [if_neg q]
      refine List.pairwise_cons.mpr ⟨fun k hk => ?_, insI_sorted i r (List.pairwise_cons.mp h).2⟩
      rcases List.mem_cons.mp ((insI_perm i r).mem_iff.mp hk) with e | hk
      · rw [e]; omega
      · exact (List.pairwise_cons.mp h).1 k hk
theorem sortI_sorted : ∀ l : List Int, (sortI l).Pairwise (· ≤ ·)
  | [] => .nil
  | i :: r => insI_sorted i _ (sortI_sorted r)
theorem sorted_uniq : ∀ {a b : List Int}, a.Perm b → a.Pairwise (· ≤ ·) → b.Pairwise (· ≤ ·) → a = b
  | [], b, h, _, _ => (List.nil_perm.mp h).symm
  | i :: r, [], h, _, _ => by cases List.perm_nil.mp h
  | i :: r, j :: s, h, h1, h2 => by
    obtain ⟨q1, q1'⟩ := List.pairwise_cons.mp h1
    obtain ⟨q2, q2'⟩ := List.pairwise_cons.mp h2
    have e : i = j := by
      rcases List.mem_cons.mp (h.mem_iff.mp List.mem_cons_self) with e | m
      · exact e
      · rcases List.mem_cons.mp (h.symm.mem_iff.mp List.mem_cons_self) with e | m2
        · exact e.symm
        · have := q2 i m; have := q1 j m2; omega
    subst e
    rw [sorted_uniq (List.perm_cons i |>.mp h) q1' q2']
def gSorted : Sto → List D → Option (List D) := fun S ds => match ds with
  | [d] => (lintsOf S d).bind fun ns => if ns.length < 64 then some ((sortI ns).map .int) else none
  | _ => none
theorem reps_ints {K : PySem.W.Frag} {P : Pn} {w : Vw} : ∀ ns : List Int, Reps K P w (ns.map V.int) (ns.map D.int)
  | [] => .nil
  | i :: r => .cons (.int i) (reps_ints r)
theorem sim_sorted {K : PySem.W.Frag} {P : Pn} : SimL K P (rSorted K) gSorted := by
  intro w xs ds es Q o rr e q
  cases rr with
  | nil => cases e
  | @cons x d _ _ r1 rr =>
    cases rr with
    | cons _ _ => cases e
    | nil =>
      have e : ((lintsOf w.S d).bind fun ns => if ns.length < 64 then some ((sortI ns).map D.int) else none) = some es := e
      cases g : lintsOf w.S d with
      | none => rw [g] at e; cases e
      | some ns =>
        rw [g] at e
        have e : (if ns.length < 64 then some ((sortI ns).map D.int) else none) = some es := e
        by_cases h : ns.length < 64
        · rw [if_pos h] at e
          cases e
          obtain ⟨a, rfl, hs⟩ := lints_of o r1 g
          refine ⟨a, ns, rfl, hs, h, fun ns' p hp hso hn => ?_⟩
          have : ns' = sortI ns := sorted_uniq (hp.trans (sortI_perm ns).symm) hso (sortI_sorted ns)
          subst this
          exact q p _ hn (reps_ints _)
        · rw [if_neg h] at e
          cases e
/-! ### list(range(n)) -/
def gLRg (lo : Sto → List D → Option (Int × Int)) : Sto → List D → Option (List D) := fun S ds => (lo S ds).bind fun q => if -(2 ^ 62) ≤ q.1 ∧ q.1 < 2 ^ 62 ∧ -(2 ^ 62) ≤ q.2 ∧ q.2 < 2 ^ 62 ∧ (q.2 - q.1).toNat ≤ 2 ^ 24 then some (rngD q.1 (q.2 - q.1).toNat) else none
def lo1 : Sto → List D → Option (Int × Int) := fun _ ds => match ds with
  | [.int n] => some (0, n)
  | _ => none
theorem reps_rg {K : PySem.W.Frag} {P : Pn} {w : Vw} (a b : Int) : Reps K P w (rgV a b) (rngD a (b - a).toNat) := by
  unfold rgV rngD
  generalize (List.range (b - a).toNat) = l
  induction l with
  | nil => exact .nil
  | cons i r h => exact .cons (.int _) h
section
variable {X : Cx} {P : Pn} {W : WX} {a : Expr} {fa : F} {p pos p2 pos2 : Pos}
theorem fe_listRgL (hpn : P = []) (hc : X.calm = true) (hg : Gl X "list") (hm : X.mg "list" = none) (hg2 : Gl X "range") (hm2 : X.mg "range" = none) (ha : FE X P W a fa)
    (na : starEach [.Call (.Name "range" p2) [a] [] pos2] X.env = (false, eval (.Call (.Name "range" p2) [a] [] pos2) X.env) :: starEach [] X.env := by rfl) (na2 : starEach [a] X.env = (false, eval a X.env) :: starEach [] X.env := by rfl) :
    FE X P W (.Call (.Name "list" p) [.Call (.Name "range" p2) [a] [] pos2] [] pos) (fBuL (gLRg lo1) (fCons fa fNil)) :=
  peI (pe_listRg hc hg hm (prg_1 hg2 hm2 ha na2) na) fun σ H Q ⟨w, env, hH, o, en, pp⟩ => by
    subst hH
    have pp : Post X.K w ((fa env w.S).bind fun d S1 => (R.of (gLRg lo1 S1 [d]) S1).bind fun es S2 => .ok (.loc S2.length) (S2 ++ [.lst es])) (fun w' d => ∀ v, Rep X.K P w' v d → Q v w'.H) (WP X.K W σ) := by
      unfold fBuL fCons fNil at pp
      cases q : fa env w.S with
      | bad => rw [q] at pp; exact pp
      | exc C fs S => rw [q] at pp; exact pp
      | ok d S => rw [q] at pp; exact pp
    show RE X.K P W fa σ w.H fun x H1 => ∃ n : Int, x = .int n ∧ RgOk 0 n ∧ ∀ q, H1 q = none → Q (.ref q) (upd H1 q (.lst (rgV 0 n)))
    refine re_bind o en pp fun w1 x d e1 o1 en1 r1 p1 => ?_
    obtain ⟨es, h1, k⟩ := fin_loc hpn o1 p1
    cases r1 with
    | int n =>
      have h1 : (if -(2 ^ 62) ≤ (0 : Int) ∧ (0 : Int) < 2 ^ 62 ∧ -(2 ^ 62) ≤ n ∧ n < 2 ^ 62 ∧ (n - 0).toNat ≤ 2 ^ 24 then some (rngD 0 (n - 0).toNat) else none) = some es := h1
      by_cases hh : -(2 ^ 62) ≤ (0 : Int) ∧ (0 : Int) < 2 ^ 62 ∧ -(2 ^ 62) ≤ n ∧ n < 2 ^ 62 ∧ (n - 0).toNat ≤ 2 ^ 24
      · rw [if_pos hh] at h1
        cases h1
        refine ⟨n, rfl, hh, fun q hq => ?_⟩
        obtain ⟨w', e, p, r⟩ := k q (rgV 0 n) hq (reps_rg 0 n)
        have := p _ r
        rw [e] at this
        exact this
      · rw [if_neg hh] at h1
        cases h1
    | _ => cases h1
end
/-! ### y = [..] -/
section
variable {X : Cx} {P : Pn} {W : WX} {elt tg iter : Expr} {ifs : List Expr} {scope : Scope} {own : List (Str × Nat)} {pos : Pos} {fi : Fi} {g : TGf} {ft : Ft} {fe : F}
theorem fs_setLc {i : Nat} {y : Str} {py spos : Pos} (hc : X.calm = true) (hN : X.N.Nodup) (hy : X.N[i]? = some y) (hyl : X.env.scope.names.lookup y = some .local)
    (hsw : swapsWith (.ListComp elt [⟨tg, iter, ifs, 0⟩] scope pos) (some (.Name y py)) spos.line X.env = pure true) (hi : FI X P W tg iter fi) (ok : BlkOk X.N X.env.scope scope own)
    (hg : ∀ (s : Shared) (H : Hp) (C : Addr) (cl : List (Str × Addr)) (fp : List Addr), FGv (X.blk s H scope (compEnvC scope cl C X.env) fp) P (ownS own) tg g)
    (ht : ∀ (s : Shared) (H : Hp) (C : Addr) (cl : List (Str × Addr)) (fp : List Addr), FTs (X.blk s H scope (compEnvC scope cl C X.env) fp) P WF ifs ft)
    (he : ∀ (s : Shared) (H : Hp) (C : Addr) (cl : List (Str × Addr)) (fp : List Addr), FE (X.blk s H scope (compEnvC scope cl C X.env) fp) P WF elt fe) (hs : ∀ x, foldedSetIterable iter X.env x = pure x := by intro _; rfl) :
    FS X P W (.Assign [.Name y py] (.ListComp elt [⟨tg, iter, ifs, 0⟩] scope pos) spos) (sAsg (fLc fi g ft fe (ownS own)) (gN i)) :=
  fs_setLcG (fA := sNext) (k := fun es S => .ok (.lst es) S) hc hN hy hyl hsw hi ok hg ht he (fun w1 w2 D0 ys es P' W' e2 hD o2 hl hz nz rr p => by
    obtain ⟨h1, h2, h3⟩ := lc_end e2 hD o2 hl hz nz rr
    exact ⟨w2.z w1.Z, .lst es, rfl, p (w2.z w1.Z) h1 rfl h2, h1, h2, h3⟩) hs
theorem fs_setLcL {i : Nat} {y : Str} {py spos : Pos} (hpn : P = []) (hc : X.calm = true) (hN : X.N.Nodup) (hy : X.N[i]? = some y) (hyl : X.env.scope.names.lookup y = some .local)
    (hsw : swapsWith (.ListComp elt [⟨tg, iter, ifs, 0⟩] scope pos) (some (.Name y py)) spos.line X.env = pure true) (hi : FI X P W tg iter fi) (ok : BlkOk X.N X.env.scope scope own)
    (hg : ∀ (s : Shared) (H : Hp) (C : Addr) (cl : List (Str × Addr)) (fp : List Addr), FGv (X.blk s H scope (compEnvC scope cl C X.env) fp) P (ownS own) tg g)
    (ht : ∀ (s : Shared) (H : Hp) (C : Addr) (cl : List (Str × Addr)) (fp : List Addr), FTs (X.blk s H scope (compEnvC scope cl C X.env) fp) P WF ifs ft)
    (he : ∀ (s : Shared) (H : Hp) (C : Addr) (cl : List (Str × Addr)) (fp : List Addr), FE (X.blk s H scope (compEnvC scope cl C X.env) fp) P WF elt fe) (hs : ∀ x, foldedSetIterable iter X.env x = pure x := by intro _; rfl) :
    FS X P W (.Assign [.Name y py] (.ListComp elt [⟨tg, iter, ifs, 0⟩] scope pos) spos) (sAsg (fLcL fi g ft fe (ownS own)) (gN i)) := by
  subst hpn
  exact fs_setLcG (fA := sNext) (k := fun es S => .ok (.loc S.length) (S ++ [.lst es])) hc hN hy hyl hsw hi ok hg ht he (fun w1 w2 D0 ys es P' W' e2 hD o2 hl hz nz rr p => by
    obtain ⟨h1, h2, h3⟩ := lc_endL e2 hD o2 hl hz nz rr
    exact ⟨Vw.lcv w1 w2 D0 es, .loc w2.S.length, rfl, p (Vw.lcv w1 w2 D0 es) h1 rfl h2, h1, h2, h3⟩) hs
end
/-! ### the __init__ of an own error -/
section
variable {P : Program} {w : World} {K : PySem.W.Frag} {mg : Str → Option Value} {base : Heap} {x qual : Str} {params : Arguments} {scope : Scope} {fI C : Addr} {fd : FuncData} {a b c f g : Str} {p1 p2 p3 p4 p5 p6 p7 p8 : Pos}
theorem ok_ini2 (F : FunD K x qual params [.Assign [.Attribute (.Name a p1) f p2] (.Name b p3) p4, .Assign [.Attribute (.Name a p5) g p6] (.Name c p7) p8] scope [] [] fI fd) (S : FnScope [a, b, c] [a, b, c] scope) (T : OexC K C)
    (n1 : PySem.W.findIn K (.ref C) f = some none) (n2 : PySem.W.findIn K (.ref C) g = some none) (va : Vis scope a) (vb : Vis scope b) (vc : Vis scope c)
    (da : (a == ("__debug__" : Str)) = false) (db : (b == ("__debug__" : Str)) = false) (dc : (c == ("__debug__" : Str)) = false) (da' : (a == ("__classdict__" : Str)) = false) (db' : (b == ("__classdict__" : Str)) = false) (dc' : (c == ("__classdict__" : Str)) = false) : FnOk P w K mg base CX0 1 fI fd [a, b, c] (spIni2 C f g) := by
  refine F.ok S (fun vs H Q E ⟨_, _, _, e, _⟩ => by rw [e]; rfl) (fun cdv A outer s H vs Q E hr h => ⟨tSeq (tOst K f (tVar 0) (tVar 1)) (tOst K g (tVar 0) (tVar 2)), PSs.nox (pss_cons (ps_ost (pe_var (i := 0) rfl va da da') (pe_var (i := 1) rfl vb db db')) (pss_one (ps_ost (pe_var (i := 0) rfl va da da') (pe_var (i := 2) rfl vc dc dc')))), ?_⟩)
  obtain ⟨o, y1, y2, rfl, ho, q⟩ := h
  refine ⟨y1, rfl, .ref o, rfl, o, C, rfl, T, n1, .inl ⟨ho, fun dx hdx hne => ?_⟩⟩
  refine ⟨y2, rfl, .ref o, rfl, o, C, rfl, T, n2, .inr ⟨dx, [(f, y1)], upd_same, ?_, by show 1 ≤ 900; decide, q dx hdx hne⟩⟩
  rw [upd_ne hne, upd_same]
end
end FL
set_option maxRecDepth 100000
set_option maxHeartbeats 2000000
namespace FL
open PySem PySem.Spec PyProof.Rows L2
section
variable {P : Program} {w : World} {K : PySem.W.Frag} {mg : Str → Option Value} {base : Heap} {N ps : List Str} {qual : Str} {scope : Scope} {f : PySem.Addr} {cd : Value} {A : Around} {outer : List PySem.Env} {s : Shared} {H : Hp} {E : XK} {fd : FuncData}
theorem tk_cx : Takes (cxOf (L2.CX P w) P w K mg base N qual scope f cd A outer s H E) (fun cls d _ H => E cls d H) := takes_of rfl rfl rfl rfl
theorem own_cx : PassesOwn (model P w) (cxOf (L2.CX P w) P w K mg base N qual scope f cd A outer s H E).A (cxOf (L2.CX P w) P w K mg base N qual scope f cd A outer s H E).env (cxOf (L2.CX P w) P w K mg base N qual scope f cd A outer s H E).xe := passes_of rfl
theorem tkF {X : Cx} : Takes X WF := fun u s' ⟨_, _, _, _, _, _, _, _, _, _, _, _, _, _, _, _, w⟩ => w.elim
theorem fn_bad {CX : CXT} {k : Nat} : FnOk P w K mg base CX k f fd ps (spF K ps.length fun _ _ => .bad) :=
  ⟨fun vs H Q E ⟨v, ds, _, _, r, hl, _⟩ => r.length.trans hl, fun A outer s H args us vs Q E _ _ _ _ ⟨v, ds, _, _, _, _, p⟩ => p.elim⟩
end
open L2H in
theorem huH {k : Nat} {A : Around} (r : RoomH k A) : A.units + 64 < cLine := by have := r.un; omega
open L2H in
theorem roomH_suite {k : Nat} {A : Around} {v : Option Value} (r : Room k A) : RoomH k (A.mark v) := ⟨r.dp, r.un⟩
/-! ### a, b = x, y -/
def sPar (i j : Nat) (fs : Fa) : SF := fun env S => (fs env S).bindS env fun ds S1 => match ds with
  | [d, e] => .fl (.nx ((env.set i (some d)).set j (some e))) S1
  | _ => .bad
section
variable {X : Cx} {P : Pn} {W : WX} {a b : Expr} {fs : Fa} {pos : Pos}
theorem fs_par {i j : Nat} {x y : Str} {px py pt : Pos} {kt k2 pt2} (hc : X.calm = true) (hN : X.N.Nodup) (hi : X.N[i]? = some x) (hj : X.N[j]? = some y) (hij : i ≠ j)
    (hx : X.env.scope.names.lookup x = some .local) (hy : X.env.scope.names.lookup y = some .local) (ha : FA X P W [a, b] fs)
    (hw : swappedStores [.Tuple [.Name x px, .Name y py] kt pt] (.Tuple [a, b] k2 pt2) X.env = pure (some [x, y]))
    (hs : swapsWithSole [.Tuple [.Name x px, .Name y py] kt pt] (.Tuple [a, b] k2 pt2) pos.line X.env = pure false := by rfl) :
    FS X P W (.Assign [.Tuple [.Name x px, .Name y py] kt pt] (.Tuple [a, b] k2 pt2) pos) (sPar i j fs) := psI (ps_par hc hN hi hj hij hx hy ha hw hs) fun D σ H ⟨w, env, hH, o, en, p⟩ => by
  subst hH
  refine ⟨w, env, rfl, o, en, (Post.ofS en p).mono (fun w1 ds e1 o1 p1 vs r1 => ?_) fun _ _ _ _ _ q => q⟩
  cases r1 with
  | nil => exact p1.elim
  | cons r1 rr =>
    cases rr with
    | nil => exact p1.elim
    | cons r2 rr =>
      cases rr with
      | cons _ _ => exact p1.elim
      | nil => exact ⟨_, _, rfl, p1 w1 _ (Ext.refl w1) rfl o1 (((en.to e1).set r1).set r2)⟩
end
end FL
set_option maxRecDepth 100000
set_option maxHeartbeats 2000000
namespace FL
open PySem PySem.Spec PyProof.Rows L2
/-! ### a def whose new cells are forgotten, whose new list is told as a value -/
def keptB (S S3 : Sto) : Bool := decide (S.length ≤ S3.length) && (S3.take S.length).all (Cell.plain S.length)
def frzC (n : Nat) (S2 : Sto) : Option Cell → R D
  | some (.lst es) => if plains n es = true then .ok (.lst es) S2 else .bad
  | _ => .bad
def frzR (S : Sto) : R D → R D
  | .ok d S3 => if keptB S S3 = true then
      (if d.plain S.length = true then .ok d (S3.take S.length) else match d with
        | .loc m => frzC S.length (S3.take S.length) S3[m]?
        | _ => .bad) else .bad
  | .exc C fs S3 => if (keptB S S3 && plainf S.length fs) = true then .exc C fs (S3.take S.length) else .bad
  | .bad => .bad
def frz (f : Fn) : Fn := fun ds S => frzR S (f ds S)
theorem kept_shr {S S3 : Sto} (h : keptB S S3 = true) : Shr S (S3.take S.length) S3 := by
  obtain ⟨h1, h2⟩ := Bool.and_eq_true_iff.mp h
  have h1 := of_decide_eq_true h1
  refine ⟨by rw [List.length_take]; omega, h1, fun m c e => ?_⟩
  have hm : m < S.length := by
    have := (List.getElem?_eq_some_iff.mp e).1
    rw [List.length_take] at this
    omega
  refine ⟨by rw [List.getElem?_take_of_lt hm] at e; exact e, .inr (List.all_eq_true.mp h2 c (List.mem_of_getElem? e))⟩
theorem frz_nice (f : Fn) (ds : List D) (S : Sto) : Nicer S (f ds S) (frz f ds S) := by
  show Nicer S (f ds S) (frzR S (f ds S))
  generalize f ds S = r0
  cases r0 with
  | bad => exact trivial
  | exc C fs S3 =>
    show Nicer S _ (if (keptB S S3 && plainf S.length fs) = true then .exc C fs (S3.take S.length) else .bad)
    by_cases h : (keptB S S3 && plainf S.length fs) = true
    · rw [if_pos h]
      obtain ⟨h1, h2⟩ := Bool.and_eq_true_iff.mp h
      exact ⟨S3, rfl, kept_shr h1, h2⟩
    · rw [if_neg h]
      exact trivial
  | ok d S3 =>
    show Nicer S _ (if keptB S S3 = true then
      (if d.plain S.length = true then .ok d (S3.take S.length) else match d with
        | .loc m => frzC S.length (S3.take S.length) S3[m]?
        | _ => .bad) else .bad)
    by_cases h : keptB S S3 = true
    · rw [if_pos h]
      by_cases h2 : d.plain S.length = true
      · rw [if_pos h2]
        exact ⟨d, S3, rfl, kept_shr h, .same h2⟩
      · rw [if_neg h2]
        cases d with
        | loc m =>
          have hm : ¬ m < S.length := fun z => h2 (by unfold D.plain; exact decide_eq_true z)
          show Nicer S (.ok (.loc m) S3) (frzC S.length (S3.take S.length) S3[m]?)
          cases g : S3[m]? with
          | none => exact trivial
          | some c =>
            cases c with
            | ins _ _ => exact trivial
            | lst es =>
              show Nicer S _ (if plains S.length es = true then .ok (.lst es) (S3.take S.length) else .bad)
              by_cases h3 : plains S.length es = true
              · rw [if_pos h3]
                exact ⟨.loc m, S3, rfl, kept_shr h, .lst (by omega) g (FinL.same h3)⟩
              · rw [if_neg h3]
                exact trivial
        | _ => exact trivial
    · rw [if_neg h]
      exact trivial
/-! ### what the meanings compute -/
section
variable {S S1 : Sto} {i j : Int}
theorem size16 {n : Nat} (h : n ≤ 16777216) : n ≤ sizeLine := by rw [sizeLine_eq]; exact h
theorem size16' {n : Nat} (h : n < 16777216) : n < sizeLine := by rw [sizeLine_eq]; exact h
theorem gAdd_int : gAdd S (.int i) (.int j) = some (.int (i + j)) := rfl
theorem gSub_int : gSub S (.int i) (.int j) = some (.int (i - j)) := rfl
theorem gLt_int : gLt S (.int i) (.int j) = some (.bl (decide (i < j))) := rfl
theorem gLe_int : gLe S (.int i) (.int j) = some (.bl (decide (i ≤ j))) := rfl
theorem gGt_int : gGt S (.int i) (.int j) = some (.bl (decide (j < i))) := rfl
theorem gGe_int : gGe S (.int i) (.int j) = some (.bl (decide (j ≤ i))) := rfl
theorem gNeg_int : gNeg S (.int i) = some (.int (-i)) := rfl
theorem gMod_int (h : 0 < j) : gMod S (.int i) (.int j) = some (.int (i % j)) := if_pos (decide_eq_true h)
theorem gDiv_int (h : 0 < j) (h2 : j < 1073741824) : gDiv S (.int i) (.int j) = some (.int (i / j)) := if_pos (decide_eq_true ⟨h, h2⟩)
theorem gMul_int (h : -(2 ^ 64) < i ∧ i < 2 ^ 64) : gMul S (.int i) (.int j) = some (.int (i * j)) := if_pos (decide_eq_true (.inl h))
theorem gI2C_int {f : Int → Int → Int} : gI2C f S [.int i, .int j] = some (.int (f i j)) := rfl
theorem gAbs_int : gAbs S [.int i] = some (.int (if i < 0 then -i else i)) := rfl
theorem gInt_int : gInt S [.int i] = some (.int i) := rfl
theorem eqv_int : PyData.eqv (.int i) (.int j) = decide (i = j) := by
  unfold PyData.eqv
  first | rfl | (show (i == j) = decide (i = j); by_cases h : i = j <;> simp [h])
theorem gEq_int : gEq false S (.int i) (.int j) = some (.bl (decide (i = j))) := by
  show (if (SeqAt.shaped (PyData.int i) && SeqAt.shaped (PyData.int j)) = true then some (D.bl (PyData.eqv (.int i) (.int j))) else none) = _
  rw [if_pos (by rfl), eqv_int]
theorem gNe_int : gEq true S (.int i) (.int j) = some (.bl (!decide (i = j))) := by
  show (if (SeqAt.shaped (PyData.int i) && SeqAt.shaped (PyData.int j)) = true then some (D.bl (!PyData.eqv (.int i) (.int j))) else none) = _
  rw [if_pos (by rfl), eqv_int]
theorem gCat_lst {xs ys : List D} (h : xs.length + ys.length ≤ 16777216) : gAdd S (.lst xs) (.lst ys) = some (.lst (xs ++ ys)) := by
  show ((if xs.length + ys.length ≤ sizeLine then some (xs ++ ys) else none).map D.lst) = _
  rw [if_pos (size16 h)]
  rfl
theorem gLen_lst {xs : List D} : gLen S [.lst xs] = some (.int xs.length) := rfl
theorem gLen_tup {xs : List D} : gLen S [.tup xs] = some (.int xs.length) := rfl
theorem gLen_loc {m : Nat} {xs : List D} (h : S[m]? = some (.lst xs)) : gLen S [.loc m] = some (.int xs.length) := by
  show ((Cell.lst? S[m]?).map List.length).map (fun n : Nat => D.int n) = _
  rw [h]
  rfl
theorem atI_nat {α : Type} {xs : List α} {k : Nat} {z : α} (h : xs[k]? = some z) : atI xs (k : Int) = some z := L2.atI_nat h
theorem gIx_lst {xs : List D} {k : Nat} {z : D} (h : xs[k]? = some z) : gIx S (.lst xs) (.int (k : Int)) = some z := atI_nat h
theorem gIx_tup {xs : List D} {k : Nat} {z : D} (h : xs[k]? = some z) : gIx S (.tup xs) (.int (k : Int)) = some z := atI_nat h
theorem gIx_loc {m : Nat} {xs : List D} {k : Nat} {z : D} (hc : S[m]? = some (.lst xs)) (h : xs[k]? = some z) : gIx S (.loc m) (.int (k : Int)) = some z := by
  show (Cell.lst? S[m]?).bind (fun ds => atI ds (k : Int)) = _
  rw [hc]
  exact atI_nat h
end
/-! ### loops -/
theorem forL_run {body : D → SF} (I : List D → Env → Sto → Prop) (step : ∀ d r env S, I (d :: r) env S → ∃ env' S', body d env S = .fl (.nx env') S' ∧ I r env' S') :
    ∀ ds env S, I ds env S → ∃ env' S', forL body ds env S = .fl (.nx env') S' ∧ I [] env' S'
  | [], env, S, h => ⟨env, S, rfl, h⟩
  | d :: r, env, S, h => by
    obtain ⟨env1, S1, e, h1⟩ := step d r env S h
    obtain ⟨env2, S2, e2, h2⟩ := forL_run I step r env1 S1 h1
    refine ⟨env2, S2, ?_, h2⟩
    unfold forL
    rw [e]
    exact e2
theorem sFor_fix {fi : Fi} {g : TGf} {b : SF} {env : Env} {S S1 : Sto} {ds : List D} (h : fi env S = .ok (.fix ds) S1) :
    sFor fi g b env S = forL (fun d env S => match g d env S with
      | some env' => b env' S
      | none => .bad) ds env S1 := by
  unfold sFor
  rw [h]
  rfl
def lcL (body : D → Sto → R (Option D)) : List D → List D → Sto → R (List D)
  | [], acc, S => .ok acc S
  | d :: r, acc, S => (body d S).bind fun o S1 => match o with
    | some z => if acc.length < sizeLine then lcL body r (acc ++ [z]) S1 else .bad
    | none => lcL body r acc S1
theorem lcS_fix {body : D → Sto → R (Option D)} (all : List D) : ∀ (ds : List D) (i : Nat) (acc : List D) (S : Sto), all.drop i = ds → lcS (.fix all) body ds.length i acc S = lcL body ds acc S
  | [], i, acc, S, h => by
    have e : all[i]? = none := by
      have := List.getElem?_drop (xs := all) (i := i) (j := 0)
      rw [h] at this
      simpa using this.symm
    unfold lcS lcL
    show (match some all[i]? with | none => R.bad | some none => _ | some (some d) => _) = _
    rw [e]
  | d :: r, i, acc, S, h => by
    have e : all[i]? = some d := by
      have := List.getElem?_drop (xs := all) (i := i) (j := 0)
      rw [h] at this
      simpa using this.symm
    have h2 : all.drop (i + 1) = r := by
      rw [← List.drop_drop, h]
      rfl
    unfold lcS lcL
    show (match some all[i]? with | none => R.bad | some none => R.ok acc S | some (some d) => (body d S).bind fun o S1 => match o with
        | some z => if acc.length < sizeLine then lcS (.fix all) body r.length (i + 1) (acc ++ [z]) S1 else .bad
        | none => lcS (.fix all) body r.length (i + 1) acc S1) = _
    rw [e]
    show (body d S).bind _ = (body d S).bind _
    congr 1
    funext o S1
    cases o with
    | none => exact lcS_fix all r (i + 1) acc S1 h2
    | some z => 
      show (if acc.length < sizeLine then lcS (.fix all) body r.length (i + 1) (acc ++ [z]) S1 else .bad) = (if acc.length < sizeLine then lcL body r (acc ++ [z]) S1 else .bad)
      rw [lcS_fix all r (i + 1) (acc ++ [z]) S1 h2]
theorem lcL_pure {body : D → Sto → R (Option D)} {h : D → Option D} {S : Sto} : ∀ (ds acc : List D), (∀ d ∈ ds, body d S = .ok (h d) S) → acc.length + ds.length ≤ 16777216 → lcL body ds acc S = .ok (acc ++ ds.filterMap h) S
  | [], acc, _, _ => by unfold lcL; simp
  | d :: r, acc, hb, hl => by
    unfold lcL
    rw [hb d List.mem_cons_self]
    have hl : acc.length + (r.length + 1) ≤ 16777216 := hl
    have hb' : ∀ d ∈ r, body d S = .ok (h d) S := fun d hd => hb d (List.mem_cons_of_mem _ hd)
    show (match h d with
      | some z => if acc.length < sizeLine then lcL body r (acc ++ [z]) S else .bad
      | none => lcL body r acc S) = _
    cases q : h d with
    | none =>
      rw [List.filterMap_cons, q]
      exact lcL_pure r acc hb' (by omega)
    | some z =>
      rw [List.filterMap_cons, q]
      show (if acc.length < sizeLine then lcL body r (acc ++ [z]) S else .bad) = _
      rw [if_pos (size16' (by omega)), lcL_pure r (acc ++ [z]) hb' (by rw [List.length_append]; show acc.length + 1 + _ ≤ _; omega), List.append_assoc]
      rfl
theorem fLcA_pure {fi : Fi} {g : TGf} {ft : Ft} {fe : F} {vs : List Nat} {env : Env} {S S1 : Sto} {ds : List D} (h : D → Option D) (hi : fi env S = .ok (.fix ds) S1) (hl : ds.length ≤ 16777216) (hb : ∀ d ∈ ds, lcBody g ft fe (wipeE env vs) d S1 = .ok (h d) S1) :
    fLcA fi g ft fe vs env S = .ok (ds.filterMap h) S1 := by
  unfold fLcA
  rw [hi]
  show lcS (.fix ds) _ ds.length 0 [] S1 = _
  rw [lcS_fix ds ds 0 [] S1 rfl, lcL_pure ds [] hb (by simpa using hl)]
  rfl
theorem fLc_pure {fi : Fi} {g : TGf} {ft : Ft} {fe : F} {vs : List Nat} {env : Env} {S S1 : Sto} {ds : List D} (h : D → Option D) (hi : fi env S = .ok (.fix ds) S1) (hl : ds.length ≤ 16777216) (hb : ∀ d ∈ ds, lcBody g ft fe (wipeE env vs) d S1 = .ok (h d) S1) :
    fLc fi g ft fe vs env S = .ok (.lst (ds.filterMap h)) S1 := by
  unfold fLc
  rw [fLcA_pure h hi hl hb]
  rfl
/-! ### equality of the same data -/
mutual
def PyData.simple : PyData → Bool
  | .none => true
  | .bool _ => true
  | .int _ => true
  | .str _ => true
  | .tuple xs => simples xs
  | .list xs => simples xs
  | _ => false
def simples : List PyData → Bool
  | [] => true
  | x :: r => PyData.simple x && simples r
end
end FL
set_option maxRecDepth 100000
set_option maxHeartbeats 2000000
namespace FL
open PySem PySem.Spec PyProof.Rows L2
abbrev iD (xs : List Int) : List FL.D := xs.map .int
abbrev pool (xs : List Int) (T : Sto) : Sto := .lst (iD xs) :: T
/-! ### data -/
theorem pys_iD (S : Sto) : ∀ xs : List Int, pys S (iD xs) = some (xs.map .int)
  | [] => rfl
  | x :: r => by
    show (match (some (PyData.int x)), pys S (iD r) with
      | some a, some b => some (a :: b)
      | _, _ => none) = _
    rw [pys_iD S r]
    rfl
theorem pys0_iD : ∀ xs : List Int, pys0 (iD xs) = some (xs.map .int)
  | [] => rfl
  | x :: r => by
    show (match (some (PyData.int x)), pys0 (iD r) with
      | some a, some b => some (a :: b)
      | _, _ => none) = _
    rw [pys0_iD r]
    rfl
theorem lay_iD : ∀ xs : List Int, PyData.canLayAll0 (xs.map .int) = true
  | [] => rfl
  | x :: r => by
    show (PyData.canLay0 (.int x) && PyData.canLayAll0 (r.map .int)) = true
    rw [lay_iD r]
    rfl
theorem dep_iD : ∀ xs : List Int, PyData.depthAll (xs.map .int) = 0
  | [] => rfl
  | x :: r => by
    show max (PyData.depth (.int x)) (PyData.depthAll (r.map .int)) = 0
    rw [dep_iD r]
    rfl
theorem shaped_of {ys : List PyData} (h1 : PyData.canLayAll0 ys = true) (h2 : PyData.depthAll ys ≤ 63) : SeqAt.shaped (.list ys) = true := by
  show (PyData.canLayAll0 ys && decide (PyData.depthAll ys + 1 ≤ 64)) = true
  rw [h1, decide_eq_true (by omega)]
  rfl
theorem gEq_nil {S : Sto} {d : FL.D} {ys : List PyData} (h : d.py S = some (.list ys)) (hs : SeqAt.shaped (.list ys) = true) : gEq false S d (.lst []) = some (.bl ys.isEmpty) := by
  unfold gEq
  rw [h]
  show (if (SeqAt.shaped (.list ys) && SeqAt.shaped (.list [])) = true then some (FL.D.bl (PyData.eqv (.list ys) (.list []))) else none) = _
  rw [hs, if_pos (by rfl)]
  cases ys <;> rfl
theorem gNe_nil {S : Sto} {d : FL.D} {ys : List PyData} (h : d.py S = some (.list ys)) (hs : SeqAt.shaped (.list ys) = true) : gEq true S d (.lst []) = some (.bl (!ys.isEmpty)) := by
  unfold gEq
  rw [h]
  show (if (SeqAt.shaped (.list ys) && SeqAt.shaped (.list [])) = true then some (FL.D.bl (!PyData.eqv (.list ys) (.list []))) else none) = _
  rw [hs, if_pos (by rfl)]
  cases ys <;> rfl
theorem gEq_pool {xs : List Int} {T : Sto} : gEq false (pool xs T) (.loc 0) (.lst []) = some (.bl xs.isEmpty) := by
  have e : FL.D.py (pool xs T) (.loc 0) = some (.list (xs.map .int)) := by
    unfold FL.D.py
    show ((pys0 (iD xs)).map PyData.list) = _
    rw [pys0_iD]
    rfl
  rw [gEq_nil e (shaped_of (lay_iD xs) (by rw [dep_iD]; omega))]
  cases xs <;> rfl
/-! ### changes -/
theorem locL_0 {xs : List FL.D} {T : Sto} : locL (.lst xs :: T) (.loc 0) = some (0, xs) := rfl
theorem locL_of {S : Sto} {m : Nat} {xs : List FL.D} (h : S[m]? = some (.lst xs)) : locL S (.loc m) = some (m, xs) := by
  show (Cell.lst? S[m]?).map (fun ds => (m, ds)) = _
  rw [h]
  rfl
theorem mut_append {S : Sto} {m : Nat} {xs : List FL.D} {d : FL.D} (h : S[m]? = some (.lst xs)) (hl : xs.length < 16777216) : mutAt gAppend (.loc m) [d] S = .ok .non (S.set m (.lst (xs ++ [d]))) := by
  unfold mutAt
  rw [locL_of h]
  show (match (if xs.length < sizeLine then some (FL.D.non, xs ++ [d]) else none) with
    | some (z, ys) => R.ok z (S.set m (.lst ys))
    | none => R.bad) = _
  rw [if_pos (size16' hl)]
set_option maxRecDepth 512 in
theorem in63 {k : Nat} (hs : k < 16777216) : -(2 ^ 63) ≤ (k : Int) ∧ (k : Int) < 2 ^ 63 := ⟨by omega, by omega⟩
set_option maxRecDepth 512 in
theorem gPopAt_nat {k : Nat} {xs : List FL.D} {z : FL.D} (hk : xs[k]? = some z) (hb : -(2 ^ 63) ≤ (k : Int) ∧ (k : Int) < 2 ^ 63) : gPopAt xs [.int (k : Int)] = some (z, xs.eraseIdx k) := by
  have hl : k < xs.length := (List.getElem?_eq_some_iff.mp hk).1
  have e : seqIndex? (k : Int) xs.length = some k := (ixN_seq (i := (k : Int)) (j := k) (by unfold ixN; rw [if_pos (by omega), if_pos (by omega)]; rfl)).1
  unfold gPopAt
  simp only [if_pos hb, e, hk, Option.map_some]
theorem mut_g {S : Sto} {m : Nat} {xs ys : List FL.D} {z : FL.D} {g : List FL.D → List FL.D → Option (FL.D × List FL.D)} {ds : List FL.D} (h : S[m]? = some (.lst xs)) (e : g xs ds = some (z, ys)) : mutAt g (.loc m) ds S = .ok z (S.set m (.lst ys)) := by
  unfold mutAt
  rw [locL_of h]
  simp only [e]
theorem mut_popAt {S : Sto} {m k : Nat} {xs : List FL.D} {z : FL.D} (i : Int) (hi : i = k) (h : S[m]? = some (.lst xs)) (hk : xs[k]? = some z) (hs : k < 16777216) : mutAt gPopAt (.loc m) [.int i] S = .ok z (S.set m (.lst (xs.eraseIdx k))) :=
  mut_g h (by rw [hi]; exact gPopAt_nat hk (in63 hs))
theorem gCat_loc {S : Sto} {m : Nat} {xs ys : List FL.D} (h : S[m]? = some (.lst xs)) (hl : xs.length + ys.length ≤ 16777216) : gAdd S (.loc m) (.lst ys) = some (.lst (xs ++ ys)) := by
  show ((match Cell.lst? S[m]?, some ys with
    | some xs, some ys => if xs.length + ys.length ≤ sizeLine then some (xs ++ ys) else none
    | _, _ => none).map FL.D.lst) = _
  rw [h]
  show ((if xs.length + ys.length ≤ sizeLine then some (xs ++ ys) else none).map FL.D.lst) = _
  rw [if_pos (size16 hl)]
  rfl
theorem iRng_of {g : List FL.D → Option Src} {fs : Fa} {env : FL.Env} {S S1 : Sto} {ds : List FL.D} {s : Src} (h1 : fs env S = .ok ds S1) (h2 : g ds = some s) : iRng g fs env S = .ok s S1 := by
  unfold iRng
  rw [h1]
  show R.of (g ds) S1 = _
  rw [h2]
  rfl
theorem gRng1_j {j : Int} (h : smallI j = true) : gRng1 [.int j] = some (.fix (rngD 0 j.toNat)) := by
  unfold gRng1
  simp only [h, if_true]
theorem small_nat {n : Nat} (h : n ≤ 1000) : smallI (n : Int) = true := decide_eq_true ⟨by omega, by omega⟩
theorem sIf_t {c : Ft} {g h : SF} {env : FL.Env} {S S1 : Sto} (e : c env S = .ok true S1) : sIf c g h env S = g env S1 := by
  unfold sIf
  rw [e]
  rfl
theorem sIf_f {c : Ft} {g h : SF} {env : FL.Env} {S S1 : Sto} (e : c env S = .ok false S1) : sIf c g h env S = h env S1 := by
  unfold sIf
  rw [e]
  rfl
theorem seqR {g k : SF} {env : FL.Env} {S S' : Sto} {d : FL.D} (h : g env S = .fl (.rt d) S') : sSeq g k env S = .fl (.rt d) S' := by
  unfold sSeq
  rw [h]
theorem seqX {g k : SF} {env env' : FL.Env} {S S' : Sto} {C : PySem.Addr} {fs : List (Str × FL.D)} (h : g env S = .exc env' C fs S') : sSeq g k env S = .exc env' C fs S' := by
  unfold sSeq
  rw [h]
theorem seq1 {g k : SF} {env env' : FL.Env} {S S' : Sto} (h : g env S = .fl (.nx env') S') : sSeq g k env S = k env' S' := by
  unfold sSeq
  rw [h]
theorem seq2 {g h k : SF} {env env' : FL.Env} {S S' : Sto} (e : sSeq g h env S = .fl (.nx env') S') : sSeq g (sSeq h k) env S = k env' S' := by
  unfold sSeq at e ⊢
  cases q : g env S with
  | bad => rw [q] at e; cases e
  | exc _ _ _ _ => rw [q] at e; cases e
  | fl f S1 =>
    rw [q] at e
    cases f with
    | nx env1 =>
      have e : h env1 S1 = .fl (.nx env') S' := e
      show (match h env1 S1 with
        | .fl (.nx env') S' => k env' S'
        | r => r) = _
      rw [e]
    | rt _ => cases e
    | bk _ => cases e
    | ct _ => cases e
end FL
set_option maxRecDepth 100000
set_option maxHeartbeats 2000000
namespace HX
open PySem PySem.Spec PyProof.Rows L2
/-! ### facts of an own error's class -/
def clsB (C : Addr) (r : Option Obj) : Bool := match r with
  | some ⟨.type tn, _, .cls z, vs⟩ => decide (tn = "type") && (match z.mro, vs.toList with
    | .ref D :: us, [_, _, _, _, some (.builtin nw), _] => decide (D = C) && (decide (nw = "ValueError.__new__") && (!z.hasDel && (z.hasDict && PySem.HandSPX.refsVE us)))
    | _, _ => false)
  | _ => false
theorem clsB_ok {C : Addr} {r : Option Obj} (h : clsB C r = true) : ∃ nm q N bs bm sn sub ab col dd k0 k1 k2 k3 k5, r = some (excClassObj nm q C N bs bm true sn sub ab col dd k0 k1 k2 k3 k5 "ValueError.__new__") ∧ PySem.HandSPX.refsVE bm = true := by
  unfold clsB at h
  split at h
  · rename_i tn dd z vs
    have g0 := of_decide_eq_true (Bool.and_eq_true_iff.mp h).1
    have g := (Bool.and_eq_true_iff.mp h).2
    clear h
    subst g0
    split at g
    · rename_i D us k0 k1 k2 k3 nw k5 hm hv
      have e1 := of_decide_eq_true (Bool.and_eq_true_iff.mp g).1
      have g := (Bool.and_eq_true_iff.mp g).2
      have e2 := of_decide_eq_true (Bool.and_eq_true_iff.mp g).1
      obtain ⟨h3, h⟩ := Bool.and_eq_true_iff.mp (Bool.and_eq_true_iff.mp g).2
      obtain ⟨h4, h5⟩ := Bool.and_eq_true_iff.mp h
      subst e1 e2
      obtain ⟨nm, bs, mro, ns, qn, hd, sn, sb, ab, col, del⟩ := z
      have h3 : del = false := by simpa using h3
      have h4 : hd = true := h4
      have hm : mro = .ref D :: us := hm
      subst h3 h4 hm
      obtain ⟨l⟩ := vs
      have hv : l = [k0, k1, k2, k3, some (.builtin "ValueError.__new__"), k5] := hv
      subst hv
      exact ⟨nm, qn, ns, bs, us, sn, sb, ab, col, dd, k0, k1, k2, k3, k5, rfl, h5⟩
    · cases g
  · cases h
def oexB (K : PySem.W.Frag) (C : Addr) : Bool := clsB C (K.lookup C) && (decide (PySem.W.findIn K (.ref C) "__setattr__" = some (some (.builtin "object.__setattr__"))) && (decide (PySem.W.subIn K (.ref C) (.type "BaseException") = some true) && (decide (PySem.W.typeIn K (.ref C) = some (.type "type")) && PySem.W.keepIn K (.ref C))))
theorem oexB_ok {K : PySem.W.Frag} {C : Addr} (h : oexB K C = true) : OexC K C := by
  obtain ⟨h1, h⟩ := Bool.and_eq_true_iff.mp h
  obtain ⟨h2, h⟩ := Bool.and_eq_true_iff.mp h
  obtain ⟨h3, h⟩ := Bool.and_eq_true_iff.mp h
  obtain ⟨h4, h5⟩ := Bool.and_eq_true_iff.mp h
  exact ⟨clsB_ok h1, of_decide_eq_true h2, of_decide_eq_true h3, of_decide_eq_true h4, h5⟩
def excB (K : PySem.W.Frag) (C : Addr) : Bool := decide (PySem.W.findIn K (.ref C) "__getattribute__" = some (some (.builtin "BaseException.__getattribute__"))) && (decide (PySem.W.findIn K (.ref C) "__getattr__" = some none) && (decide (PySem.W.subIn K (.ref C) (.type "BaseException") = some true) && (PySem.W.hasDictIn K C && (decide (PySem.W.findIn K (.ref C) "__class__" = some (some (.builtin "object.__class__"))) &&
  (decide (PySem.W.specialIn K (.builtin "object.__class__") "__get__" = some (some (.builtin "getset_descriptor.__get__"))) && (decide (PySem.W.takesIn K (.builtin "object.__class__") = some true) && decide (PySem.W.mroIn K C (.type "object") = some true)))))))
theorem excB_ok {K : PySem.W.Frag} {C : Addr} (h : excB K C = true) : L2.ExcC K C := by
  obtain ⟨h1, h⟩ := Bool.and_eq_true_iff.mp h
  obtain ⟨h2, h⟩ := Bool.and_eq_true_iff.mp h
  obtain ⟨h3, h⟩ := Bool.and_eq_true_iff.mp h
  obtain ⟨h4, h⟩ := Bool.and_eq_true_iff.mp h
  obtain ⟨h5, h⟩ := Bool.and_eq_true_iff.mp h
  obtain ⟨h6, h⟩ := Bool.and_eq_true_iff.mp h
  obtain ⟨h7, h8⟩ := Bool.and_eq_true_iff.mp h
  exact ⟨of_decide_eq_true h1, of_decide_eq_true h2, of_decide_eq_true h3, h4, of_decide_eq_true h5, of_decide_eq_true h6, of_decide_eq_true h7, of_decide_eq_true h8⟩
/-! ### the Hook: defs, facts, own facts -/
section
variable (n : Nat) (fx : PySem.W.Frag → List Bool) (fa : List He.Fa) (fn : List He.DefD)
def obsX (K : PySem.W.Frag) : He.AlD := ((He.obsD fa fn K).1 && (fx K).all id, (He.obsD fa fn K).2)
def SaysX (K : PySem.W.Frag) : Prop := obsX fx fa fn K = He.valD fn
def obsXG (g : Addr → Option Obj) : He.AlD := obsX fx fa fn (He.frG g (He.asD g n))
def hookX : PySem.W.Hook where
  α := He.AlD
  obs := fun t => obsXG n fx fa fn t.heap.get?
  val := fun _ => He.valD fn
  says := fun _ hp => ∃ F : PySem.W.Frag, F.In hp ∧ SaysX fx fa fn F
  of := fun _ _ e => ⟨_, He.frG_in, e⟩
  keeps := fun _ _ _ ⟨F, hF, says⟩ old => ⟨F, PySem.W.Frag.In.keeps hF old, says⟩
theorem obsXG_eq {n : Nat} {fx : PySem.W.Frag → List Bool} {fa : List He.Fa} {fn : List He.DefD} {g : Addr → Option Obj} {t : Shared} (h : ∀ a, g a = t.heap.get? a) : obsXG n fx fa fn g = (hookX n fx fa fn).obs t := by
  have : g = t.heap.get? := funext h
  subst this
  rfl
variable {n fx fa fn} {K : PySem.W.Frag}
theorem SaysX.d (y : SaysX fx fa fn K) : He.SaysD fa fn K := by
  have y : (((He.obsD fa fn K).1 && (fx K).all id, (He.obsD fa fn K).2) : He.AlD) = (true, fn.map He.DefD.val) := y
  have h1 := (Bool.and_eq_true_iff.mp (congrArg (fun z : He.AlD => z.1) y)).1
  have h2 := congrArg (fun z : He.AlD => z.2) y
  exact Prod.ext h1 h2
theorem SaysX.x (y : SaysX fx fa fn K) (i : Nat) {b : Bool} (h : (fx K)[i]? = some b) : b = true := by
  have y : (((He.obsD fa fn K).1 && (fx K).all id, (He.obsD fa fn K).2) : He.AlD) = (true, fn.map He.DefD.val) := y
  have h1 := (Bool.and_eq_true_iff.mp (congrArg (fun z : He.AlD => z.1) y)).2
  exact List.all_eq_true.mp h1 b (List.mem_of_getElem? h)
end
end HX
set_option maxRecDepth 100000
set_option maxHeartbeats 2000000
namespace K19
open PySem PySem.Spec PyProof.Rows L2 FL
def top (i : Nat) : Stmt := PySem.Challenge.pw_heldbest_k19_taking.main.body.getD i (.Pass ⟨0, 0, 0, 0⟩)
def si_OutOfRange : Stmt := (match top 2 with
  | .ClassDef _ _ _ body _ _ _ _ _ _ _ => body.getD 0 (.Pass ⟨0, 0, 0, 0⟩)
  | s => s)
/-- the def at the top's place 38 -/
abbrev s_l_draw : Stmt := top 38
def N_l_draw : List Str := ["_law_pool", "_law_many", "_law_number"]
def g_l_draw : SF :=
  (sSeq (sIf (fB (fBin (gEq false) (fVar 0) (fLst fNil))) (sRet (fC (.int 0))) sNext)
  (sSeq (sAsg (fMut gPopAt (fVar 0) (fCons (fC (.int 0)) fNil)) (gN 2))
  (sSeq (sIf (fB (fBin gGe (fVar 2) (fVar 1))) (sDrop (fMut gAppend (fVar 0) (fCons (fBin gDiv (fVar 2) (fVar 1)) fNil))) sNext)
  (sRet (fBin gMod (fBu gInt (fCons (fVar 2) fNil)) (fVar 1))))))
def f_l_draw : Fn := runF (g_l_draw) 3
/-- the def at the top's place 39 -/
abbrev s_l_near : Stmt := top 39
def N_l_near : List Str := ["_law_pool", "_law_least", "_law_most", "_law_kind", "_law_room"]
def g_l_near : SF :=
  (sSeq (sAsg (fCall f_l_draw [] (fCons (fVar 0) (fCons (fC (.int 3)) fNil))) (gN 3))
  (sSeq (sAsg (fBin gAdd (fBin gSub (fVar 2) (fVar 1)) (fC (.int 1))) (gN 4))
  (sSeq (sIf (fB (fBin (gEq false) (fVar 3) (fC (.int 0)))) (sRet (fBin gAdd (fVar 1) (fCall f_l_draw [] (fCons (fVar 0) (fCons (fBu (gI2C min2) (fCons (fC (.int 3)) (fCons (fVar 4) fNil))) fNil))))) sNext)
  (sSeq (sIf (fB (fBin (gEq false) (fVar 3) (fC (.int 1)))) (sRet (fBin gSub (fVar 2) (fCall f_l_draw [] (fCons (fVar 0) (fCons (fBu (gI2C min2) (fCons (fC (.int 3)) (fCons (fVar 4) fNil))) fNil))))) sNext)
  (sRet (fBin gAdd (fVar 1) (fCall f_l_draw [] (fCons (fVar 0) (fCons (fVar 4) fNil)))))))))
def f_l_near : Fn := runF (g_l_near) 5
/-- the def at the top's place 44 -/
abbrev s_l_entries : Stmt := top 44
def N_l_entries : List Str := ["_law_pool", "_law_places", "_law_many", "_law_left", "_law_who", "_law_k", "_law_kind", "_law_base", "_law_wide", "_law_entries_here", "_law_seeker", "_law_more"]
def g_l_entries : SF :=
  (sSeq (sAsg (fBin gMod (fBin gAdd (fCall f_l_draw [] (fCons (fVar 0) (fCons (fBin gAdd (fVar 1) (fC (.int 1))) fNil))) (fVar 1)) (fBin gAdd (fVar 1) (fC (.int 1)))) (gN 2))
  (sSeq (sAsg (fBuL (gLRg lo1) (fCons (fC (.int 30)) fNil)) (gN 3))
  (sSeq (sAsg (fLoc fNil) (gN 4))
  (sSeq (sFor (iRng gRng1 (fCons (fVar 2) fNil)) (gN 5) (sDrop (fMut gAppend (fVar 4) (fCons (fMut gPopAt (fVar 3) (fCons (fBin gMod (fBin gAdd (fCall f_l_draw [] (fCons (fVar 0) (fCons (fBu gLen (fCons (fVar 3) fNil)) fNil))) (fC (.int 7))) (fBu gLen (fCons (fVar 3) fNil))) fNil)) fNil))))
  (sSeq (sAsg (fCall f_l_draw [] (fCons (fVar 0) (fCons (fC (.int 3)) fNil))) (gN 6))
  (sSeq (sAsg (fC (.int 0)) (gN 7))
  (sSeq (sAsg (fBin gIx (fLst (fCons (fC (.int 3)) (fCons (fC (.int 10000)) (fCons (fC (.int 4)) fNil)))) (fVar 6)) (gN 8))
  (sSeq (sIf (fB (fBin (gEq false) (fVar 6) (fC (.int 0)))) (sAsg (fCall f_l_near [] (fCons (fVar 0) (fCons (fC (.int 0)) (fCons (fC (.int 9997)) fNil)))) (gN 7)) sNext)
  (sSeq (sAsg (fLoc fNil) (gN 9))
  (sSeq (sFor (iSeq (fBu (fun S ds => (gSorted S ds).map .lst) (fCons (fVar 4) fNil))) (gN 10) (sSeq (sAsg (fBin gMod (fBin gAdd (fBin gAdd (fCall f_l_draw [] (fCons (fVar 0) (fCons (fVar 8) fNil))) (fBu gLen (fCons (fVar 9) fNil))) (fC (.int 1))) (fVar 8)) (gN 11))
  (sDrop (fMut gAppend (fVar 9) (fCons (fTup (fCons (fVar 10) (fCons (fBin gAdd (fVar 7) (fVar 11)) fNil))) fNil)))))
  (sRet (fVar 9))))))))))))
def f_l_entries : Fn := runF (g_l_entries) 12
def m_l_entries : Fn := frz f_l_entries
/-- the def at the top's place 45 -/
abbrev s_l_price : Stmt := top 45
def N_l_price : List Str := ["_law_entries_here", "_law_places", "_law_entry"]
def g_l_price : SF :=
  (sSeq (sIf (fB (fBin gLt (fBu gLen (fCons (fVar 0) fNil)) (fVar 1))) (sRet (fC (.int 0))) sNext)
  (sRet (fBu gMin1 (fCons (fLc (iSeq (fVar 0)) (gN 2) fYes (fBin gIx (fVar 2) (fC (.int 1))) [2]) fNil))))
def f_l_price : Fn := runF (g_l_price) 3
/-- the def at the top's place 47 -/
abbrev s_l_bid : Stmt := top 47
def N_l_bid : List Str := ["_law_pool", "_law_entries_here", "_law_places", "_law_gone", "_law_kind", "_law_who", "_law_amount"]
def g_l_bid : SF :=
  (sSeq (sAsg (fCall f_l_draw [] (fCons (fVar 0) (fCons (fC (.int 3)) fNil))) (gN 4))
  (sSeq (sAsg (fBin gMod (fBin gAdd (fCall f_l_draw [] (fCons (fVar 0) (fCons (fC (.int 30)) fNil))) (fC (.int 11))) (fC (.int 30))) (gN 5))
  (sSeq (sIf (fAnd (fB (fBin (gEq false) (fVar 4) (fC (.int 1)))) (fB (fBin (gEq true) (fVar 1) (fLst fNil)))) (sAsg (fBin gIx (fBin gIx (fVar 1) (fBin gMod (fVar 5) (fBu gLen (fCons (fVar 1) fNil)))) (fC (.int 0))) (gN 5)) sNext)
  (sSeq (sIf (fAnd (fB (fBin (gEq false) (fVar 4) (fC (.int 2)))) (fB (fBin gGe (fVar 3) (fC (.int 0))))) (sAsg (fVar 3) (gN 5)) sNext)
  (sSeq (sAsg (fCall f_l_draw [] (fCons (fVar 0) (fCons (fC (.int 4)) fNil))) (gN 4))
  (sSeq (sAsg (fBin gSub (fBin gAdd (fCall f_l_price [] (fCons (fVar 1) (fCons (fVar 2) fNil))) (fBin gMod (fBin gAdd (fCall f_l_draw [] (fCons (fVar 0) (fCons (fC (.int 4)) fNil))) (fC (.int 2))) (fC (.int 4)))) (fC (.int 1))) (gN 6))
  (sSeq (sIf (fB (fBin (gEq false) (fVar 4) (fC (.int 2)))) (sAsg (fCall f_l_near [] (fCons (fVar 0) (fCons (fC (.int 0)) (fCons (fC (.int 9999)) fNil)))) (gN 6)) sNext)
  (sSeq (sIf (fAnd (fB (fBin (gEq false) (fVar 4) (fC (.int 3)))) (fB (fBin (gEq true) (fVar 1) (fLst fNil)))) (sAsg (fBin gAdd (fBin gIx (fBin gIx (fVar 1) (fCall f_l_draw [] (fCons (fVar 0) (fCons (fBu gLen (fCons (fVar 1) fNil)) fNil)))) (fC (.int 1))) (fCall f_l_draw [] (fCons (fVar 0) (fCons (fC (.int 2)) fNil)))) (gN 6)) sNext)
  (sRet (fTup (fCons (fVar 5) (fCons (fBu (gI2C min2) (fCons (fC (.int 9999)) (fCons (fBu (gI2C max2) (fCons (fC (.int 0)) (fCons (fVar 6) fNil))) fNil))) fNil))))))))))))
def f_l_bid : Fn := runF (g_l_bid) 7
/-- the def at the top's place 46 -/
abbrev s_l_taken : Stmt := top 46
def N_l_taken : List Str := ["_law_entries_here", "_law_places", "_law_who", "_law_amount", "_law_out", "_law_worst", "_law_left", "_law_before", "_law_behind", "_law_entry"]
def g_l_taken : SF :=
  (sSeq (sIf (fB (fBin (gIn false) (fVar 2) (fLc (iSeq (fVar 0)) (gN 9) fYes (fBin gIx (fVar 9) (fC (.int 0))) [9]))) (sRet (fTup (fCons (fC (.str "held")) (fCons (fVar 0) (fCons (fUn gNeg (fC (.int 1))) fNil))))) sNext)
  (sSeq (sIf (fB (fBin gLe (fVar 3) (fCall f_l_price [] (fCons (fVar 0) (fCons (fVar 1) fNil))))) (sRet (fTup (fCons (fC (.str "low")) (fCons (fVar 0) (fCons (fUn gNeg (fC (.int 1))) fNil))))) sNext)
  (sSeq (sAsg (fUn gNeg (fC (.int 1))) (gN 4))
  (sSeq (sIf (fB (fBin (gEq false) (fBu gLen (fCons (fVar 0) fNil)) (fVar 1))) (sSeq (sAsg (fBu gMin1 (fCons (fLc (iSeq (fVar 0)) (gN 9) fYes (fBin gSub (fBin gMul (fC (.int 30)) (fBin gIx (fVar 9) (fC (.int 1)))) (fBin gIx (fVar 9) (fC (.int 0)))) [9]) fNil)) (gN 5))
  (sAsg (fBin gMod (fBu gInt (fCons (fUn gNeg (fVar 5)) fNil)) (fC (.int 30))) (gN 4))) sNext)
  (sSeq (sAsg (fLc (iSeq (fVar 0)) (gN 9) (fB (fBin (gEq true) (fBin gIx (fVar 9) (fC (.int 0))) (fVar 4))) (fVar 9) [9]) (gN 6))
  (sSeq (sAsg (fLc (iSeq (fVar 6)) (gN 9) (fB (fBin gLt (fBin gIx (fVar 9) (fC (.int 0))) (fVar 2))) (fVar 9) [9]) (gN 7))
  (sSeq (sAsg (fLc (iSeq (fVar 6)) (gN 9) (fB (fBin gGt (fBin gIx (fVar 9) (fC (.int 0))) (fVar 2))) (fVar 9) [9]) (gN 8))
  (sRet (fTup (fCons (fC (.str "taken")) (fCons (fBin gAdd (fBin gAdd (fVar 7) (fLst (fCons (fTup (fCons (fVar 2) (fCons (fVar 3) fNil))) fNil))) (fVar 8)) (fCons (fVar 4) fNil))))))))))))
def f_l_taken : Fn := runF (g_l_taken) 10
/-- the def at the top's place 40 -/
abbrev s_l_beyond : Stmt := top 40
def N_l_beyond : List Str := ["_law_pool", "_law_least", "_law_most", "_law_far"]
def g_l_beyond : SF :=
  (sSeq (sAsg (fC (.int 1)) (gN 3))
  (sSeq (sIf (fB (fBin (gEq false) (fCall f_l_draw [] (fCons (fVar 0) (fCons (fC (.int 2)) fNil))) (fC (.int 1)))) (sAsg (fBin gAdd (fC (.int 1)) (fCall f_l_draw [] (fCons (fVar 0) (fCons (fC (.int 1000)) fNil)))) (gN 3)) sNext)
  (sSeq (sIf (fB (fBin (gEq false) (fCall f_l_draw [] (fCons (fVar 0) (fCons (fC (.int 2)) fNil))) (fC (.int 1)))) (sRet (fBin gSub (fVar 1) (fVar 3))) sNext)
  (sRet (fBin gAdd (fVar 2) (fVar 3))))))
def f_l_beyond : Fn := runF (g_l_beyond) 4
/-- the def at the top's place 48 -/
abbrev s_l_odd_entries : Stmt := top 48
def N_l_odd_entries : List Str := ["_law_pool", "_law_entries_here", "_law_kind", "_law_at", "_law_seeker", "_law_amount", "_law_k"]
def g_l_odd_entries : SF :=
  (sSeq (sAsg (fCall f_l_draw [] (fCons (fVar 0) (fCons (fC (.int 5)) fNil))) (gN 2))
  (sSeq (sIf (fOr (fB (fBin (gEq false) (fVar 2) (fC (.int 0)))) (fB (fBin (gEq false) (fVar 1) (fLst fNil)))) (sRet (fLc (iRng gRng1 (fCons (fBin gAdd (fC (.int 10)) (fCall f_l_draw [] (fCons (fVar 0) (fCons (fC (.int 3)) fNil)))) fNil)) (gN 6) fYes (fTup (fCons (fVar 6) (fCons (fC (.int 5)) fNil))) [6])) sNext)
  (sSeq (sAsg (fCall f_l_draw [] (fCons (fVar 0) (fCons (fBu gLen (fCons (fVar 1) fNil)) fNil))) (gN 3))
  (sSeq (sAsg (fBin gIx (fVar 1) (fVar 3)) (gTupF 2 (gsCons (gN 4) (gsCons (gN 5) gsNil))))
  (sSeq (sIf (fB (fBin (gEq false) (fVar 2) (fC (.int 1)))) (sRet (fBin gAdd (fSlG gSl (fVar 1) fNoP (fPart (fBin gAdd (fVar 3) (fC (.int 1))))) (fSlG gSl (fVar 1) (fPart (fVar 3)) fNoP))) sNext)
  (sSeq (sIf (fB (fBin (gEq false) (fVar 2) (fC (.int 2)))) (sRet (fBin gAdd (fSlG gSl (fVar 1) (fPart (fVar 3)) fNoP) (fSlG gSl (fVar 1) fNoP (fPart (fVar 3))))) sNext)
  (sSeq (sIf (fB (fBin (gEq false) (fVar 2) (fC (.int 3)))) (sAsg (fCall f_l_beyond [] (fCons (fVar 0) (fCons (fC (.int 0)) (fCons (fC (.int 29)) fNil)))) (gN 4)) sNext)
  (sSeq (sIf (fB (fBin (gEq false) (fVar 2) (fC (.int 4)))) (sAsg (fCall f_l_beyond [] (fCons (fVar 0) (fCons (fC (.int 0)) (fCons (fC (.int 9999)) fNil)))) (gN 5)) sNext)
  (sRet (fBin gAdd (fBin gAdd (fSlG gSl (fVar 1) fNoP (fPart (fVar 3))) (fLst (fCons (fTup (fCons (fVar 4) (fCons (fVar 5) fNil))) fNil))) (fSlG gSl (fVar 1) (fPart (fBin gAdd (fVar 3) (fC (.int 1)))) fNoP)))))))))))
def f_l_odd_entries : Fn := runF (g_l_odd_entries) 7
/-- the def at the top's place 49 -/
abbrev s_l_bent : Stmt := top 49
def N_l_bent : List Str := ["_law_pool", "_law_asked", "_law_entries_here", "_law_places", "_law_who", "_law_amount", "_law_which"]
def g_l_bent : SF :=
  (sSeq (sAsg (fVar 1) (gTupF 4 (gsCons (gN 2) (gsCons (gN 3) (gsCons (gN 4) (gsCons (gN 5) gsNil))))))
  (sSeq (sAsg (fCall f_l_draw [] (fCons (fVar 0) (fCons (fC (.int 6)) fNil))) (gN 6))
  (sSeq (sIf (fB (fBin (gEq false) (fVar 6) (fC (.int 0)))) (sAsg (fCall f_l_beyond [] (fCons (fVar 0) (fCons (fC (.int 1)) (fCons (fC (.int 9)) fNil)))) (gN 3)) sNext)
  (sSeq (sIf (fB (fBin (gEq false) (fVar 6) (fC (.int 1)))) (sAsg (fCall f_l_beyond [] (fCons (fVar 0) (fCons (fC (.int 0)) (fCons (fC (.int 29)) fNil)))) (gN 4)) sNext)
  (sSeq (sIf (fB (fBin (gEq false) (fVar 6) (fC (.int 2)))) (sAsg (fCall f_l_beyond [] (fCons (fVar 0) (fCons (fC (.int 0)) (fCons (fC (.int 9999)) fNil)))) (gN 5)) sNext)
  (sSeq (sIf (fB (fBin (gEq false) (fVar 6) (fC (.int 3)))) (sAsg (fBin gAdd (fC (.int 1)) (fCall f_l_draw [] (fCons (fVar 0) (fCons (fBu (gI2C max2) (fCons (fC (.int 1)) (fCons (fBin gSub (fBu gLen (fCons (fVar 2) fNil)) (fC (.int 1))) fNil))) fNil)))) (gN 3)) sNext)
  (sSeq (sIf (fB (fBin gGt (fVar 6) (fC (.int 3)))) (sAsg (fCall f_l_odd_entries [] (fCons (fVar 0) (fCons (fVar 2) fNil))) (gN 2)) sNext)
  (sRet (fLst (fCons (fVar 2) (fCons (fVar 3) (fCons (fVar 4) (fCons (fVar 5) fNil)))))))))))))
def f_l_bent : Fn := runF (g_l_bent) 7
/-- the def at the top's place 43 -/
abbrev s_l_first : Stmt := top 43
def N_l_first : List Str := ["_law_looks", "_law_what", "_law_number", "_law_least", "_law_most"]
def g_l_first : SF :=
  (sSeq (sFor (iSeq (fVar 0)) (gTupF 4 (gsCons (gN 1) (gsCons (gN 2) (gsCons (gN 3) (gsCons (gN 4) gsNil))))) (sIf (fOr (fB (fBin gLt (fVar 2) (fVar 3))) (fB (fBin gGt (fVar 2) (fVar 4)))) (sRet (fTup (fCons (fC (.str "OutOfRange")) (fCons (fVar 1) (fCons (fVar 2) fNil))))) sNext))
  (sRet (fC .non)))
def f_l_first : Fn := runF (g_l_first) 5
/-- the def at the top's place 50 -/
abbrev s_l_dues : Stmt := top 50
def N_l_dues : List Str := ["_law_asked", "_law_entries_here", "_law_places", "_law_who", "_law_amount", "_law_many", "_law_looks", "_law_before", "_law_seeker", "_law_paid", "_law_one", "_law_two", "_law_last", "_law_three", "_law_dues_here", "_law_outcome", "_law_afterwards", "_law_out", "_law_found", "_law_entry"]
def g_l_dues : SF :=
  (sSeq (sAsg (fVar 0) (gTupF 4 (gsCons (gN 1) (gsCons (gN 2) (gsCons (gN 3) (gsCons (gN 4) gsNil))))))
  (sSeq (sAsg (fBu gLen (fCons (fVar 1) fNil)) (gN 5))
  (sSeq (sAsg (fLoc (fCons (fTup (fCons (fC (.str "entries")) (fCons (fVar 5) (fCons (fC (.int 0)) (fCons (fC (.int 9)) fNil))))) fNil)) (gN 6))
  (sSeq (sAsg (fUn gNeg (fC (.int 1))) (gN 7))
  (sSeq (sFor (iSeq (fVar 1)) (gTupF 2 (gsCons (gN 8) (gsCons (gN 9) gsNil))) (sSeq (sDrop (fMut gAppend (fVar 6) (fCons (fTup (fCons (fC (.str "seeker")) (fCons (fVar 8) (fCons (fBin gAdd (fVar 7) (fC (.int 1))) (fCons (fC (.int 29)) fNil))))) fNil)))
  (sSeq (sDrop (fMut gAppend (fVar 6) (fCons (fTup (fCons (fC (.str "amount")) (fCons (fVar 9) (fCons (fC (.int 0)) (fCons (fC (.int 9999)) fNil))))) fNil)))
  (sAsg (fVar 8) (gN 7)))))
  (sSeq (sAsg (fLst (fCons (fTup (fCons (fC (.str "seeker")) (fCons (fVar 3) (fCons (fC (.int 0)) (fCons (fC (.int 29)) fNil))))) fNil)) (gN 10))
  (sSeq (sAsg (fLst (fCons (fTup (fCons (fC (.str "places")) (fCons (fVar 2) (fCons (fC (.int 1)) (fCons (fC (.int 9)) fNil))))) fNil)) (gN 11))
  (sSeq (sAsg (fLst (fCons (fTup (fCons (fC (.str "entries")) (fCons (fVar 5) (fCons (fC (.int 0)) (fCons (fVar 2) fNil))))) fNil)) (gN 12))
  (sSeq (sAsg (fLst (fCons (fTup (fCons (fC (.str "amount")) (fCons (fVar 4) (fCons (fC (.int 0)) (fCons (fC (.int 9999)) fNil))))) fNil)) (gN 13))
  (sSeq (sAsg (fLoc (fCons (fCall f_l_first [] (fCons (fBin gAdd (fBin gAdd (fBin gAdd (fBin gAdd (fVar 6) (fVar 11)) (fVar 10)) (fVar 13)) (fVar 12)) fNil)) fNil)) (gN 14))
  (sSeq (sDrop (fMut gAppend (fVar 14) (fCons (fCall f_l_first [] (fCons (fBin gAdd (fBin gAdd (fVar 6) (fVar 11)) (fVar 12)) fNil)) fNil)))
  (sSeq (sDrop (fMut gAppend (fVar 14) (fCons (fCall f_l_first [] (fCons (fBin gAdd (fVar 6) (fVar 10)) fNil)) fNil)))
  (sSeq (sIf (fB (fBin (gIsN false) (fBin gIx (fVar 14) (fC (.int 0))) (fC .non))) (sSeq (sAsg (fCall f_l_taken [] (fCons (fVar 1) (fCons (fVar 2) (fCons (fVar 3) (fCons (fVar 4) fNil))))) (gTupF 3 (gsCons (gN 15) (gsCons (gN 16) (gsCons (gN 17) gsNil)))))
  (sSetI (fTup (fCons (fC (.str "told")) (fCons (fTup (fCons (fVar 15) (fCons (fBu gTuple (fCons (fVar 16) fNil)) (fCons (fVar 17) fNil)))) fNil))) (fVar 14) (fC (.int 0)))) sNext)
  (sSeq (sIf (fB (fBin (gIsN false) (fBin gIx (fVar 14) (fC (.int 1))) (fC .non))) (sSetI (fTup (fCons (fC (.str "told")) (fCons (fCall f_l_price [] (fCons (fVar 1) (fCons (fVar 2) fNil))) fNil))) (fVar 14) (fC (.int 1))) sNext)
  (sSeq (sIf (fB (fBin (gIsN false) (fBin gIx (fVar 14) (fC (.int 2))) (fC .non))) (sSeq (sAsg (fBin gAdd (fLc (iSeq (fVar 1)) (gN 19) (fB (fBin (gEq false) (fBin gIx (fVar 19) (fC (.int 0))) (fVar 3))) (fBin gIx (fVar 19) (fC (.int 1))) [19]) (fLst (fCons (fUn gNeg (fC (.int 1))) fNil))) (gN 18))
  (sSetI (fTup (fCons (fC (.str "told")) (fCons (fBin gIx (fVar 18) (fC (.int 0))) fNil))) (fVar 14) (fC (.int 2)))) sNext)
  (sRet (fVar 14)))))))))))))))))
def f_l_dues : Fn := runF (g_l_dues) 20
def m_l_dues : Fn := frz f_l_dues
/-- the def at the top's place 41 -/
abbrev s_l_same : Stmt := top 41
def N_l_same : List Str := ["_law_told", "_law_due", "_law_k"]
def g_l_same (rec : Fn) : SF :=
  (sSeq (sIf (fB (fBu (gIsi []) (fCons (fVar 1) (fCons (fC (.ty "tuple")) fNil)))) (sSeq (sIf (fOr (fNot (fB (fBu (gIsi []) (fCons (fVar 0) (fCons (fC (.ty "tuple")) fNil))))) (fB (fBin (gEq true) (fBu gLen (fCons (fVar 0) fNil)) (fBu gLen (fCons (fVar 1) fNil))))) (sRet (fC (.bl false))) sNext)
  (sSeq (sFor (iRng gRng1 (fCons (fBu gLen (fCons (fVar 1) fNil)) fNil)) (gN 2) (sIf (fNot (fB (fCall rec [] (fCons (fBin gIx (fVar 0) (fVar 2)) (fCons (fBin gIx (fVar 1) (fVar 2)) fNil))))) (sRet (fC (.bl false))) sNext))
  (sRet (fC (.bl true))))) sNext)
  (sSeq (sIf (fB (fBin (gIsN false) (fVar 1) (fC .non))) (sRet (fBin (gIsN false) (fVar 0) (fC .non))) sNext)
  (sSeq (sIf (fB (fBu (gIsi []) (fCons (fVar 1) (fCons (fC (.ty "str")) fNil)))) (sRet (fAndV (fBu (gIsi []) (fCons (fVar 0) (fCons (fC (.ty "str")) fNil))) (fBin (gEq false) (fVar 0) (fVar 1)))) sNext)
  (sSeq (sIf (fOr (fB (fBu (gIsi []) (fCons (fVar 1) (fCons (fC (.ty "bool")) fNil)))) (fB (fBu (gIsi []) (fCons (fVar 0) (fCons (fC (.ty "bool")) fNil))))) (sRet (fAndV (fBu (gIsi []) (fCons (fVar 1) (fCons (fC (.ty "bool")) fNil))) (fAndV (fBu (gIsi []) (fCons (fVar 0) (fCons (fC (.ty "bool")) fNil))) (fBin (gEq false) (fVar 0) (fVar 1))))) sNext)
  (sRet (fAndV (fBu (gIsi []) (fCons (fVar 0) (fCons (fC (.ty "int")) fNil))) (fBin (gEq false) (fVar 0) (fVar 1))))))))
def f_l_same : Nat → Fn
  | 0 => fun _ _ => .bad
  | k + 1 => runF (g_l_same (f_l_same k)) 3
/-- the def at the top's place 26 -/
abbrev s_within : Stmt := top 26
def N_within : List Str := ["what", "value", "least", "most"]
def g_within (c : String → PySem.Addr) : SF :=
  (sIf (fOr (fB (fBin gLt (fVar 1) (fVar 2))) (fB (fBin gGt (fVar 1) (fVar 3)))) (sRaise (c "OutOfRange") (mk2 "what" "value") (fCons (fVar 0) (fCons (fVar 1) fNil))) sNext)
def f_within (c : String → PySem.Addr) : Fn := runF (g_within c) 4
/-- the def at the top's place 28 -/
abbrev s_entries_look : Stmt := top 28
def N_entries_look : List Str := ["entries", "before", "seeker", "amount"]
def g_entries_look (c : String → PySem.Addr) : SF :=
  (sSeq (sDrop (fCall (f_within c) [] (fCons (fC (.str "entries")) (fCons (fBu gLen (fCons (fVar 0) fNil)) (fCons (fC (.int 0)) (fCons (fC (.int 9)) fNil))))))
  (sSeq (sAsg (fUn gNeg (fC (.int 1))) (gN 1))
  (sSeq (sFor (iSeq (fVar 0)) (gTupF 2 (gsCons (gN 2) (gsCons (gN 3) gsNil))) (sSeq (sDrop (fCall (f_within c) [] (fCons (fC (.str "seeker")) (fCons (fVar 2) (fCons (fBin gAdd (fVar 1) (fC (.int 1))) (fCons (fBin gSub (fC (.int 30)) (fC (.int 1))) fNil))))))
  (sSeq (sDrop (fCall (f_within c) [] (fCons (fC (.str "amount")) (fCons (fVar 3) (fCons (fC (.int 0)) (fCons (fC (.int 9999)) fNil))))))
  (sAsg (fVar 2) (gN 1)))))
  (sRet (fBu gTuple (fCons (fLc (iSeq (fVar 0)) (gTupF 2 (gsCons (gN 2) (gsCons (gN 3) gsNil))) fYes (fTup (fCons (fVar 2) (fCons (fVar 3) fNil))) [2, 3]) fNil))))))
def f_entries_look (c : String → PySem.Addr) : Fn := runF (g_entries_look c) 4
/-- the def at the top's place 35 -/
abbrev s_p_put_out : Stmt := top 35
def N_p_put_out : List Str := ["kept", "out", "least", "holder", "amount"]
def g_p_put_out : SF :=
  (sSeq (sAsg (fBin gIx (fVar 0) (fC (.int 0))) (gTupF 2 (gsCons (gN 1) (gsCons (gN 2) gsNil))))
  (sSeq (sFor (iSeq (fVar 0)) (gTupF 2 (gsCons (gN 3) (gsCons (gN 4) gsNil))) (sIf (fB (fBin gLe (fVar 4) (fVar 2))) (sPar 1 2 (fCons (fVar 3) (fCons (fVar 4) fNil))) sNext))
  (sRet (fVar 1))))
def f_p_put_out : Fn := runF (g_p_put_out) 5
/-- the def at the top's place 34 -/
abbrev s_p_amount_in : Stmt := top 34
def N_p_amount_in : List Str := ["kept", "seeker", "holder", "amount"]
def g_p_amount_in : SF :=
  (sSeq (sFor (iSeq (fVar 0)) (gTupF 2 (gsCons (gN 2) (gsCons (gN 3) gsNil))) (sIf (fB (fBin (gEq false) (fVar 2) (fVar 1))) (sRet (fVar 3)) sNext))
  (sRet (fUn gNeg (fC (.int 1)))))
def f_p_amount_in : Fn := runF (g_p_amount_in) 4
/-- the def at the top's place 33 -/
abbrev s_p_least_amount : Stmt := top 33
def N_p_least_amount : List Str := ["kept", "places", "_", "amount"]
def g_p_least_amount : SF :=
  (sSeq (sIf (fB (fBin gLt (fBu gLen (fCons (fVar 0) fNil)) (fVar 1))) (sRet (fC (.int 0))) sNext)
  (sRet (fBu gMin1 (fCons (fLc (iSeq (fVar 0)) (gTupF 2 (gsCons (gN 2) (gsCons (gN 3) gsNil))) fYes (fVar 3) [2, 3]) fNil))))
def f_p_least_amount : Fn := runF (g_p_least_amount) 4
/-- the def at the top's place 36 -/
abbrev s_p_with_entry : Stmt := top 36
def N_p_with_entry : List Str := ["kept", "seeker", "amount", "before", "behind", "entry"]
def g_p_with_entry : SF :=
  (sSeq (sAsg (fLc (iSeq (fVar 0)) (gN 5) (fB (fBin gLt (fBin gIx (fVar 5) (fC (.int 0))) (fVar 1))) (fVar 5) [5]) (gN 3))
  (sSeq (sAsg (fLc (iSeq (fVar 0)) (gN 5) (fB (fBin gGt (fBin gIx (fVar 5) (fC (.int 0))) (fVar 1))) (fVar 5) [5]) (gN 4))
  (sRet (fBu gTuple (fCons (fBin gAdd (fBin gAdd (fVar 3) (fLst (fCons (fTup (fCons (fVar 1) (fCons (fVar 2) fNil))) fNil))) (fVar 4)) fNil)))))
def f_p_with_entry : Fn := runF (g_p_with_entry) 6
/-- the def at the top's place 32 -/
abbrev s_take : Stmt := top 32
def N_take : List Str := ["entries", "places", "seeker", "amount", "kept", "out", "others", "entry"]
def g_take (c : String → PySem.Addr) : SF :=
  (sSeq (sAsg (fCall (f_entries_look c) [] (fCons (fVar 0) fNil)) (gN 4))
  (sSeq (sDrop (fCall (f_within c) [] (fCons (fC (.str "places")) (fCons (fVar 1) (fCons (fC (.int 1)) (fCons (fC (.int 9)) fNil))))))
  (sSeq (sDrop (fCall (f_within c) [] (fCons (fC (.str "seeker")) (fCons (fVar 2) (fCons (fC (.int 0)) (fCons (fBin gSub (fC (.int 30)) (fC (.int 1))) fNil))))))
  (sSeq (sDrop (fCall (f_within c) [] (fCons (fC (.str "amount")) (fCons (fVar 3) (fCons (fC (.int 0)) (fCons (fC (.int 9999)) fNil))))))
  (sSeq (sDrop (fCall (f_within c) [] (fCons (fC (.str "entries")) (fCons (fBu gLen (fCons (fVar 4) fNil)) (fCons (fC (.int 0)) (fCons (fVar 1) fNil))))))
  (sSeq (sIf (fB (fBin (gEq true) (fCall f_p_amount_in [] (fCons (fVar 4) (fCons (fVar 2) fNil))) (fUn gNeg (fC (.int 1))))) (sRet (fTup (fCons (fC (.str "held")) (fCons (fVar 4) (fCons (fUn gNeg (fC (.int 1))) fNil))))) sNext)
  (sSeq (sIf (fB (fBin gLe (fVar 3) (fCall f_p_least_amount [] (fCons (fVar 4) (fCons (fVar 1) fNil))))) (sRet (fTup (fCons (fC (.str "low")) (fCons (fVar 4) (fCons (fUn gNeg (fC (.int 1))) fNil))))) sNext)
  (sSeq (sIf (fB (fBin gLt (fBu gLen (fCons (fVar 4) fNil)) (fVar 1))) (sRet (fTup (fCons (fC (.str "taken")) (fCons (fCall f_p_with_entry [] (fCons (fVar 4) (fCons (fVar 2) (fCons (fVar 3) fNil)))) (fCons (fUn gNeg (fC (.int 1))) fNil))))) sNext)
  (sSeq (sAsg (fCall f_p_put_out [] (fCons (fVar 4) fNil)) (gN 5))
  (sSeq (sAsg (fLc (iSeq (fVar 4)) (gN 7) (fB (fBin (gEq true) (fBin gIx (fVar 7) (fC (.int 0))) (fVar 5))) (fVar 7) [7]) (gN 6))
  (sRet (fTup (fCons (fC (.str "taken")) (fCons (fCall f_p_with_entry [] (fCons (fVar 6) (fCons (fVar 2) (fCons (fVar 3) fNil)))) (fCons (fVar 5) fNil)))))))))))))))
def f_take (c : String → PySem.Addr) : Fn := runF (g_take c) 8
/-- the def at the top's place 42 -/
abbrev s_l_refused : Stmt := top 42
def N_l_refused : List Str := ["_law_e", "_law_c"]
def g_l_refused (c : String → PySem.Addr) : SF :=
  (sSeq (sAsg (fLst (fCons (fBu (gIsi [(c "OutOfRange", .inr (c "OutOfRange"), true)]) (fCons (fVar 0) (fCons (fC (.ref (c "OutOfRange"))) fNil))) (fCons (fBu (gIsi [(c "OutOfRange", .inr (c "Unread"), false)]) (fCons (fVar 0) (fCons (fC (.ref (c "Unread"))) fNil))) (fCons (fBu (gIsi [(c "OutOfRange", .inr (c "Unfit"), false)]) (fCons (fVar 0) (fCons (fC (.ref (c "Unfit"))) fNil))) fNil)))) (gN 1))
  (sSeq (sAsg (fBin gAdd (fVar 1) (fLst (fCons (fBu (gIsi [(c "OutOfRange", .inr (c "NotAccepted"), false)]) (fCons (fVar 0) (fCons (fC (.ref (c "NotAccepted"))) fNil))) (fCons (fBu (gIsi [(c "OutOfRange", .inr (c "BadStart"), false)]) (fCons (fVar 0) (fCons (fC (.ref (c "BadStart"))) fNil))) (fCons (fBu (gIsi [(c "OutOfRange", .inr (c "Up"), false)]) (fCons (fVar 0) (fCons (fC (.ref (c "Up"))) fNil))) fNil))))) (gN 1))
  (sSeq (sAsg (fBin gAdd (fVar 1) (fLst (fCons (fBu (gIsi [(c "OutOfRange", .inr (c "NotOneChange"), false)]) (fCons (fVar 0) (fCons (fC (.ref (c "NotOneChange"))) fNil))) (fCons (fBu (gIsi [(c "OutOfRange", .inr (c "NotBest"), false)]) (fCons (fVar 0) (fCons (fC (.ref (c "NotBest"))) fNil))) (fCons (fBu (gIsi [(c "OutOfRange", .inr (c "Down"), false)]) (fCons (fVar 0) (fCons (fC (.ref (c "Down"))) fNil))) fNil))))) (gN 1))
  (sSeq (sAsg (fBin gAdd (fVar 1) (fLst (fCons (fBu (gIsi [(c "OutOfRange", .inr (c "NothingToUndo"), false)]) (fCons (fVar 0) (fCons (fC (.ref (c "NothingToUndo"))) fNil))) (fCons (fBu (gIsi [(c "OutOfRange", .inr (c "Busy"), false)]) (fCons (fVar 0) (fCons (fC (.ref (c "Busy"))) fNil))) (fCons (fBu (gIsi [(c "OutOfRange", .inr (c "Warm"), false)]) (fCons (fVar 0) (fCons (fC (.ref (c "Warm"))) fNil))) fNil))))) (gN 1))
  (sSeq (sAsg (fBin gAdd (fVar 1) (fLst (fCons (fBu (gIsi [(c "OutOfRange", .inr (c "NothingToRedo"), false)]) (fCons (fVar 0) (fCons (fC (.ref (c "NothingToRedo"))) fNil))) (fCons (fBu (gIsi [(c "OutOfRange", .inr (c "BadSlips"), false)]) (fCons (fVar 0) (fCons (fC (.ref (c "BadSlips"))) fNil))) fNil)))) (gN 1))
  (sSeq (sAsg (fBin gAdd (fVar 1) (fLst (fCons (fBu (gIsi [(c "OutOfRange", .inr (c "TooHeavy"), false)]) (fCons (fVar 0) (fCons (fC (.ref (c "TooHeavy"))) fNil))) (fCons (fBu (gIsi [(c "OutOfRange", .inr (c "BadWord"), false)]) (fCons (fVar 0) (fCons (fC (.ref (c "BadWord"))) fNil))) (fCons (fBu (gIsi [(c "OutOfRange", .inr (c "NoLetter"), false)]) (fCons (fVar 0) (fCons (fC (.ref (c "NoLetter"))) fNil))) fNil))))) (gN 1))
  (sSeq (sAsg (fBin gAdd (fVar 1) (fLst (fCons (fBu (gIsi [(c "OutOfRange", .inr (c "NotSynced"), false)]) (fCons (fVar 0) (fCons (fC (.ref (c "NotSynced"))) fNil))) (fCons (fBu (gIsi [(c "OutOfRange", .inr (c "BadEvent"), false)]) (fCons (fVar 0) (fCons (fC (.ref (c "BadEvent"))) fNil))) (fCons (fBu (gIsi [(c "OutOfRange", .inr (c "NotAtRest"), false)]) (fCons (fVar 0) (fCons (fC (.ref (c "NotAtRest"))) fNil))) fNil))))) (gN 1))
  (sSeq (sIf (fOr (fB (fBin (gEq true) (fMethL gCount (fVar 1) (fCons (fC (.bl true)) fNil)) (fC (.int 1)))) (fNot (fB (fBu (gIsi [(c "OutOfRange", .inl "ValueError", true)]) (fCons (fVar 0) (fCons (fC (.ty "ValueError")) fNil)))))) (sRet (fTup (fCons (fC (.str "no single class")) fNil))) sNext)
  (sSeq (sIf (fB (fBu (gIsi [(c "OutOfRange", .inr (c "OutOfRange"), true)]) (fCons (fVar 0) (fCons (fC (.ref (c "OutOfRange"))) fNil)))) (sRet (fTup (fCons (fC (.str "OutOfRange")) (fCons (fExf [c "OutOfRange"] "what" (fVar 0)) (fCons (fExf [c "OutOfRange"] "value" (fVar 0)) fNil))))) sNext)
  (sRet (fTup (fCons (fC (.str "another class")) fNil))))))))))))
def f_l_refused (c : String → PySem.Addr) : Fn := runF (g_l_refused c) 2
/-- the def at the top's place 51 -/
abbrev s_l_take : Stmt := top 51
def N_l_take : List Str := ["_law_given", "_law_places", "_law_who", "_law_amount", "_law_e"]
def g_l_take (c : String → PySem.Addr) : SF :=
  (sTry [(c "OutOfRange", true)] (sRet (fTup (fCons (fC (.str "told")) (fCons (fCall (f_take c) [] (fCons (fVar 0) (fCons (fVar 1) (fCons (fVar 2) (fCons (fVar 3) fNil))))) fNil)))) 4 (sRet (fCallH (f_l_refused c) (fCons (fVar 4) fNil))))
def f_l_take (c : String → PySem.Addr) : Fn := runF (g_l_take c) 5
/-- the def at the top's place 30 -/
abbrev s_price_of : Stmt := top 30
def N_price_of : List Str := ["entries", "places", "kept"]
def g_price_of (c : String → PySem.Addr) : SF :=
  (sSeq (sAsg (fCall (f_entries_look c) [] (fCons (fVar 0) fNil)) (gN 2))
  (sSeq (sDrop (fCall (f_within c) [] (fCons (fC (.str "places")) (fCons (fVar 1) (fCons (fC (.int 1)) (fCons (fC (.int 9)) fNil))))))
  (sSeq (sDrop (fCall (f_within c) [] (fCons (fC (.str "entries")) (fCons (fBu gLen (fCons (fVar 2) fNil)) (fCons (fC (.int 0)) (fCons (fVar 1) fNil))))))
  (sRet (fCall f_p_least_amount [] (fCons (fVar 2) (fCons (fVar 1) fNil)))))))
def f_price_of (c : String → PySem.Addr) : Fn := runF (g_price_of c) 3
/-- the def at the top's place 52 -/
abbrev s_l_price_of : Stmt := top 52
def N_l_price_of : List Str := ["_law_given", "_law_places", "_law_e"]
def g_l_price_of (c : String → PySem.Addr) : SF :=
  (sTry [(c "OutOfRange", true)] (sRet (fTup (fCons (fC (.str "told")) (fCons (fCall (f_price_of c) [] (fCons (fVar 0) (fCons (fVar 1) fNil))) fNil)))) 2 (sRet (fCallH (f_l_refused c) (fCons (fVar 2) fNil))))
def f_l_price_of (c : String → PySem.Addr) : Fn := runF (g_l_price_of c) 3
/-- the def at the top's place 31 -/
abbrev s_amount_of : Stmt := top 31
def N_amount_of : List Str := ["entries", "seeker", "kept"]
def g_amount_of (c : String → PySem.Addr) : SF :=
  (sSeq (sAsg (fCall (f_entries_look c) [] (fCons (fVar 0) fNil)) (gN 2))
  (sSeq (sDrop (fCall (f_within c) [] (fCons (fC (.str "seeker")) (fCons (fVar 1) (fCons (fC (.int 0)) (fCons (fBin gSub (fC (.int 30)) (fC (.int 1))) fNil))))))
  (sRet (fCall f_p_amount_in [] (fCons (fVar 2) (fCons (fVar 1) fNil))))))
def f_amount_of (c : String → PySem.Addr) : Fn := runF (g_amount_of c) 3
/-- the def at the top's place 53 -/
abbrev s_l_amount_of : Stmt := top 53
def N_l_amount_of : List Str := ["_law_given", "_law_who", "_law_e"]
def g_l_amount_of (c : String → PySem.Addr) : SF :=
  (sTry [(c "OutOfRange", true)] (sRet (fTup (fCons (fC (.str "told")) (fCons (fCall (f_amount_of c) [] (fCons (fVar 0) (fCons (fVar 1) fNil))) fNil)))) 2 (sRet (fCallH (f_l_refused c) (fCons (fVar 2) fNil))))
def f_l_amount_of (c : String → PySem.Addr) : Fn := runF (g_l_amount_of c) 3
/-- the def at the top's place 54 -/
abbrev s_l_right : Stmt := top 54
def N_l_right : List Str := ["_law_asked", "_law_form", "_law_entries_here", "_law_places", "_law_who", "_law_amount", "_law_given", "_law_dues_here", "_law_entry"]
def g_l_right (c : String → PySem.Addr) : SF :=
  (sSeq (sAsg (fVar 0) (gTupF 4 (gsCons (gN 2) (gsCons (gN 3) (gsCons (gN 4) (gsCons (gN 5) gsNil))))))
  (sSeq (sAsg (fLc (iSeq (fVar 2)) (gN 8) fYes (fBu (fun S ds => (gList S ds).map .lst) (fCons (fVar 8) fNil)) [8]) (gN 6))
  (sSeq (sIf (fB (fBin (gEq false) (fVar 1) (fC (.int 1)))) (sAsg (fBu gTuple (fCons (fVar 2) fNil)) (gN 6)) sNext)
  (sSeq (sIf (fB (fBin (gEq false) (fVar 1) (fC (.int 2)))) (sAsg (fBu gTuple (fCons (fVar 6) fNil)) (gN 6)) sNext)
  (sSeq (sAsg (fCall m_l_dues [] (fCons (fVar 0) fNil)) (gN 7))
  (sSeq (sIf (fNot (fB (fCall (f_l_same 6) [] (fCons (fCall (f_l_take c) [] (fCons (fVar 6) (fCons (fVar 3) (fCons (fVar 4) (fCons (fVar 5) fNil))))) (fCons (fBin gIx (fVar 7) (fC (.int 0))) fNil))))) (sRet (fC (.bl false))) sNext)
  (sSeq (sIf (fNot (fB (fCall (f_l_same 6) [] (fCons (fCall (f_l_price_of c) [] (fCons (fVar 6) (fCons (fVar 3) fNil))) (fCons (fBin gIx (fVar 7) (fC (.int 1))) fNil))))) (sRet (fC (.bl false))) sNext)
  (sSeq (sIf (fNot (fB (fCall (f_l_same 6) [] (fCons (fCall (f_l_amount_of c) [] (fCons (fVar 6) (fCons (fVar 4) fNil))) (fCons (fBin gIx (fVar 7) (fC (.int 2))) fNil))))) (sRet (fC (.bl false))) sNext)
  (sRet (fBin (gEq false) (fLc (iSeq (fVar 6)) (gN 8) fYes (fBu gTuple (fCons (fVar 8) fNil)) [8]) (fVar 2)))))))))))
def f_l_right (c : String → PySem.Addr) : Fn := runF (g_l_right c) 9
/-- the def at the top's place 55 -/
abbrev s_law : Stmt := top 55
def N_law : List Str := ["_law_script", "_law_pool", "_law_places", "_law_entries_here", "_law_gone", "_law_turn", "_law_form", "_law_who", "_law_amount", "_law_asked", "_law_odd", "_law_k", "_law_word", "_law_out", "_law_cell"]
def g_law (c : String → PySem.Addr) : SF :=
  (sSeq (sAsg (fLcL (iSeq (fSlG gSl (fVar 0) fNoP (fPart (fC (.int 63))))) (gN 14) fYes (fBu gAbs (fCons (fVar 14) fNil)) [14]) (gN 1))
  (sSeq (sAsg (fBin gAdd (fC (.int 1)) (fBin gMod (fBin gAdd (fCall f_l_draw [] (fCons (fVar 1) (fCons (fC (.int 9)) fNil))) (fC (.int 1))) (fC (.int 9)))) (gN 2))
  (sSeq (sAsg (fCall m_l_entries [] (fCons (fVar 1) (fCons (fVar 2) fNil))) (gN 3))
  (sSeq (sAsg (fUn gNeg (fC (.int 1))) (gN 4))
  (sSeq (sFor (iRng gRng1 (fCons (fC (.int 8)) fNil)) (gN 5) (sSeq (sAsg (fCall f_l_draw [] (fCons (fVar 1) (fCons (fC (.int 3)) fNil))) (gN 6))
  (sSeq (sAsg (fCall f_l_bid [] (fCons (fVar 1) (fCons (fVar 3) (fCons (fVar 2) (fCons (fVar 4) fNil))))) (gTupF 2 (gsCons (gN 7) (gsCons (gN 8) gsNil))))
  (sSeq (sAsg (fLst (fCons (fVar 3) (fCons (fVar 2) (fCons (fVar 7) (fCons (fVar 8) fNil))))) (gN 9))
  (sSeq (sAsg (fVar 9) (gN 10))
  (sSeq (sFor (iRng gRng1 (fCons (fBu (gI2C max2) (fCons (fC (.int 0)) (fCons (fBin gSub (fCall f_l_draw [] (fCons (fVar 1) (fCons (fC (.int 4)) fNil))) (fC (.int 1))) fNil))) fNil)) (gN 11) (sAsg (fCall f_l_bent [] (fCons (fVar 1) (fCons (fVar 10) fNil))) (gN 10)))
  (sSeq (sIf (fNot (fB (fCall (f_l_right c) [] (fCons (fVar 10) (fCons (fVar 6) fNil))))) (sRet (fC (.bl false))) sNext)
  (sSeq (sIf (fNot (fB (fCall (f_l_right c) [] (fCons (fVar 9) (fCons (fVar 6) fNil))))) (sRet (fC (.bl false))) sNext)
  (sSeq (sAsg (fCall f_l_taken [] (fCons (fVar 3) (fCons (fVar 2) (fCons (fVar 7) (fCons (fVar 8) fNil))))) (gTupF 3 (gsCons (gN 12) (gsCons (gN 3) (gsCons (gN 13) gsNil)))))
  (sIf (fB (fBin gGe (fVar 13) (fC (.int 0)))) (sAsg (fVar 13) (gN 4)) sNext))))))))))
  (sRet (fC (.bl true))))))))
def f_law (c : String → PySem.Addr) : Fn := runF (g_law c) 15
end K19
set_option maxRecDepth 100000
set_option maxHeartbeats 2000000
namespace K19
open FL
/-! ### draws -/
def drawn (f : Fn) (as : List FL.D) (T : Sto) (xs : List Int) (ok : FL.D → Prop) : Prop := ∃ v ys, ok v ∧ ys.length ≤ 63 ∧ f (.loc 0 :: as) (pool xs T) = .ok v (pool ys T)
theorem e_draw {xs : List Int} {T : Sto} {k : Int} (hl : xs.length ≤ 63) (h0 : 0 < k) (h1 : k < 1073741824) : ∃ (v : Int) (ys : List Int), (0 ≤ v ∧ v < k) ∧ ys.length ≤ 63 ∧ f_l_draw [.loc 0, .int k] (pool xs T) = .ok (.int v) (pool ys T) := by
  rw [show f_l_draw [.loc 0, .int k] (pool xs T) = (g_l_draw [some (.loc 0), some (.int k), none] (pool xs T)).out from rfl]
  unfold g_l_draw
  cases xs with
  | nil =>
    refine ⟨0, [], ⟨by omega, h0⟩, by simp, ?_⟩
    simp only [sSeq, sNext, sDrop, sRet, sRetN, sIf, sAsg, gN, fVar, fC, fBin, fUn, fBu, fNil, fCons, fTup, fLst, fB, fIf, fNot, fAnd, fOr, fV, fNotV, fAndV, fOrV, fCall, R.bind, R.bindS, R.of, RS.out, gAdd_int, gSub_int, gLt_int, gLe_int, gGt_int, gGe_int, gNeg_int, gEq_int, gNe_int, gI2C_int, gInt_int, gAbs_int, gLen_lst, gLen_tup, List.getElem?_cons_zero, List.getElem?_cons_succ, List.set_cons_zero, List.set_cons_succ, List.append_nil, if_true, if_false, decide_true, decide_false, Int.reduceEq, Int.reduceLT, Int.reduceLE, Int.reduceNeg, Int.reduceAdd, Int.reduceSub, Bool.not_true, Bool.not_false, reduceIte, Bool.false_eq_true, Option.map_some, Option.bind_some, Nat.reduceAdd, gTupF, gsCons, gsNil, seqOf, lisOf, lstOf, List.length_cons, List.length_nil, gEq_pool, List.isEmpty]
  | cons x r =>
    have e1 : mutAt gPopAt (.loc 0) [.int 0] (pool (x :: r) T) = .ok (.int x) (pool r T) := mut_popAt (S := pool (x :: r) T) (m := 0) (k := 0) (xs := iD (x :: r)) (z := .int x) 0 rfl rfl rfl (by decide)
    by_cases h : k ≤ x
    · have e2 : mutAt gAppend (.loc 0) [.int (x / k)] (pool r T) = .ok .non (pool (r ++ [x / k]) T) := by
        have hl : r.length + 1 ≤ 63 := hl
        rw [mut_append (xs := iD r) rfl (by rw [List.length_map]; omega)]
        simp
      refine ⟨x % k, r ++ [x / k], ⟨Int.emod_nonneg _ (by omega), Int.emod_lt_of_pos _ h0⟩, by simpa using hl, ?_⟩
      simp only [sSeq, sNext, sDrop, sRet, sRetN, sIf, sAsg, gN, fVar, fC, fBin, fUn, fBu, fNil, fCons, fTup, fLst, fB, fIf, fNot, fAnd, fOr, fV, fNotV, fAndV, fOrV, fCall, R.bind, R.bindS, R.of, RS.out, gAdd_int, gSub_int, gLt_int, gLe_int, gGt_int, gGe_int, gNeg_int, gEq_int, gNe_int, gI2C_int, gInt_int, gAbs_int, gLen_lst, gLen_tup, List.getElem?_cons_zero, List.getElem?_cons_succ, List.set_cons_zero, List.set_cons_succ, List.append_nil, if_true, if_false, decide_true, decide_false, Int.reduceEq, Int.reduceLT, Int.reduceLE, Int.reduceNeg, Int.reduceAdd, Int.reduceSub, Bool.not_true, Bool.not_false, reduceIte, Bool.false_eq_true, Option.map_some, Option.bind_some, Nat.reduceAdd, gTupF, gsCons, gsNil, seqOf, lisOf, lstOf, List.length_cons, List.length_nil, gEq_pool, List.isEmpty, fMut, locL_0, e1, e2, gDiv_int h0 h1, gMod_int h0, decide_eq_true h]
    · refine ⟨x % k, r, ⟨Int.emod_nonneg _ (by omega), Int.emod_lt_of_pos _ h0⟩, by have : r.length + 1 ≤ 63 := hl; omega, ?_⟩
      simp only [sSeq, sNext, sDrop, sRet, sRetN, sIf, sAsg, gN, fVar, fC, fBin, fUn, fBu, fNil, fCons, fTup, fLst, fB, fIf, fNot, fAnd, fOr, fV, fNotV, fAndV, fOrV, fCall, R.bind, R.bindS, R.of, RS.out, gAdd_int, gSub_int, gLt_int, gLe_int, gGt_int, gGe_int, gNeg_int, gEq_int, gNe_int, gI2C_int, gInt_int, gAbs_int, gLen_lst, gLen_tup, List.getElem?_cons_zero, List.getElem?_cons_succ, List.set_cons_zero, List.set_cons_succ, List.append_nil, if_true, if_false, decide_true, decide_false, Int.reduceEq, Int.reduceLT, Int.reduceLE, Int.reduceNeg, Int.reduceAdd, Int.reduceSub, Bool.not_true, Bool.not_false, reduceIte, Bool.false_eq_true, Option.map_some, Option.bind_some, Nat.reduceAdd, gTupF, gsCons, gsNil, seqOf, lisOf, lstOf, List.length_cons, List.length_nil, gEq_pool, List.isEmpty, fMut, locL_0, e1, gDiv_int h0 h1, gMod_int h0, decide_eq_false h]
theorem e_near {xs : List Int} {T : Sto} {a b : Int} (hl : xs.length ≤ 63) (hab : a ≤ b) (hb : b - a < 100000) : ∃ (v : Int) (ys : List Int), (a ≤ v ∧ v ≤ b) ∧ ys.length ≤ 63 ∧ f_l_near [.loc 0, .int a, .int b] (pool xs T) = .ok (.int v) (pool ys T) := by
  rw [show f_l_near [.loc 0, .int a, .int b] (pool xs T) = (g_l_near [some (.loc 0), some (.int a), some (.int b), none, none] (pool xs T)).out from rfl]
  unfold g_l_near
  obtain ⟨v, ys, hv, hl1, e1⟩ := e_draw (T := T) (k := 3) hl (by omega) (by omega)
  obtain ⟨u, zs, hu, hl2, e2⟩ := e_draw (T := T) (k := min2 3 (b - a + 1)) hl1 (by unfold min2; split <;> omega) (by unfold min2; split <;> omega)
  obtain ⟨t, ws, ht, hl3, e3⟩ := e_draw (T := T) (k := b - a + 1) hl1 (by omega) (by omega)
  have m : min2 3 (b - a + 1) ≤ b - a + 1 := by unfold min2; split <;> omega
  by_cases h0 : v = 0
  · subst h0
    exact ⟨a + u, zs, ⟨by omega, by omega⟩, hl2, by simp only [sSeq, sNext, sDrop, sRet, sRetN, sIf, sAsg, gN, fVar, fC, fBin, fUn, fBu, fNil, fCons, fTup, fLst, fB, fIf, fNot, fAnd, fOr, fV, fNotV, fAndV, fOrV, fCall, R.bind, R.bindS, R.of, RS.out, gAdd_int, gSub_int, gLt_int, gLe_int, gGt_int, gGe_int, gNeg_int, gEq_int, gNe_int, gI2C_int, gInt_int, gAbs_int, gLen_lst, gLen_tup, List.getElem?_cons_zero, List.getElem?_cons_succ, List.set_cons_zero, List.set_cons_succ, List.append_nil, if_true, if_false, decide_true, decide_false, Int.reduceEq, Int.reduceLT, Int.reduceLE, Int.reduceNeg, Int.reduceAdd, Int.reduceSub, Bool.not_true, Bool.not_false, reduceIte, Bool.false_eq_true, Option.map_some, Option.bind_some, Nat.reduceAdd, gTupF, gsCons, gsNil, seqOf, lisOf, lstOf, List.length_cons, List.length_nil, e1, e2]⟩
  · by_cases h1 : v = 1
    · subst h1
      exact ⟨b - u, zs, ⟨by omega, by omega⟩, hl2, by simp only [sSeq, sNext, sDrop, sRet, sRetN, sIf, sAsg, gN, fVar, fC, fBin, fUn, fBu, fNil, fCons, fTup, fLst, fB, fIf, fNot, fAnd, fOr, fV, fNotV, fAndV, fOrV, fCall, R.bind, R.bindS, R.of, RS.out, gAdd_int, gSub_int, gLt_int, gLe_int, gGt_int, gGe_int, gNeg_int, gEq_int, gNe_int, gI2C_int, gInt_int, gAbs_int, gLen_lst, gLen_tup, List.getElem?_cons_zero, List.getElem?_cons_succ, List.set_cons_zero, List.set_cons_succ, List.append_nil, if_true, if_false, decide_true, decide_false, Int.reduceEq, Int.reduceLT, Int.reduceLE, Int.reduceNeg, Int.reduceAdd, Int.reduceSub, Bool.not_true, Bool.not_false, reduceIte, Bool.false_eq_true, Option.map_some, Option.bind_some, Nat.reduceAdd, gTupF, gsCons, gsNil, seqOf, lisOf, lstOf, List.length_cons, List.length_nil, e1, e2, decide_eq_false h0]⟩
    · exact ⟨a + t, ws, ⟨by omega, by omega⟩, hl3, by simp only [sSeq, sNext, sDrop, sRet, sRetN, sIf, sAsg, gN, fVar, fC, fBin, fUn, fBu, fNil, fCons, fTup, fLst, fB, fIf, fNot, fAnd, fOr, fV, fNotV, fAndV, fOrV, fCall, R.bind, R.bindS, R.of, RS.out, gAdd_int, gSub_int, gLt_int, gLe_int, gGt_int, gGe_int, gNeg_int, gEq_int, gNe_int, gI2C_int, gInt_int, gAbs_int, gLen_lst, gLen_tup, List.getElem?_cons_zero, List.getElem?_cons_succ, List.set_cons_zero, List.set_cons_succ, List.append_nil, if_true, if_false, decide_true, decide_false, Int.reduceEq, Int.reduceLT, Int.reduceLE, Int.reduceNeg, Int.reduceAdd, Int.reduceSub, Bool.not_true, Bool.not_false, reduceIte, Bool.false_eq_true, Option.map_some, Option.bind_some, Nat.reduceAdd, gTupF, gsCons, gsNil, seqOf, lisOf, lstOf, List.length_cons, List.length_nil, e1, e3, decide_eq_false h0, decide_eq_false h1]⟩
theorem e_beyond {xs : List Int} {T : Sto} {a b : Int} (hl : xs.length ≤ 63) (hab : a ≤ b) : ∃ (v : Int) (ys : List Int), (a - 1000 ≤ v ∧ v ≤ b + 1000) ∧ ys.length ≤ 63 ∧ f_l_beyond [.loc 0, .int a, .int b] (pool xs T) = .ok (.int v) (pool ys T) := by
  rw [show f_l_beyond [.loc 0, .int a, .int b] (pool xs T) = (g_l_beyond [some (.loc 0), some (.int a), some (.int b), none] (pool xs T)).out from rfl]
  unfold g_l_beyond
  obtain ⟨v, ys, hv, hl1, e1⟩ := e_draw (T := T) (k := 2) hl (by omega) (by omega)
  obtain ⟨t, zs, ht, hl2, e2⟩ := e_draw (T := T) (k := 1000) hl1 (by omega) (by omega)
  obtain ⟨u, ws, hu, hl3, e3⟩ := e_draw (T := T) (k := 2) hl1 (by omega) (by omega)
  obtain ⟨r, us, hr, hl4, e4⟩ := e_draw (T := T) (k := 2) hl2 (by omega) (by omega)
  by_cases h0 : v = 1
  · subst h0
    by_cases h1 : r = 1
    · subst h1
      exact ⟨a - (1 + t), us, ⟨by omega, by omega⟩, hl4, by simp only [sSeq, sNext, sDrop, sRet, sRetN, sIf, sAsg, gN, fVar, fC, fBin, fUn, fBu, fNil, fCons, fTup, fLst, fB, fIf, fNot, fAnd, fOr, fV, fNotV, fAndV, fOrV, fCall, R.bind, R.bindS, R.of, RS.out, gAdd_int, gSub_int, gLt_int, gLe_int, gGt_int, gGe_int, gNeg_int, gEq_int, gNe_int, gI2C_int, gInt_int, gAbs_int, gLen_lst, gLen_tup, List.getElem?_cons_zero, List.getElem?_cons_succ, List.set_cons_zero, List.set_cons_succ, List.append_nil, if_true, if_false, decide_true, decide_false, Int.reduceEq, Int.reduceLT, Int.reduceLE, Int.reduceNeg, Int.reduceAdd, Int.reduceSub, Bool.not_true, Bool.not_false, reduceIte, Bool.false_eq_true, Option.map_some, Option.bind_some, Nat.reduceAdd, gTupF, gsCons, gsNil, seqOf, lisOf, lstOf, List.length_cons, List.length_nil, e1, e2, e4]⟩
    · exact ⟨b + (1 + t), us, ⟨by omega, by omega⟩, hl4, by simp only [sSeq, sNext, sDrop, sRet, sRetN, sIf, sAsg, gN, fVar, fC, fBin, fUn, fBu, fNil, fCons, fTup, fLst, fB, fIf, fNot, fAnd, fOr, fV, fNotV, fAndV, fOrV, fCall, R.bind, R.bindS, R.of, RS.out, gAdd_int, gSub_int, gLt_int, gLe_int, gGt_int, gGe_int, gNeg_int, gEq_int, gNe_int, gI2C_int, gInt_int, gAbs_int, gLen_lst, gLen_tup, List.getElem?_cons_zero, List.getElem?_cons_succ, List.set_cons_zero, List.set_cons_succ, List.append_nil, if_true, if_false, decide_true, decide_false, Int.reduceEq, Int.reduceLT, Int.reduceLE, Int.reduceNeg, Int.reduceAdd, Int.reduceSub, Bool.not_true, Bool.not_false, reduceIte, Bool.false_eq_true, Option.map_some, Option.bind_some, Nat.reduceAdd, gTupF, gsCons, gsNil, seqOf, lisOf, lstOf, List.length_cons, List.length_nil, e1, e2, e4, decide_eq_false h1]⟩
  · by_cases h1 : u = 1
    · subst h1
      exact ⟨a - 1, ws, ⟨by omega, by omega⟩, hl3, by simp only [sSeq, sNext, sDrop, sRet, sRetN, sIf, sAsg, gN, fVar, fC, fBin, fUn, fBu, fNil, fCons, fTup, fLst, fB, fIf, fNot, fAnd, fOr, fV, fNotV, fAndV, fOrV, fCall, R.bind, R.bindS, R.of, RS.out, gAdd_int, gSub_int, gLt_int, gLe_int, gGt_int, gGe_int, gNeg_int, gEq_int, gNe_int, gI2C_int, gInt_int, gAbs_int, gLen_lst, gLen_tup, List.getElem?_cons_zero, List.getElem?_cons_succ, List.set_cons_zero, List.set_cons_succ, List.append_nil, if_true, if_false, decide_true, decide_false, Int.reduceEq, Int.reduceLT, Int.reduceLE, Int.reduceNeg, Int.reduceAdd, Int.reduceSub, Bool.not_true, Bool.not_false, reduceIte, Bool.false_eq_true, Option.map_some, Option.bind_some, Nat.reduceAdd, gTupF, gsCons, gsNil, seqOf, lisOf, lstOf, List.length_cons, List.length_nil, e1, e3, decide_eq_false h0]⟩
    · exact ⟨b + 1, ws, ⟨by omega, by omega⟩, hl3, by simp only [sSeq, sNext, sDrop, sRet, sRetN, sIf, sAsg, gN, fVar, fC, fBin, fUn, fBu, fNil, fCons, fTup, fLst, fB, fIf, fNot, fAnd, fOr, fV, fNotV, fAndV, fOrV, fCall, R.bind, R.bindS, R.of, RS.out, gAdd_int, gSub_int, gLt_int, gLe_int, gGt_int, gGe_int, gNeg_int, gEq_int, gNe_int, gI2C_int, gInt_int, gAbs_int, gLen_lst, gLen_tup, List.getElem?_cons_zero, List.getElem?_cons_succ, List.set_cons_zero, List.set_cons_succ, List.append_nil, if_true, if_false, decide_true, decide_false, Int.reduceEq, Int.reduceLT, Int.reduceLE, Int.reduceNeg, Int.reduceAdd, Int.reduceSub, Bool.not_true, Bool.not_false, reduceIte, Bool.false_eq_true, Option.map_some, Option.bind_some, Nat.reduceAdd, gTupF, gsCons, gsNil, seqOf, lisOf, lstOf, List.length_cons, List.length_nil, e1, e3, decide_eq_false h0, decide_eq_false h1]⟩
/-! ### entries -/
abbrev entD (e : Int × Int) : FL.D := .tup [.int e.1, .int e.2]
abbrev entsD (l : List (Int × Int)) : List FL.D := l.map entD
def priceV (l : List (Int × Int)) (p : Int) : Int := if (l.length : Int) < p then 0 else (minI (l.map (·.2))).getD 0
theorem lc_ents {fi : Fi} {g : TGf} {ft : Ft} {fe : F} {vs : List Nat} {env : Env} {S : Sto} {l : List (Int × Int)} (h : Int × Int → Option FL.D) (hi : fi env S = .ok (.fix (entsD l)) S) (hl : l.length ≤ 1000) (hb : ∀ e, lcBody g ft fe (wipeE env vs) (entD e) S = .ok (h e) S) :
    fLc fi g ft fe vs env S = .ok (.lst (l.filterMap h)) S := by
  have := fLc_pure (fi := fi) (g := g) (ft := ft) (fe := fe) (vs := vs) (env := env) (S := S) (S1 := S) (ds := entsD l) (fun d => match d with
    | .tup [.int s, .int a] => h (s, a)
    | _ => none) hi (by rw [List.length_map]; omega) fun d hd => by
      obtain ⟨e, _, rfl⟩ := List.mem_map.mp hd
      exact hb e
  rw [this, List.filterMap_map]
  rfl
theorem fm_some {α β : Type} (f : α → β) : ∀ l : List α, l.filterMap (fun x => some (f x)) = l.map f
  | [] => rfl
  | x :: r => by rw [List.filterMap_cons, fm_some f r]; rfl
theorem fm_if {α β : Type} (f : α → β) (p : α → Bool) : ∀ l : List α, l.filterMap (fun x => if p x = true then some (f x) else none) = (l.filter p).map f
  | [] => rfl
  | x :: r => by
    rw [List.filterMap_cons, List.filter_cons, fm_if f p r]
    by_cases h : p x = true
    · rw [if_pos h, if_pos h]; rfl
    · rw [if_neg h, if_neg h]
theorem intsOf_iD (ns : List Int) : intsOf (iD ns) = some ns := intsOf_map ns
theorem gMin1_lst {S : Sto} {ns : List Int} {m : Int} (h : minI ns = some m) : gMin1 S [.lst (iD ns)] = some (.int m) := by
  show ((((some (iD ns)).bind intsOf).bind minI).map FL.D.int) = _
  show (((intsOf (iD ns)).bind minI).map FL.D.int) = _
  rw [intsOf_iD]
  show ((minI ns).map FL.D.int) = _
  rw [h]
  rfl
theorem gMin1_map {α : Type} {S : Sto} (h : α → Int) {l : List α} {m : Int} (e : minI (l.map h) = some m) : gMin1 S [.lst (l.map fun e => FL.D.int (h e))] = some (.int m) := by
  have q : iD (l.map h) = l.map (fun e => FL.D.int (h e)) := by
    show (l.map h).map FL.D.int = _
    rw [List.map_map]
    rfl
  have := gMin1_lst (S := S) e
  rw [q] at this
  exact this
theorem minI_some : ∀ {ns : List Int}, ns ≠ [] → ∃ m, minI ns = some m
  | [], h => absurd rfl h
  | n :: r, _ => ⟨_, rfl⟩
theorem e_price {S : Sto} {l : List (Int × Int)} {p : Int} (hp : 0 < p) (hl : l.length ≤ 1000) : f_l_price [.lst (entsD l), .int p] S = .ok (.int (priceV l p)) S := by
  rw [show f_l_price [.lst (entsD l), .int p] S = (g_l_price [some (.lst (entsD l)), some (.int p), none] S).out from rfl]
  unfold g_l_price priceV
  by_cases h : (l.length : Int) < p
  · simp only [sSeq, sNext, sDrop, sRet, sRetN, sIf, sAsg, gN, fVar, fC, fBin, fUn, fBu, fNil, fCons, fTup, fLst, fB, fIf, fNot, fAnd, fOr, fV, fNotV, fAndV, fOrV, fCall, R.bind, R.bindS, R.of, RS.out, gAdd_int, gSub_int, gLt_int, gLe_int, gGt_int, gGe_int, gNeg_int, gEq_int, gNe_int, gI2C_int, gInt_int, gAbs_int, gLen_lst, gLen_tup, List.getElem?_cons_zero, List.getElem?_cons_succ, List.set_cons_zero, List.set_cons_succ, List.append_nil, if_true, if_false, decide_true, decide_false, Int.reduceEq, Int.reduceLT, Int.reduceLE, Int.reduceNeg, Int.reduceAdd, Int.reduceSub, Bool.not_true, Bool.not_false, reduceIte, Bool.false_eq_true, Option.map_some, Option.bind_some, Nat.reduceAdd, gTupF, gsCons, gsNil, seqOf, lisOf, lstOf, List.length_cons, List.length_nil, List.length_map, decide_eq_true h, if_pos h]
  · have e := lc_ents (fi := iSeq (fVar 0)) (g := gN 2) (ft := fYes) (fe := fBin gIx (fVar 2) (fC (.int 1))) (vs := [2]) (env := [some (.lst (entsD l)), some (.int p), none]) (S := S) (l := l) (fun e => some (.int e.2)) rfl hl fun e => rfl
    rw [fm_some] at e
    have ne : l.map (·.2) ≠ [] := fun z => by
      have : l.length = 0 := by rw [← List.length_map (f := (·.2)), z]; rfl
      omega
    obtain ⟨m, hm⟩ := minI_some ne
    have e2 : gMin1 S [.lst (l.map fun e => FL.D.int e.2)] = some (.int m) := gMin1_map (fun e : Int × Int => e.2) hm
    simp only [sSeq, sNext, sDrop, sRet, sRetN, sIf, sAsg, gN, fVar, fC, fBin, fUn, fBu, fNil, fCons, fTup, fLst, fB, fIf, fNot, fAnd, fOr, fV, fNotV, fAndV, fOrV, fCall, R.bind, R.bindS, R.of, RS.out, gAdd_int, gSub_int, gLt_int, gLe_int, gGt_int, gGe_int, gNeg_int, gEq_int, gNe_int, gI2C_int, gInt_int, gAbs_int, gLen_lst, gLen_tup, List.getElem?_cons_zero, List.getElem?_cons_succ, List.set_cons_zero, List.set_cons_succ, List.append_nil, if_true, if_false, decide_true, decide_false, Int.reduceEq, Int.reduceLT, Int.reduceLE, Int.reduceNeg, Int.reduceAdd, Int.reduceSub, Bool.not_true, Bool.not_false, reduceIte, Bool.false_eq_true, Option.map_some, Option.bind_some, Nat.reduceAdd, gTupF, gsCons, gsNil, seqOf, lisOf, lstOf, List.length_cons, List.length_nil, List.length_map, decide_eq_false h, if_neg h, e, e2, hm, Option.getD_some]
end K19
set_option maxRecDepth 100000
set_option maxHeartbeats 2000000
namespace K19
open FL
/-! ### the law's own reckoning -/
def outV (l : List (Int × Int)) : Int := (-((minI (l.map fun e => 30 * e.2 - e.1)).getD 0)) % 30
def putV (l : List (Int × Int)) (s a : Int) : List (Int × Int) := (l.filter fun e => decide (e.1 < s)) ++ [(s, a)] ++ (l.filter fun e => decide (s < e.1))
def takenV (l : List (Int × Int)) (p s a : Int) : String × List (Int × Int) × Int :=
  if (l.any fun e => decide (e.1 = s)) = true then ("held", l, -1)
  else if a ≤ priceV l p then ("low", l, -1)
  else if (l.length : Int) = p then ("taken", putV (l.filter fun e => !decide (e.1 = outV l)) s a, outV l)
  else ("taken", putV (l.filter fun e => !decide (e.1 = -1)) s a, -1)
abbrev wordD (x : String) : FL.D := .str (PySem.Str.ofString x)
theorem gIn_ints {S : Sto} {s : Int} : ∀ {ns : List Int}, gIn false S (.int s) (.lst (iD ns)) = some (.bl (ns.any fun n => decide (n = s))) := fun {ns} => by
  have h1 : (iD ns).all FL.D.flat = true := List.all_eq_true.mpr fun d hd => by
    obtain ⟨n, _, rfl⟩ := List.mem_map.mp hd
    rfl
  show (if ((FL.D.int s).flat && (iD ns).all FL.D.flat) = true then some (FL.D.bl ((iD ns).any fun d => eqD d (.int s))) else none) = _
  rw [h1, if_pos (by rfl), List.any_map]
  congr 2
theorem e_taken {S : Sto} {l : List (Int × Int)} {p s a : Int} (hp : 0 < p) (hl : l.length ≤ 1000) : f_l_taken [.lst (entsD l), .int p, .int s, .int a] S = .ok (.tup [wordD (takenV l p s a).1, .lst (entsD (takenV l p s a).2.1), .int (takenV l p s a).2.2]) S := by
  rw [show f_l_taken [.lst (entsD l), .int p, .int s, .int a] S = (g_l_taken [some (.lst (entsD l)), some (.int p), some (.int s), some (.int a), none, none, none, none, none, none] S).out from rfl]
  unfold g_l_taken
  have q1 := lc_ents (fi := iSeq (fVar 0)) (g := gN 9) (ft := fYes) (fe := fBin gIx (fVar 9) (fC (.int 0))) (vs := [9]) (env := [some (.lst (entsD l)), some (.int p), some (.int s), some (.int a), none, none, none, none, none, none]) (S := S) (l := l) (fun e => some (.int e.1)) rfl hl fun e => rfl
  rw [fm_some] at q1
  have q1' : gIn false S (.int s) (.lst (l.map fun e => FL.D.int e.1)) = some (.bl (l.any fun e => decide (e.1 = s))) := by
    have := gIn_ints (S := S) (s := s) (ns := l.map (·.1))
    rw [List.any_map, show iD (l.map (·.1)) = l.map (fun e => FL.D.int e.1) from by show (l.map (·.1)).map FL.D.int = _; rw [List.map_map]; rfl] at this
    exact this
  have hpr := e_price (S := S) hp hl
  unfold takenV
  cases h1 : l.any fun e => decide (e.1 = s) with
  | true => simp only [sSeq, sNext, sDrop, sRet, sRetN, sIf, sAsg, gN, fVar, fC, fBin, fUn, fBu, fNil, fCons, fTup, fLst, fB, fIf, fNot, fAnd, fOr, fV, fNotV, fAndV, fOrV, fCall, R.bind, R.bindS, R.of, RS.out, gAdd_int, gSub_int, gLt_int, gLe_int, gGt_int, gGe_int, gNeg_int, gEq_int, gNe_int, gI2C_int, gInt_int, gAbs_int, gLen_lst, gLen_tup, List.getElem?_cons_zero, List.getElem?_cons_succ, List.set_cons_zero, List.set_cons_succ, List.append_nil, if_true, if_false, decide_true, decide_false, Int.reduceEq, Int.reduceLT, Int.reduceLE, Int.reduceNeg, Int.reduceAdd, Int.reduceSub, Bool.not_true, Bool.not_false, reduceIte, Bool.false_eq_true, Option.map_some, Option.bind_some, Nat.reduceAdd, gTupF, gsCons, gsNil, seqOf, lisOf, lstOf, List.length_cons, List.length_nil, q1, q1', h1] <;> rfl
  | false =>
    by_cases h2 : a ≤ priceV l p
    · simp only [sSeq, sNext, sDrop, sRet, sRetN, sIf, sAsg, gN, fVar, fC, fBin, fUn, fBu, fNil, fCons, fTup, fLst, fB, fIf, fNot, fAnd, fOr, fV, fNotV, fAndV, fOrV, fCall, R.bind, R.bindS, R.of, RS.out, gAdd_int, gSub_int, gLt_int, gLe_int, gGt_int, gGe_int, gNeg_int, gEq_int, gNe_int, gI2C_int, gInt_int, gAbs_int, gLen_lst, gLen_tup, List.getElem?_cons_zero, List.getElem?_cons_succ, List.set_cons_zero, List.set_cons_succ, List.append_nil, if_true, if_false, decide_true, decide_false, Int.reduceEq, Int.reduceLT, Int.reduceLE, Int.reduceNeg, Int.reduceAdd, Int.reduceSub, Bool.not_true, Bool.not_false, reduceIte, Bool.false_eq_true, Option.map_some, Option.bind_some, Nat.reduceAdd, gTupF, gsCons, gsNil, seqOf, lisOf, lstOf, List.length_cons, List.length_nil, q1, q1', h1, hpr, decide_eq_true h2, if_pos h2] <;> rfl
    · have sizes : ∀ (x : List (Int × Int)), (putV x s a).length ≤ x.length + x.length + 1 := fun x => by
        unfold putV
        have := List.length_filter_le (fun e : Int × Int => decide (e.1 < s)) x
        have := List.length_filter_le (fun e : Int × Int => decide (s < e.1)) x
        simp only [List.length_append, List.length_cons, List.length_nil]
        omega
      -- the three comprehensions behind
      have tail : ∀ (x2 : List (Int × Int)) (o : Int) (e5 : Option FL.D), x2 = l.filter (fun e => !decide (e.1 = o)) →
          ((sSeq (sAsg (fLc (iSeq (fVar 0)) (gN 9) (fB (fBin (gEq true) (fBin gIx (fVar 9) (fC (.int 0))) (fVar 4))) (fVar 9) [9]) (gN 6))
  (sSeq (sAsg (fLc (iSeq (fVar 6)) (gN 9) (fB (fBin gLt (fBin gIx (fVar 9) (fC (.int 0))) (fVar 2))) (fVar 9) [9]) (gN 7))
  (sSeq (sAsg (fLc (iSeq (fVar 6)) (gN 9) (fB (fBin gGt (fBin gIx (fVar 9) (fC (.int 0))) (fVar 2))) (fVar 9) [9]) (gN 8))
  (sRet (fTup (fCons (fC (.str "taken")) (fCons (fBin gAdd (fBin gAdd (fVar 7) (fLst (fCons (fTup (fCons (fVar 2) (fCons (fVar 3) fNil))) fNil))) (fVar 8)) (fCons (fVar 4) fNil)))))))) [some (.lst (entsD l)), some (.int p), some (.int s), some (.int a), some (.int o), e5, none, none, none, none] S).out =
          .ok (.tup [wordD "taken", .lst (entsD (putV x2 s a)), .int o]) S := fun x2 o e5 hx => by
        have hx2 : x2.length ≤ l.length := by rw [hx]; exact List.length_filter_le _ _
        have r1 := lc_ents (fi := iSeq (fVar 0)) (g := gN 9) (ft := fB (fBin (gEq true) (fBin gIx (fVar 9) (fC (.int 0))) (fVar 4))) (fe := fVar 9) (vs := [9]) (env := [some (.lst (entsD l)), some (.int p), some (.int s), some (.int a), some (.int o), e5, none, none, none, none]) (S := S) (l := l) (fun e => if (!decide (e.1 = o)) = true then some (entD e) else none) rfl hl fun e => by
          have z : gIx S (entD e) (.int 0) = some (.int e.1) := rfl
          unfold lcBody
          simp only [sSeq, sNext, sDrop, sRet, sRetN, sIf, sAsg, gN, fVar, fC, fBin, fUn, fBu, fNil, fCons, fTup, fLst, fB, fIf, fNot, fAnd, fOr, fV, fNotV, fAndV, fOrV, fCall, R.bind, R.bindS, R.of, RS.out, gAdd_int, gSub_int, gLt_int, gLe_int, gGt_int, gGe_int, gNeg_int, gEq_int, gNe_int, gI2C_int, gInt_int, gAbs_int, gLen_lst, gLen_tup, List.getElem?_cons_zero, List.getElem?_cons_succ, List.set_cons_zero, List.set_cons_succ, List.append_nil, if_true, if_false, decide_true, decide_false, Int.reduceEq, Int.reduceLT, Int.reduceLE, Int.reduceNeg, Int.reduceAdd, Int.reduceSub, Bool.not_true, Bool.not_false, reduceIte, Bool.false_eq_true, Option.map_some, Option.bind_some, Nat.reduceAdd, gTupF, gsCons, gsNil, seqOf, lisOf, lstOf, List.length_cons, List.length_nil, wipeE, z, R.noX]
          cases decide (e.1 = o) <;> rfl
        rw [fm_if, ← hx] at r1
        have r2 := lc_ents (fi := iSeq (fVar 6)) (g := gN 9) (ft := fB (fBin gLt (fBin gIx (fVar 9) (fC (.int 0))) (fVar 2))) (fe := fVar 9) (vs := [9]) (env := [some (.lst (entsD l)), some (.int p), some (.int s), some (.int a), some (.int o), e5, some (.lst (entsD x2)), none, none, none]) (S := S) (l := x2) (fun e => if decide (e.1 < s) = true then some (entD e) else none) rfl (by omega) fun e => by
          have z : gIx S (entD e) (.int 0) = some (.int e.1) := rfl
          unfold lcBody
          simp only [sSeq, sNext, sDrop, sRet, sRetN, sIf, sAsg, gN, fVar, fC, fBin, fUn, fBu, fNil, fCons, fTup, fLst, fB, fIf, fNot, fAnd, fOr, fV, fNotV, fAndV, fOrV, fCall, R.bind, R.bindS, R.of, RS.out, gAdd_int, gSub_int, gLt_int, gLe_int, gGt_int, gGe_int, gNeg_int, gEq_int, gNe_int, gI2C_int, gInt_int, gAbs_int, gLen_lst, gLen_tup, List.getElem?_cons_zero, List.getElem?_cons_succ, List.set_cons_zero, List.set_cons_succ, List.append_nil, if_true, if_false, decide_true, decide_false, Int.reduceEq, Int.reduceLT, Int.reduceLE, Int.reduceNeg, Int.reduceAdd, Int.reduceSub, Bool.not_true, Bool.not_false, reduceIte, Bool.false_eq_true, Option.map_some, Option.bind_some, Nat.reduceAdd, gTupF, gsCons, gsNil, seqOf, lisOf, lstOf, List.length_cons, List.length_nil, wipeE, z, R.noX]
          cases decide (e.1 < s) <;> rfl
        rw [fm_if] at r2
        have r3 := lc_ents (fi := iSeq (fVar 6)) (g := gN 9) (ft := fB (fBin gGt (fBin gIx (fVar 9) (fC (.int 0))) (fVar 2))) (fe := fVar 9) (vs := [9]) (env := [some (.lst (entsD l)), some (.int p), some (.int s), some (.int a), some (.int o), e5, some (.lst (entsD x2)), some (.lst (entsD (x2.filter fun e => decide (e.1 < s)))), none, none]) (S := S) (l := x2) (fun e => if decide (s < e.1) = true then some (entD e) else none) rfl (by omega) fun e => by
          have z : gIx S (entD e) (.int 0) = some (.int e.1) := rfl
          unfold lcBody
          simp only [sSeq, sNext, sDrop, sRet, sRetN, sIf, sAsg, gN, fVar, fC, fBin, fUn, fBu, fNil, fCons, fTup, fLst, fB, fIf, fNot, fAnd, fOr, fV, fNotV, fAndV, fOrV, fCall, R.bind, R.bindS, R.of, RS.out, gAdd_int, gSub_int, gLt_int, gLe_int, gGt_int, gGe_int, gNeg_int, gEq_int, gNe_int, gI2C_int, gInt_int, gAbs_int, gLen_lst, gLen_tup, List.getElem?_cons_zero, List.getElem?_cons_succ, List.set_cons_zero, List.set_cons_succ, List.append_nil, if_true, if_false, decide_true, decide_false, Int.reduceEq, Int.reduceLT, Int.reduceLE, Int.reduceNeg, Int.reduceAdd, Int.reduceSub, Bool.not_true, Bool.not_false, reduceIte, Bool.false_eq_true, Option.map_some, Option.bind_some, Nat.reduceAdd, gTupF, gsCons, gsNil, seqOf, lisOf, lstOf, List.length_cons, List.length_nil, wipeE, z, R.noX]
          cases decide (s < e.1) <;> rfl
        rw [fm_if] at r3
        have f1 := List.length_filter_le (fun e : Int × Int => decide (e.1 < s)) x2
        have f2 := List.length_filter_le (fun e : Int × Int => decide (s < e.1)) x2
        have c1 : gAdd S (.lst (entsD (x2.filter fun e => decide (e.1 < s)))) (.lst [entD (s, a)]) = some (.lst (entsD ((x2.filter fun e => decide (e.1 < s)) ++ [(s, a)]))) := by
          rw [gCat_lst (by simp only [List.length_map, List.length_cons, List.length_nil]; omega)]
          simp [entsD]
        have c2 : gAdd S (.lst (entsD ((x2.filter fun e => decide (e.1 < s)) ++ [(s, a)]))) (.lst (entsD (x2.filter fun e => decide (s < e.1)))) = some (.lst (entsD (putV x2 s a))) := by
          rw [gCat_lst (by simp only [List.length_map, List.length_append, List.length_cons, List.length_nil]; omega)]
          simp [entsD, putV]
        simp only [sSeq, sNext, sDrop, sRet, sRetN, sIf, sAsg, gN, fVar, fC, fBin, fUn, fBu, fNil, fCons, fTup, fLst, fB, fIf, fNot, fAnd, fOr, fV, fNotV, fAndV, fOrV, fCall, R.bind, R.bindS, R.of, RS.out, gAdd_int, gSub_int, gLt_int, gLe_int, gGt_int, gGe_int, gNeg_int, gEq_int, gNe_int, gI2C_int, gInt_int, gAbs_int, gLen_lst, gLen_tup, List.getElem?_cons_zero, List.getElem?_cons_succ, List.set_cons_zero, List.set_cons_succ, List.append_nil, if_true, if_false, decide_true, decide_false, Int.reduceEq, Int.reduceLT, Int.reduceLE, Int.reduceNeg, Int.reduceAdd, Int.reduceSub, Bool.not_true, Bool.not_false, reduceIte, Bool.false_eq_true, Option.map_some, Option.bind_some, Nat.reduceAdd, gTupF, gsCons, gsNil, seqOf, lisOf, lstOf, List.length_cons, List.length_nil, r1, r2, r3, c1, c2]
      by_cases h3 : (l.length : Int) = p
      · have q2 := lc_ents (fi := iSeq (fVar 0)) (g := gN 9) (ft := fYes) (fe := fBin gSub (fBin gMul (fC (.int 30)) (fBin gIx (fVar 9) (fC (.int 1)))) (fBin gIx (fVar 9) (fC (.int 0)))) (vs := [9]) (env := [some (.lst (entsD l)), some (.int p), some (.int s), some (.int a), some (.int (-1)), none, none, none, none, none]) (S := S) (l := l) (fun e => some (.int (30 * e.2 - e.1))) rfl hl fun e => by
          have z : gIx S (entD e) (.int 0) = some (.int e.1) := rfl
          have z1 : gIx S (entD e) (.int 1) = some (.int e.2) := rfl
          have z2 : gMul S (.int 30) (.int e.2) = some (.int (30 * e.2)) := gMul_int ⟨by decide, by decide⟩
          unfold lcBody
          simp only [sSeq, sNext, sDrop, sRet, sRetN, sIf, sAsg, gN, fVar, fC, fBin, fUn, fBu, fNil, fCons, fTup, fLst, fB, fIf, fNot, fAnd, fOr, fV, fNotV, fAndV, fOrV, fCall, R.bind, R.bindS, R.of, RS.out, gAdd_int, gSub_int, gLt_int, gLe_int, gGt_int, gGe_int, gNeg_int, gEq_int, gNe_int, gI2C_int, gInt_int, gAbs_int, gLen_lst, gLen_tup, List.getElem?_cons_zero, List.getElem?_cons_succ, List.set_cons_zero, List.set_cons_succ, List.append_nil, if_true, if_false, decide_true, decide_false, Int.reduceEq, Int.reduceLT, Int.reduceLE, Int.reduceNeg, Int.reduceAdd, Int.reduceSub, Bool.not_true, Bool.not_false, reduceIte, Bool.false_eq_true, Option.map_some, Option.bind_some, Nat.reduceAdd, gTupF, gsCons, gsNil, seqOf, lisOf, lstOf, List.length_cons, List.length_nil, wipeE, z, z1, z2, R.noX, fYes]
        rw [fm_some] at q2
        have ne : (l.map fun e => 30 * e.2 - e.1) ≠ [] := fun z => by
          have : l.length = 0 := by rw [← List.length_map (f := fun e : Int × Int => 30 * e.2 - e.1), z]; rfl
          omega
        obtain ⟨m, hm⟩ := minI_some ne
        have q3 : gMin1 S [.lst (l.map fun e => FL.D.int (30 * e.2 - e.1))] = some (.int m) := gMin1_map (fun e : Int × Int => 30 * e.2 - e.1) hm
        have eo : outV l = (-m) % 30 := by unfold outV; rw [hm]; rfl
        have t := tail (l.filter fun e => !decide (e.1 = outV l)) (outV l) (some (.int m)) rfl
        rw [if_neg Bool.false_ne_true, if_neg h2, if_pos h3]
        rw [← t]
        simp only [sSeq, sNext, sDrop, sRet, sRetN, sIf, sAsg, gN, fVar, fC, fBin, fUn, fBu, fNil, fCons, fTup, fLst, fB, fIf, fNot, fAnd, fOr, fV, fNotV, fAndV, fOrV, fCall, R.bind, R.bindS, R.of, RS.out, gAdd_int, gSub_int, gLt_int, gLe_int, gGt_int, gGe_int, gNeg_int, gEq_int, gNe_int, gI2C_int, gInt_int, gAbs_int, gLen_lst, gLen_tup, List.getElem?_cons_zero, List.getElem?_cons_succ, List.set_cons_zero, List.set_cons_succ, List.append_nil, if_true, if_false, decide_true, decide_false, Int.reduceEq, Int.reduceLT, Int.reduceLE, Int.reduceNeg, Int.reduceAdd, Int.reduceSub, Bool.not_true, Bool.not_false, reduceIte, Bool.false_eq_true, Option.map_some, Option.bind_some, Nat.reduceAdd, gTupF, gsCons, gsNil, seqOf, lisOf, lstOf, List.length_cons, List.length_nil, q1, q1', h1, hpr, decide_eq_false h2, List.length_map, decide_eq_true h3, q2, q3, gMod_int (i := -m) (j := 30) (by decide), eo]
      · have t := tail (l.filter fun e => !decide (e.1 = -1)) (-1) none rfl
        rw [if_neg Bool.false_ne_true, if_neg h2, if_neg h3]
        rw [← t]
        simp only [sSeq, sNext, sDrop, sRet, sRetN, sIf, sAsg, gN, fVar, fC, fBin, fUn, fBu, fNil, fCons, fTup, fLst, fB, fIf, fNot, fAnd, fOr, fV, fNotV, fAndV, fOrV, fCall, R.bind, R.bindS, R.of, RS.out, gAdd_int, gSub_int, gLt_int, gLe_int, gGt_int, gGe_int, gNeg_int, gEq_int, gNe_int, gI2C_int, gInt_int, gAbs_int, gLen_lst, gLen_tup, List.getElem?_cons_zero, List.getElem?_cons_succ, List.set_cons_zero, List.set_cons_succ, List.append_nil, if_true, if_false, decide_true, decide_false, Int.reduceEq, Int.reduceLT, Int.reduceLE, Int.reduceNeg, Int.reduceAdd, Int.reduceSub, Bool.not_true, Bool.not_false, reduceIte, Bool.false_eq_true, Option.map_some, Option.bind_some, Nat.reduceAdd, gTupF, gsCons, gsNil, seqOf, lisOf, lstOf, List.length_cons, List.length_nil, q1, q1', h1, hpr, decide_eq_false h2, List.length_map, decide_eq_false h3]
end K19
set_option maxRecDepth 100000
set_option maxHeartbeats 2000000
namespace K19
open FL
/-! ### comparing entries -/
abbrev entP (e : Int × Int) : PySem.PyData := .tuple [.int e.1, .int e.2]
theorem pys_ents (S : Sto) : ∀ l : List (Int × Int), pys S (entsD l) = some (l.map entP)
  | [] => rfl
  | x :: r => by
    show (match FL.D.py S (entD x), pys S (entsD r) with
      | some a, some b => some (a :: b)
      | _, _ => none) = _
    rw [pys_ents S r]
    rfl
theorem lay_ents : ∀ l : List (Int × Int), PySem.PyData.canLayAll0 (l.map entP) = true
  | [] => rfl
  | x :: r => by
    show (PySem.PyData.canLay0 (entP x) && PySem.PyData.canLayAll0 (r.map entP)) = true
    rw [lay_ents r]
    rfl
theorem dep_ents : ∀ l : List (Int × Int), PySem.PyData.depthAll (l.map entP) ≤ 1
  | [] => Nat.zero_le _
  | x :: r => by
    show max (PySem.PyData.depth (entP x)) (PySem.PyData.depthAll (r.map entP)) ≤ 1
    have h1 : PySem.PyData.depth (entP x) = 1 := rfl
    have := dep_ents r
    omega
theorem eqv_ents : ∀ l : List (Int × Int), PySem.PyData.eqvAll (l.map entP) (l.map entP) = true
  | [] => rfl
  | x :: r => by
    show (PySem.PyData.eqv (entP x) (entP x) && PySem.PyData.eqvAll (r.map entP) (r.map entP)) = true
    rw [eqv_ents r]
    show (((x.1 == x.1) && ((x.2 == x.2) && true)) && true) = true
    simp
theorem py_ents (S : Sto) (l : List (Int × Int)) : FL.D.py S (.lst (entsD l)) = some (.list (l.map entP)) := by
  show (pys S (entsD l)).map PySem.PyData.list = _
  rw [pys_ents]
  rfl
theorem shp_ents (l : List (Int × Int)) : PySem.SeqAt.shaped (.list (l.map entP)) = true := shaped_of (lay_ents l) (by have := dep_ents l; omega)
theorem gEq_ents_nil {S : Sto} {l : List (Int × Int)} : gEq false S (.lst (entsD l)) (.lst []) = some (.bl l.isEmpty) := by
  rw [gEq_nil (py_ents S l) (shp_ents l)]
  cases l <;> rfl
theorem gNe_ents_nil {S : Sto} {l : List (Int × Int)} : gEq true S (.lst (entsD l)) (.lst []) = some (.bl (!l.isEmpty)) := by
  rw [gNe_nil (py_ents S l) (shp_ents l)]
  cases l <;> rfl
theorem gEq_ents {S : Sto} {l : List (Int × Int)} : gEq false S (.lst (entsD l)) (.lst (entsD l)) = some (.bl true) := by
  unfold gEq
  rw [py_ents]
  show (if (PySem.SeqAt.shaped (.list (l.map entP)) && PySem.SeqAt.shaped (.list (l.map entP))) = true then some (FL.D.bl (PySem.PyData.eqv (.list (l.map entP)) (.list (l.map entP)))) else none) = _
  rw [shp_ents, if_pos (by rfl)]
  show some (FL.D.bl (PySem.PyData.eqvAll (l.map entP) (l.map entP))) = _
  rw [eqv_ents]
/-! ### a bid -/
structure Good (l : List (Int × Int)) : Prop where
  rng : ∀ e ∈ l, 0 ≤ e.1 ∧ e.1 ≤ 29 ∧ 0 ≤ e.2 ∧ e.2 ≤ 9999
  len : l.length ≤ 9
  srt : l.Pairwise fun a b => a.1 < b.1
theorem ix_ents {S : Sto} {l : List (Int × Int)} {i : Int} (h0 : 0 ≤ i) (h1 : i < l.length) : ∃ e ∈ l, gIx S (.lst (entsD l)) (.int i) = some (entD e) := by
  obtain ⟨k, rfl⟩ := Int.eq_ofNat_of_zero_le h0
  have hk : k < l.length := by omega
  refine ⟨l[k], List.getElem_mem hk, gIx_lst ?_⟩
  rw [List.getElem?_map, List.getElem?_eq_getElem hk]
  rfl
theorem e_bid {xs : List Int} {T : Sto} {l : List (Int × Int)} {p go : Int} (hl : xs.length ≤ 63) (G : Good l) (hp : 0 < p) (hg : go ≤ 29) : ∃ (s a : Int) (ys : List Int), (0 ≤ s ∧ s ≤ 29 ∧ 0 ≤ a ∧ a ≤ 9999) ∧ ys.length ≤ 63 ∧
    f_l_bid [.loc 0, .lst (entsD l), .int p, .int go] (pool xs T) = .ok (.tup [.int s, .int a]) (pool ys T) := by
  rw [show f_l_bid [.loc 0, .lst (entsD l), .int p, .int go] (pool xs T) = (g_l_bid [some (.loc 0), some (.lst (entsD l)), some (.int p), some (.int go), none, none, none] (pool xs T)).out from rfl]
  unfold g_l_bid
  obtain ⟨k1, x1, b1, l1, e1⟩ := e_draw (T := T) (k := 3) hl (by omega) (by omega)
  obtain ⟨w0, x2, b2, l2, e2⟩ := e_draw (T := T) (k := 30) l1 (by omega) (by omega)
  obtain ⟨k2, x3, b3, l3, e3⟩ := e_draw (T := T) (k := 4) l2 (by omega) (by omega)
  obtain ⟨r0, x4, b4, l4, e4⟩ := e_draw (T := T) (k := 4) l3 (by omega) (by omega)
  obtain ⟨n0, x5, b5, l5, e5⟩ := e_near (T := T) (a := 0) (b := 9999) l4 (by omega) (by omega)
  have hpr := fun S => e_price (S := S) hp (show l.length ≤ 1000 by have := G.len; omega)
  have fin : ∀ a : Int, 0 ≤ min2 9999 (max2 0 a) ∧ min2 9999 (max2 0 a) ≤ 9999 := fun a => by
    unfold min2 max2
    split <;> split <;> omega
  have m30 : ∀ S : Sto, gMod S (.int (w0 + 11)) (.int 30) = some (.int ((w0 + 11) % 30)) := fun S => gMod_int (by decide)
  have m4 : ∀ S : Sto, gMod S (.int (r0 + 2)) (.int 4) = some (.int ((r0 + 2) % 4)) := fun S => gMod_int (by decide)
  have z0 : ∀ (S : Sto) (e : Int × Int), gIx S (entD e) (.int 0) = some (.int e.1) := fun S e => rfl
  have z1 : ∀ (S : Sto) (e : Int × Int), gIx S (entD e) (.int 1) = some (.int e.2) := fun S e => rfl
  have w1 : 0 ≤ (w0 + 11) % 30 ∧ (w0 + 11) % 30 ≤ 29 := ⟨by omega, by omega⟩
  -- who
  have who : ∃ s : Int, (0 ≤ s ∧ s ≤ 29) ∧ (sSeq (sIf (fAnd (fB (fBin (gEq false) (fVar 4) (fC (.int 1)))) (fB (fBin (gEq true) (fVar 1) (fLst fNil)))) (sAsg (fBin gIx (fBin gIx (fVar 1) (fBin gMod (fVar 5) (fBu gLen (fCons (fVar 1) fNil)))) (fC (.int 0))) (gN 5)) sNext)
      (sIf (fAnd (fB (fBin (gEq false) (fVar 4) (fC (.int 2)))) (fB (fBin gGe (fVar 3) (fC (.int 0))))) (sAsg (fVar 3) (gN 5)) sNext)) [some (.loc 0), some (.lst (entsD l)), some (.int p), some (.int go), some (.int k1), some (.int ((w0 + 11) % 30)), none] (pool x2 T)
      = .fl (.nx [some (.loc 0), some (.lst (entsD l)), some (.int p), some (.int go), some (.int k1), some (.int s), none]) (pool x2 T) := by
    by_cases c1 : k1 = 1
    · subst c1
      cases l with
      | nil => exact ⟨_, w1, by simp only [sSeq, sNext, sDrop, sRet, sRetN, sIf, sAsg, gN, fVar, fC, fBin, fUn, fBu, fNil, fCons, fTup, fLst, fB, fIf, fNot, fAnd, fOr, fV, fNotV, fAndV, fOrV, fCall, R.bind, R.bindS, R.of, RS.out, gAdd_int, gSub_int, gLt_int, gLe_int, gGt_int, gGe_int, gNeg_int, gEq_int, gNe_int, gI2C_int, gInt_int, gAbs_int, gLen_lst, gLen_tup, List.getElem?_cons_zero, List.getElem?_cons_succ, List.set_cons_zero, List.set_cons_succ, List.append_nil, if_true, if_false, decide_true, decide_false, Int.reduceEq, Int.reduceLT, Int.reduceLE, Int.reduceNeg, Int.reduceAdd, Int.reduceSub, Bool.not_true, Bool.not_false, reduceIte, Bool.false_eq_true, Option.map_some, Option.bind_some, Nat.reduceAdd, gTupF, gsCons, gsNil, seqOf, lisOf, lstOf, List.length_cons, List.length_nil, gNe_ents_nil, List.isEmpty] <;> rfl⟩
      | cons e0 l0 =>
        have hpos : (0 : Int) < (entsD (e0 :: l0)).length := by rw [List.length_map]; show (0 : Int) < ((l0.length + 1 : Nat) : Int); omega
        obtain ⟨e, he, hx⟩ := ix_ents (S := pool x2 T) (l := e0 :: l0) (i := (w0 + 11) % 30 % ((entsD (e0 :: l0)).length)) (Int.emod_nonneg _ (by omega)) (by have := Int.emod_lt_of_pos ((w0 + 11) % 30) hpos; simpa using this)
        have hb := G.rng e he
        exact ⟨e.1, ⟨hb.1, hb.2.1⟩, by simp only [sSeq, sNext, sDrop, sRet, sRetN, sIf, sAsg, gN, fVar, fC, fBin, fUn, fBu, fNil, fCons, fTup, fLst, fB, fIf, fNot, fAnd, fOr, fV, fNotV, fAndV, fOrV, fCall, R.bind, R.bindS, R.of, RS.out, gAdd_int, gSub_int, gLt_int, gLe_int, gGt_int, gGe_int, gNeg_int, gEq_int, gNe_int, gI2C_int, gInt_int, gAbs_int, gLen_lst, gLen_tup, List.getElem?_cons_zero, List.getElem?_cons_succ, List.set_cons_zero, List.set_cons_succ, List.append_nil, if_true, if_false, decide_true, decide_false, Int.reduceEq, Int.reduceLT, Int.reduceLE, Int.reduceNeg, Int.reduceAdd, Int.reduceSub, Bool.not_true, Bool.not_false, reduceIte, Bool.false_eq_true, Option.map_some, Option.bind_some, Nat.reduceAdd, gTupF, gsCons, gsNil, seqOf, lisOf, lstOf, List.length_cons, List.length_nil, gNe_ents_nil, List.isEmpty, gMod_int hpos, hx, z0] <;> rfl⟩
    · by_cases c2 : k1 = 2
      · subst c2
        by_cases c3 : 0 ≤ go
        · exact ⟨go, ⟨c3, hg⟩, by simp only [sSeq, sNext, sDrop, sRet, sRetN, sIf, sAsg, gN, fVar, fC, fBin, fUn, fBu, fNil, fCons, fTup, fLst, fB, fIf, fNot, fAnd, fOr, fV, fNotV, fAndV, fOrV, fCall, R.bind, R.bindS, R.of, RS.out, gAdd_int, gSub_int, gLt_int, gLe_int, gGt_int, gGe_int, gNeg_int, gEq_int, gNe_int, gI2C_int, gInt_int, gAbs_int, gLen_lst, gLen_tup, List.getElem?_cons_zero, List.getElem?_cons_succ, List.set_cons_zero, List.set_cons_succ, List.append_nil, if_true, if_false, decide_true, decide_false, Int.reduceEq, Int.reduceLT, Int.reduceLE, Int.reduceNeg, Int.reduceAdd, Int.reduceSub, Bool.not_true, Bool.not_false, reduceIte, Bool.false_eq_true, Option.map_some, Option.bind_some, Nat.reduceAdd, gTupF, gsCons, gsNil, seqOf, lisOf, lstOf, List.length_cons, List.length_nil, decide_eq_true c3] <;> rfl⟩
        · exact ⟨_, w1, by simp only [sSeq, sNext, sDrop, sRet, sRetN, sIf, sAsg, gN, fVar, fC, fBin, fUn, fBu, fNil, fCons, fTup, fLst, fB, fIf, fNot, fAnd, fOr, fV, fNotV, fAndV, fOrV, fCall, R.bind, R.bindS, R.of, RS.out, gAdd_int, gSub_int, gLt_int, gLe_int, gGt_int, gGe_int, gNeg_int, gEq_int, gNe_int, gI2C_int, gInt_int, gAbs_int, gLen_lst, gLen_tup, List.getElem?_cons_zero, List.getElem?_cons_succ, List.set_cons_zero, List.set_cons_succ, List.append_nil, if_true, if_false, decide_true, decide_false, Int.reduceEq, Int.reduceLT, Int.reduceLE, Int.reduceNeg, Int.reduceAdd, Int.reduceSub, Bool.not_true, Bool.not_false, reduceIte, Bool.false_eq_true, Option.map_some, Option.bind_some, Nat.reduceAdd, gTupF, gsCons, gsNil, seqOf, lisOf, lstOf, List.length_cons, List.length_nil, decide_eq_false c3] <;> rfl⟩
      · exact ⟨_, w1, by simp only [sSeq, sNext, sDrop, sRet, sRetN, sIf, sAsg, gN, fVar, fC, fBin, fUn, fBu, fNil, fCons, fTup, fLst, fB, fIf, fNot, fAnd, fOr, fV, fNotV, fAndV, fOrV, fCall, R.bind, R.bindS, R.of, RS.out, gAdd_int, gSub_int, gLt_int, gLe_int, gGt_int, gGe_int, gNeg_int, gEq_int, gNe_int, gI2C_int, gInt_int, gAbs_int, gLen_lst, gLen_tup, List.getElem?_cons_zero, List.getElem?_cons_succ, List.set_cons_zero, List.set_cons_succ, List.append_nil, if_true, if_false, decide_true, decide_false, Int.reduceEq, Int.reduceLT, Int.reduceLE, Int.reduceNeg, Int.reduceAdd, Int.reduceSub, Bool.not_true, Bool.not_false, reduceIte, Bool.false_eq_true, Option.map_some, Option.bind_some, Nat.reduceAdd, gTupF, gsCons, gsNil, seqOf, lisOf, lstOf, List.length_cons, List.length_nil, decide_eq_false c1, decide_eq_false c2]⟩
  obtain ⟨s, hs, ew⟩ := who
  have amt : ∃ (a : Int) (ys : List Int), ys.length ≤ 63 ∧ (sSeq (sIf (fB (fBin (gEq false) (fVar 4) (fC (.int 2)))) (sAsg (fCall f_l_near [] (fCons (fVar 0) (fCons (fC (.int 0)) (fCons (fC (.int 9999)) fNil)))) (gN 6)) sNext)
      (sIf (fAnd (fB (fBin (gEq false) (fVar 4) (fC (.int 3)))) (fB (fBin (gEq true) (fVar 1) (fLst fNil)))) (sAsg (fBin gAdd (fBin gIx (fBin gIx (fVar 1) (fCall f_l_draw [] (fCons (fVar 0) (fCons (fBu gLen (fCons (fVar 1) fNil)) fNil)))) (fC (.int 1))) (fCall f_l_draw [] (fCons (fVar 0) (fCons (fC (.int 2)) fNil)))) (gN 6)) sNext))
      [some (.loc 0), some (.lst (entsD l)), some (.int p), some (.int go), some (.int k2), some (.int s), some (.int (priceV l p + (r0 + 2) % 4 - 1))] (pool x4 T)
      = .fl (.nx [some (.loc 0), some (.lst (entsD l)), some (.int p), some (.int go), some (.int k2), some (.int s), some (.int a)]) (pool ys T) := by
    by_cases c1 : k2 = 2
    · subst c1
      exact ⟨n0, x5, l5, by simp only [sSeq, sNext, sDrop, sRet, sRetN, sIf, sAsg, gN, fVar, fC, fBin, fUn, fBu, fNil, fCons, fTup, fLst, fB, fIf, fNot, fAnd, fOr, fV, fNotV, fAndV, fOrV, fCall, R.bind, R.bindS, R.of, RS.out, gAdd_int, gSub_int, gLt_int, gLe_int, gGt_int, gGe_int, gNeg_int, gEq_int, gNe_int, gI2C_int, gInt_int, gAbs_int, gLen_lst, gLen_tup, List.getElem?_cons_zero, List.getElem?_cons_succ, List.set_cons_zero, List.set_cons_succ, List.append_nil, if_true, if_false, decide_true, decide_false, Int.reduceEq, Int.reduceLT, Int.reduceLE, Int.reduceNeg, Int.reduceAdd, Int.reduceSub, Bool.not_true, Bool.not_false, reduceIte, Bool.false_eq_true, Option.map_some, Option.bind_some, Nat.reduceAdd, gTupF, gsCons, gsNil, seqOf, lisOf, lstOf, List.length_cons, List.length_nil, e5] <;> rfl⟩
    · by_cases c2 : k2 = 3
      · subst c2
        cases l with
        | nil => exact ⟨priceV [] p + (r0 + 2) % 4 - 1, x4, l4, by simp only [sSeq, sNext, sDrop, sRet, sRetN, sIf, sAsg, gN, fVar, fC, fBin, fUn, fBu, fNil, fCons, fTup, fLst, fB, fIf, fNot, fAnd, fOr, fV, fNotV, fAndV, fOrV, fCall, R.bind, R.bindS, R.of, RS.out, gAdd_int, gSub_int, gLt_int, gLe_int, gGt_int, gGe_int, gNeg_int, gEq_int, gNe_int, gI2C_int, gInt_int, gAbs_int, gLen_lst, gLen_tup, List.getElem?_cons_zero, List.getElem?_cons_succ, List.set_cons_zero, List.set_cons_succ, List.append_nil, if_true, if_false, decide_true, decide_false, Int.reduceEq, Int.reduceLT, Int.reduceLE, Int.reduceNeg, Int.reduceAdd, Int.reduceSub, Bool.not_true, Bool.not_false, reduceIte, Bool.false_eq_true, Option.map_some, Option.bind_some, Nat.reduceAdd, gTupF, gsCons, gsNil, seqOf, lisOf, lstOf, List.length_cons, List.length_nil, gNe_ents_nil, List.isEmpty] <;> rfl⟩
        | cons e0 l0 =>
          have hpos : (0 : Int) < (entsD (e0 :: l0)).length := by rw [List.length_map]; show (0 : Int) < ((l0.length + 1 : Nat) : Int); omega
          have hlen : ((entsD (e0 :: l0)).length : Int) ≤ 9 := by have := G.len; simp only [List.length_map]; omega
          obtain ⟨j, y1, bj, m1, f1⟩ := e_draw (T := T) (k := (entsD (e0 :: l0)).length) l4 hpos (by omega)
          obtain ⟨j2, y2, bj2, m2, f2⟩ := e_draw (T := T) (k := 2) m1 (by omega) (by omega)
          obtain ⟨e, he, hx⟩ := ix_ents (S := pool y1 T) (l := e0 :: l0) (i := j) bj.1 (by have := bj.2; simpa using this)
          exact ⟨e.2 + j2, y2, m2, by simp only [sSeq, sNext, sDrop, sRet, sRetN, sIf, sAsg, gN, fVar, fC, fBin, fUn, fBu, fNil, fCons, fTup, fLst, fB, fIf, fNot, fAnd, fOr, fV, fNotV, fAndV, fOrV, fCall, R.bind, R.bindS, R.of, RS.out, gAdd_int, gSub_int, gLt_int, gLe_int, gGt_int, gGe_int, gNeg_int, gEq_int, gNe_int, gI2C_int, gInt_int, gAbs_int, gLen_lst, gLen_tup, List.getElem?_cons_zero, List.getElem?_cons_succ, List.set_cons_zero, List.set_cons_succ, List.append_nil, if_true, if_false, decide_true, decide_false, Int.reduceEq, Int.reduceLT, Int.reduceLE, Int.reduceNeg, Int.reduceAdd, Int.reduceSub, Bool.not_true, Bool.not_false, reduceIte, Bool.false_eq_true, Option.map_some, Option.bind_some, Nat.reduceAdd, gTupF, gsCons, gsNil, seqOf, lisOf, lstOf, List.length_cons, List.length_nil, gNe_ents_nil, List.isEmpty, f1, f2, hx, z1] <;> rfl⟩
      · exact ⟨priceV l p + (r0 + 2) % 4 - 1, x4, l4, by simp only [sSeq, sNext, sDrop, sRet, sRetN, sIf, sAsg, gN, fVar, fC, fBin, fUn, fBu, fNil, fCons, fTup, fLst, fB, fIf, fNot, fAnd, fOr, fV, fNotV, fAndV, fOrV, fCall, R.bind, R.bindS, R.of, RS.out, gAdd_int, gSub_int, gLt_int, gLe_int, gGt_int, gGe_int, gNeg_int, gEq_int, gNe_int, gI2C_int, gInt_int, gAbs_int, gLen_lst, gLen_tup, List.getElem?_cons_zero, List.getElem?_cons_succ, List.set_cons_zero, List.set_cons_succ, List.append_nil, if_true, if_false, decide_true, decide_false, Int.reduceEq, Int.reduceLT, Int.reduceLE, Int.reduceNeg, Int.reduceAdd, Int.reduceSub, Bool.not_true, Bool.not_false, reduceIte, Bool.false_eq_true, Option.map_some, Option.bind_some, Nat.reduceAdd, gTupF, gsCons, gsNil, seqOf, lisOf, lstOf, List.length_cons, List.length_nil, decide_eq_false c1, decide_eq_false c2]⟩
  obtain ⟨a, ys, hy, ea⟩ := amt
  refine ⟨s, min2 9999 (max2 0 a), ys, ⟨hs.1, hs.2, (fin a).1, (fin a).2⟩, hy, ?_⟩
  rw [seq1 (env' := [some (.loc 0), some (.lst (entsD l)), some (.int p), some (.int go), some (.int k1), none, none]) (S' := pool x1 T) (by simp only [sSeq, sNext, sDrop, sRet, sRetN, sIf, sAsg, gN, fVar, fC, fBin, fUn, fBu, fNil, fCons, fTup, fLst, fB, fIf, fNot, fAnd, fOr, fV, fNotV, fAndV, fOrV, fCall, R.bind, R.bindS, R.of, RS.out, gAdd_int, gSub_int, gLt_int, gLe_int, gGt_int, gGe_int, gNeg_int, gEq_int, gNe_int, gI2C_int, gInt_int, gAbs_int, gLen_lst, gLen_tup, List.getElem?_cons_zero, List.getElem?_cons_succ, List.set_cons_zero, List.set_cons_succ, List.append_nil, if_true, if_false, decide_true, decide_false, Int.reduceEq, Int.reduceLT, Int.reduceLE, Int.reduceNeg, Int.reduceAdd, Int.reduceSub, Bool.not_true, Bool.not_false, reduceIte, Bool.false_eq_true, Option.map_some, Option.bind_some, Nat.reduceAdd, gTupF, gsCons, gsNil, seqOf, lisOf, lstOf, List.length_cons, List.length_nil, e1])]
  rw [seq1 (env' := [some (.loc 0), some (.lst (entsD l)), some (.int p), some (.int go), some (.int k1), some (.int ((w0 + 11) % 30)), none]) (S' := pool x2 T) (by simp only [sSeq, sNext, sDrop, sRet, sRetN, sIf, sAsg, gN, fVar, fC, fBin, fUn, fBu, fNil, fCons, fTup, fLst, fB, fIf, fNot, fAnd, fOr, fV, fNotV, fAndV, fOrV, fCall, R.bind, R.bindS, R.of, RS.out, gAdd_int, gSub_int, gLt_int, gLe_int, gGt_int, gGe_int, gNeg_int, gEq_int, gNe_int, gI2C_int, gInt_int, gAbs_int, gLen_lst, gLen_tup, List.getElem?_cons_zero, List.getElem?_cons_succ, List.set_cons_zero, List.set_cons_succ, List.append_nil, if_true, if_false, decide_true, decide_false, Int.reduceEq, Int.reduceLT, Int.reduceLE, Int.reduceNeg, Int.reduceAdd, Int.reduceSub, Bool.not_true, Bool.not_false, reduceIte, Bool.false_eq_true, Option.map_some, Option.bind_some, Nat.reduceAdd, gTupF, gsCons, gsNil, seqOf, lisOf, lstOf, List.length_cons, List.length_nil, e2, m30])]
  rw [seq2 ew]
  rw [seq1 (env' := [some (.loc 0), some (.lst (entsD l)), some (.int p), some (.int go), some (.int k2), some (.int s), none]) (S' := pool x3 T) (by simp only [sSeq, sNext, sDrop, sRet, sRetN, sIf, sAsg, gN, fVar, fC, fBin, fUn, fBu, fNil, fCons, fTup, fLst, fB, fIf, fNot, fAnd, fOr, fV, fNotV, fAndV, fOrV, fCall, R.bind, R.bindS, R.of, RS.out, gAdd_int, gSub_int, gLt_int, gLe_int, gGt_int, gGe_int, gNeg_int, gEq_int, gNe_int, gI2C_int, gInt_int, gAbs_int, gLen_lst, gLen_tup, List.getElem?_cons_zero, List.getElem?_cons_succ, List.set_cons_zero, List.set_cons_succ, List.append_nil, if_true, if_false, decide_true, decide_false, Int.reduceEq, Int.reduceLT, Int.reduceLE, Int.reduceNeg, Int.reduceAdd, Int.reduceSub, Bool.not_true, Bool.not_false, reduceIte, Bool.false_eq_true, Option.map_some, Option.bind_some, Nat.reduceAdd, gTupF, gsCons, gsNil, seqOf, lisOf, lstOf, List.length_cons, List.length_nil, e3])]
  rw [seq1 (env' := [some (.loc 0), some (.lst (entsD l)), some (.int p), some (.int go), some (.int k2), some (.int s), some (.int (priceV l p + (r0 + 2) % 4 - 1))]) (S' := pool x4 T) (by simp only [sSeq, sNext, sDrop, sRet, sRetN, sIf, sAsg, gN, fVar, fC, fBin, fUn, fBu, fNil, fCons, fTup, fLst, fB, fIf, fNot, fAnd, fOr, fV, fNotV, fAndV, fOrV, fCall, R.bind, R.bindS, R.of, RS.out, gAdd_int, gSub_int, gLt_int, gLe_int, gGt_int, gGe_int, gNeg_int, gEq_int, gNe_int, gI2C_int, gInt_int, gAbs_int, gLen_lst, gLen_tup, List.getElem?_cons_zero, List.getElem?_cons_succ, List.set_cons_zero, List.set_cons_succ, List.append_nil, if_true, if_false, decide_true, decide_false, Int.reduceEq, Int.reduceLT, Int.reduceLE, Int.reduceNeg, Int.reduceAdd, Int.reduceSub, Bool.not_true, Bool.not_false, reduceIte, Bool.false_eq_true, Option.map_some, Option.bind_some, Nat.reduceAdd, gTupF, gsCons, gsNil, seqOf, lisOf, lstOf, List.length_cons, List.length_nil, hpr, e4, m4])]
  rw [seq2 ea]
  simp only [sSeq, sNext, sDrop, sRet, sRetN, sIf, sAsg, gN, fVar, fC, fBin, fUn, fBu, fNil, fCons, fTup, fLst, fB, fIf, fNot, fAnd, fOr, fV, fNotV, fAndV, fOrV, fCall, R.bind, R.bindS, R.of, RS.out, gAdd_int, gSub_int, gLt_int, gLe_int, gGt_int, gGe_int, gNeg_int, gEq_int, gNe_int, gI2C_int, gInt_int, gAbs_int, gLen_lst, gLen_tup, List.getElem?_cons_zero, List.getElem?_cons_succ, List.set_cons_zero, List.set_cons_succ, List.append_nil, if_true, if_false, decide_true, decide_false, Int.reduceEq, Int.reduceLT, Int.reduceLE, Int.reduceNeg, Int.reduceAdd, Int.reduceSub, Bool.not_true, Bool.not_false, reduceIte, Bool.false_eq_true, Option.map_some, Option.bind_some, Nat.reduceAdd, gTupF, gsCons, gsNil, seqOf, lisOf, lstOf, List.length_cons, List.length_nil]
end K19
set_option maxRecDepth 100000
set_option maxHeartbeats 2000000
namespace K19
open FL
/-! ### slices -/
def cutE (l : List (Int × Int)) (lo hi : Option Int) : List (Int × Int) := (l.drop (HT.sIx l.length 0 lo)).take (HT.sIx l.length l.length hi - HT.sIx l.length 0 lo)
theorem cut_ents {S : Sto} {l : List (Int × Int)} {lo hi : Option Int} : gSl S (.lst (entsD l)) lo hi = some (.lst (entsD (cutE l lo hi))) := by
  show some (FL.D.lst (cutD (entsD l) lo hi)) = _
  unfold cutD cutE
  rw [List.length_map, ← List.map_drop, ← List.map_take]
theorem cutE_len {l : List (Int × Int)} {lo hi : Option Int} : (cutE l lo hi).length ≤ l.length := by
  unfold cutE
  rw [List.length_take, List.length_drop]
  omega
theorem cat_ents {S : Sto} {a b : List (Int × Int)} (h : a.length + b.length ≤ 10000) : gAdd S (.lst (entsD a)) (.lst (entsD b)) = some (.lst (entsD (a ++ b))) := by
  rw [gCat_lst (by rw [List.length_map, List.length_map]; omega)]
  simp [entsD]
theorem e_odd {xs : List Int} {T : Sto} {l : List (Int × Int)} (hl : xs.length ≤ 63) (hn : l.length ≤ 100) : ∃ (l' : List (Int × Int)) (ys : List Int), l'.length ≤ 2 * l.length + 13 ∧ ys.length ≤ 63 ∧
    f_l_odd_entries [.loc 0, .lst (entsD l)] (pool xs T) = .ok (.lst (entsD l')) (pool ys T) := by
  rw [show f_l_odd_entries [.loc 0, .lst (entsD l)] (pool xs T) = (g_l_odd_entries [some (.loc 0), some (.lst (entsD l)), none, none, none, none, none] (pool xs T)).out from rfl]
  unfold g_l_odd_entries
  obtain ⟨k, x1, b1, l1, e1⟩ := e_draw (T := T) (k := 5) hl (by omega) (by omega)
  rw [seq1 (env' := [some (.loc 0), some (.lst (entsD l)), some (.int k), none, none, none, none]) (S' := pool x1 T) (by simp only [sSeq, sNext, sDrop, sRet, sRetN, sIf, sAsg, gN, fVar, fC, fBin, fUn, fBu, fNil, fCons, fTup, fLst, fB, fIf, fNot, fAnd, fOr, fV, fNotV, fAndV, fOrV, fCall, R.bind, R.bindS, R.of, RS.out, gAdd_int, gSub_int, gLt_int, gLe_int, gGt_int, gGe_int, gNeg_int, gEq_int, gNe_int, gI2C_int, gInt_int, gAbs_int, gLen_lst, gLen_tup, List.getElem?_cons_zero, List.getElem?_cons_succ, List.set_cons_zero, List.set_cons_succ, List.append_nil, if_true, if_false, decide_true, decide_false, Int.reduceEq, Int.reduceLT, Int.reduceLE, Int.reduceNeg, Int.reduceAdd, Int.reduceSub, Bool.not_true, Bool.not_false, reduceIte, Bool.false_eq_true, Option.map_some, Option.bind_some, Nat.reduceAdd, gTupF, gsCons, gsNil, seqOf, lisOf, lstOf, List.length_cons, List.length_nil, e1])]
  by_cases h0 : k = 0 ∨ l = []
  · obtain ⟨n, x2, b2, l2, e2⟩ := e_draw (T := T) (k := 3) l1 (by omega) (by omega)
    have r1 : iRng gRng1 (fCons (fBin gAdd (fC (.int 10)) (fCall f_l_draw [] (fCons (fVar 0) (fCons (fC (.int 3)) fNil)))) fNil) [some (.loc 0), some (.lst (entsD l)), some (.int k), none, none, none, none] (pool x1 T) = .ok (.fix (rngD 0 (10 + n).toNat)) (pool x2 T) := by
      unfold iRng gRng1
      have s : smallI (10 + n) = true := decide_eq_true ⟨by omega, by omega⟩
      simp only [sSeq, sNext, sDrop, sRet, sRetN, sIf, sAsg, gN, fVar, fC, fBin, fUn, fBu, fNil, fCons, fTup, fLst, fB, fIf, fNot, fAnd, fOr, fV, fNotV, fAndV, fOrV, fCall, R.bind, R.bindS, R.of, RS.out, gAdd_int, gSub_int, gLt_int, gLe_int, gGt_int, gGe_int, gNeg_int, gEq_int, gNe_int, gI2C_int, gInt_int, gAbs_int, gLen_lst, gLen_tup, List.getElem?_cons_zero, List.getElem?_cons_succ, List.set_cons_zero, List.set_cons_succ, List.append_nil, if_true, if_false, decide_true, decide_false, Int.reduceEq, Int.reduceLT, Int.reduceLE, Int.reduceNeg, Int.reduceAdd, Int.reduceSub, Bool.not_true, Bool.not_false, reduceIte, Bool.false_eq_true, Option.map_some, Option.bind_some, Nat.reduceAdd, gTupF, gsCons, gsNil, seqOf, lisOf, lstOf, List.length_cons, List.length_nil, e2, s]
    have r2 := fLc_pure (fi := iRng gRng1 (fCons (fBin gAdd (fC (.int 10)) (fCall f_l_draw [] (fCons (fVar 0) (fCons (fC (.int 3)) fNil)))) fNil)) (g := gN 6) (ft := fYes) (fe := fTup (fCons (fVar 6) (fCons (fC (.int 5)) fNil))) (vs := [6]) (fun d => some (.tup [d, .int 5])) r1 (by simp only [rngD, List.length_map, List.length_range]; omega) fun d hd => rfl
    have e3 : (rngD 0 (10 + n).toNat).filterMap (fun d => some (FL.D.tup [d, .int 5])) = entsD ((List.range (10 + n).toNat).map fun i : Nat => ((i : Int), (5 : Int))) := by
      rw [fm_some, rngD, List.map_map, entsD, List.map_map]
      refine List.map_congr_left fun i _ => ?_
      show FL.D.tup [.int (0 + (i : Int)), .int 5] = .tup [.int i, .int 5]
      rw [Int.zero_add]
    rw [e3] at r2
    have c : (fOr (fB (fBin (gEq false) (fVar 2) (fC (.int 0)))) (fB (fBin (gEq false) (fVar 1) (fLst fNil)))) [some (.loc 0), some (.lst (entsD l)), some (.int k), none, none, none, none] (pool x1 T) = .ok true (pool x1 T) := by
      by_cases hk : k = 0
      · subst hk
        simp only [sSeq, sNext, sDrop, sRet, sRetN, sIf, sAsg, gN, fVar, fC, fBin, fUn, fBu, fNil, fCons, fTup, fLst, fB, fIf, fNot, fAnd, fOr, fV, fNotV, fAndV, fOrV, fCall, R.bind, R.bindS, R.of, RS.out, gAdd_int, gSub_int, gLt_int, gLe_int, gGt_int, gGe_int, gNeg_int, gEq_int, gNe_int, gI2C_int, gInt_int, gAbs_int, gLen_lst, gLen_tup, List.getElem?_cons_zero, List.getElem?_cons_succ, List.set_cons_zero, List.set_cons_succ, List.append_nil, if_true, if_false, decide_true, decide_false, Int.reduceEq, Int.reduceLT, Int.reduceLE, Int.reduceNeg, Int.reduceAdd, Int.reduceSub, Bool.not_true, Bool.not_false, reduceIte, Bool.false_eq_true, Option.map_some, Option.bind_some, Nat.reduceAdd, gTupF, gsCons, gsNil, seqOf, lisOf, lstOf, List.length_cons, List.length_nil]
      · have : l = [] := h0.resolve_left hk
        subst this
        simp only [sSeq, sNext, sDrop, sRet, sRetN, sIf, sAsg, gN, fVar, fC, fBin, fUn, fBu, fNil, fCons, fTup, fLst, fB, fIf, fNot, fAnd, fOr, fV, fNotV, fAndV, fOrV, fCall, R.bind, R.bindS, R.of, RS.out, gAdd_int, gSub_int, gLt_int, gLe_int, gGt_int, gGe_int, gNeg_int, gEq_int, gNe_int, gI2C_int, gInt_int, gAbs_int, gLen_lst, gLen_tup, List.getElem?_cons_zero, List.getElem?_cons_succ, List.set_cons_zero, List.set_cons_succ, List.append_nil, if_true, if_false, decide_true, decide_false, Int.reduceEq, Int.reduceLT, Int.reduceLE, Int.reduceNeg, Int.reduceAdd, Int.reduceSub, Bool.not_true, Bool.not_false, reduceIte, Bool.false_eq_true, Option.map_some, Option.bind_some, Nat.reduceAdd, gTupF, gsCons, gsNil, seqOf, lisOf, lstOf, List.length_cons, List.length_nil, decide_eq_false hk, gEq_ents_nil, List.isEmpty]
    refine ⟨(List.range (10 + n).toNat).map fun i : Nat => ((i : Int), (5 : Int)), x2, by rw [List.length_map, List.length_range]; omega, l2, ?_⟩
    rw [seqR (d := .lst (entsD ((List.range (10 + n).toNat).map fun i : Nat => ((i : Int), (5 : Int))))) (S' := pool x2 T) (by rw [sIf_t c]; simp only [sSeq, sNext, sDrop, sRet, sRetN, sIf, sAsg, gN, fVar, fC, fBin, fUn, fBu, fNil, fCons, fTup, fLst, fB, fIf, fNot, fAnd, fOr, fV, fNotV, fAndV, fOrV, fCall, R.bind, R.bindS, R.of, RS.out, gAdd_int, gSub_int, gLt_int, gLe_int, gGt_int, gGe_int, gNeg_int, gEq_int, gNe_int, gI2C_int, gInt_int, gAbs_int, gLen_lst, gLen_tup, List.getElem?_cons_zero, List.getElem?_cons_succ, List.set_cons_zero, List.set_cons_succ, List.append_nil, if_true, if_false, decide_true, decide_false, Int.reduceEq, Int.reduceLT, Int.reduceLE, Int.reduceNeg, Int.reduceAdd, Int.reduceSub, Bool.not_true, Bool.not_false, reduceIte, Bool.false_eq_true, Option.map_some, Option.bind_some, Nat.reduceAdd, gTupF, gsCons, gsNil, seqOf, lisOf, lstOf, List.length_cons, List.length_nil, r2])]
    rfl
  · have hk : ¬ k = 0 := fun z => h0 (.inl z)
    have hne : l ≠ [] := fun z => h0 (.inr z)
    have hpos : (0 : Int) < (entsD l).length := by
      rw [List.length_map]
      have := List.length_pos_iff.mpr hne
      omega
    have hie : l.isEmpty = false := by
      cases l with
      | nil => exact absurd rfl hne
      | cons _ _ => rfl
    obtain ⟨t, x2, b2, l2, e2⟩ := e_draw (T := T) (k := (entsD l).length) l1 hpos (by rw [List.length_map]; omega)
    obtain ⟨e, he, hx⟩ := ix_ents (S := pool x2 T) (l := l) (i := t) b2.1 (by have := b2.2; simpa using this)
    rw [seq1 (env' := [some (.loc 0), some (.lst (entsD l)), some (.int k), none, none, none, none]) (S' := pool x1 T) (by simp only [sSeq, sNext, sDrop, sRet, sRetN, sIf, sAsg, gN, fVar, fC, fBin, fUn, fBu, fNil, fCons, fTup, fLst, fB, fIf, fNot, fAnd, fOr, fV, fNotV, fAndV, fOrV, fCall, R.bind, R.bindS, R.of, RS.out, gAdd_int, gSub_int, gLt_int, gLe_int, gGt_int, gGe_int, gNeg_int, gEq_int, gNe_int, gI2C_int, gInt_int, gAbs_int, gLen_lst, gLen_tup, List.getElem?_cons_zero, List.getElem?_cons_succ, List.set_cons_zero, List.set_cons_succ, List.append_nil, if_true, if_false, decide_true, decide_false, Int.reduceEq, Int.reduceLT, Int.reduceLE, Int.reduceNeg, Int.reduceAdd, Int.reduceSub, Bool.not_true, Bool.not_false, reduceIte, Bool.false_eq_true, Option.map_some, Option.bind_some, Nat.reduceAdd, gTupF, gsCons, gsNil, seqOf, lisOf, lstOf, List.length_cons, List.length_nil, decide_eq_false hk, gEq_ents_nil, hie])]
    rw [seq1 (env' := [some (.loc 0), some (.lst (entsD l)), some (.int k), some (.int t), none, none, none]) (S' := pool x2 T) (by simp only [sSeq, sNext, sDrop, sRet, sRetN, sIf, sAsg, gN, fVar, fC, fBin, fUn, fBu, fNil, fCons, fTup, fLst, fB, fIf, fNot, fAnd, fOr, fV, fNotV, fAndV, fOrV, fCall, R.bind, R.bindS, R.of, RS.out, gAdd_int, gSub_int, gLt_int, gLe_int, gGt_int, gGe_int, gNeg_int, gEq_int, gNe_int, gI2C_int, gInt_int, gAbs_int, gLen_lst, gLen_tup, List.getElem?_cons_zero, List.getElem?_cons_succ, List.set_cons_zero, List.set_cons_succ, List.append_nil, if_true, if_false, decide_true, decide_false, Int.reduceEq, Int.reduceLT, Int.reduceLE, Int.reduceNeg, Int.reduceAdd, Int.reduceSub, Bool.not_true, Bool.not_false, reduceIte, Bool.false_eq_true, Option.map_some, Option.bind_some, Nat.reduceAdd, gTupF, gsCons, gsNil, seqOf, lisOf, lstOf, List.length_cons, List.length_nil, e2])]
    rw [seq1 (env' := [some (.loc 0), some (.lst (entsD l)), some (.int k), some (.int t), some (.int e.1), some (.int e.2), none]) (S' := pool x2 T) (by simp only [sSeq, sNext, sDrop, sRet, sRetN, sIf, sAsg, gN, fVar, fC, fBin, fUn, fBu, fNil, fCons, fTup, fLst, fB, fIf, fNot, fAnd, fOr, fV, fNotV, fAndV, fOrV, fCall, R.bind, R.bindS, R.of, RS.out, gAdd_int, gSub_int, gLt_int, gLe_int, gGt_int, gGe_int, gNeg_int, gEq_int, gNe_int, gI2C_int, gInt_int, gAbs_int, gLen_lst, gLen_tup, List.getElem?_cons_zero, List.getElem?_cons_succ, List.set_cons_zero, List.set_cons_succ, List.append_nil, if_true, if_false, decide_true, decide_false, Int.reduceEq, Int.reduceLT, Int.reduceLE, Int.reduceNeg, Int.reduceAdd, Int.reduceSub, Bool.not_true, Bool.not_false, reduceIte, Bool.false_eq_true, Option.map_some, Option.bind_some, Nat.reduceAdd, gTupF, gsCons, gsNil, seqOf, lisOf, lstOf, List.length_cons, List.length_nil, hx])]
    have cl : ∀ lo hi, (cutE l lo hi).length ≤ 100 := fun lo hi => Nat.le_trans cutE_len hn
    have ct : ∀ {S : Sto} (a b c d : Option Int), gAdd S (.lst (entsD (cutE l a b))) (.lst (entsD (cutE l c d))) = some (.lst (entsD (cutE l a b ++ cutE l c d))) := fun a b c d => cat_ents (by have := cl a b; have := cl c d; omega)
    have lt : ∀ (a b c d : Option Int), (cutE l a b ++ cutE l c d).length ≤ 2 * l.length + 13 := fun a b c d => by
      rw [List.length_append]
      have := cutE_len (l := l) (lo := a) (hi := b)
      have := cutE_len (l := l) (lo := c) (hi := d)
      omega
    by_cases h1 : k = 1
    · subst h1
      exact ⟨_, x2, lt none (some (t + 1)) (some t) none, l2, by simp only [sSeq, sNext, sDrop, sRet, sRetN, sIf, sAsg, gN, fVar, fC, fBin, fUn, fBu, fNil, fCons, fTup, fLst, fB, fIf, fNot, fAnd, fOr, fV, fNotV, fAndV, fOrV, fCall, R.bind, R.bindS, R.of, RS.out, gAdd_int, gSub_int, gLt_int, gLe_int, gGt_int, gGe_int, gNeg_int, gEq_int, gNe_int, gI2C_int, gInt_int, gAbs_int, gLen_lst, gLen_tup, List.getElem?_cons_zero, List.getElem?_cons_succ, List.set_cons_zero, List.set_cons_succ, List.append_nil, if_true, if_false, decide_true, decide_false, Int.reduceEq, Int.reduceLT, Int.reduceLE, Int.reduceNeg, Int.reduceAdd, Int.reduceSub, Bool.not_true, Bool.not_false, reduceIte, Bool.false_eq_true, Option.map_some, Option.bind_some, Nat.reduceAdd, gTupF, gsCons, gsNil, seqOf, lisOf, lstOf, List.length_cons, List.length_nil, fSlG, fNoP, fPart, cut_ents, ct]⟩
    · by_cases h2 : k = 2
      · subst h2
        exact ⟨_, x2, lt (some t) none none (some t), l2, by simp only [sSeq, sNext, sDrop, sRet, sRetN, sIf, sAsg, gN, fVar, fC, fBin, fUn, fBu, fNil, fCons, fTup, fLst, fB, fIf, fNot, fAnd, fOr, fV, fNotV, fAndV, fOrV, fCall, R.bind, R.bindS, R.of, RS.out, gAdd_int, gSub_int, gLt_int, gLe_int, gGt_int, gGe_int, gNeg_int, gEq_int, gNe_int, gI2C_int, gInt_int, gAbs_int, gLen_lst, gLen_tup, List.getElem?_cons_zero, List.getElem?_cons_succ, List.set_cons_zero, List.set_cons_succ, List.append_nil, if_true, if_false, decide_true, decide_false, Int.reduceEq, Int.reduceLT, Int.reduceLE, Int.reduceNeg, Int.reduceAdd, Int.reduceSub, Bool.not_true, Bool.not_false, reduceIte, Bool.false_eq_true, Option.map_some, Option.bind_some, Nat.reduceAdd, gTupF, gsCons, gsNil, seqOf, lisOf, lstOf, List.length_cons, List.length_nil, fSlG, fNoP, fPart, cut_ents, ct]⟩
      · rw [seq1 (env' := [some (.loc 0), some (.lst (entsD l)), some (.int k), some (.int t), some (.int e.1), some (.int e.2), none]) (S' := pool x2 T) (by simp only [sSeq, sNext, sDrop, sRet, sRetN, sIf, sAsg, gN, fVar, fC, fBin, fUn, fBu, fNil, fCons, fTup, fLst, fB, fIf, fNot, fAnd, fOr, fV, fNotV, fAndV, fOrV, fCall, R.bind, R.bindS, R.of, RS.out, gAdd_int, gSub_int, gLt_int, gLe_int, gGt_int, gGe_int, gNeg_int, gEq_int, gNe_int, gI2C_int, gInt_int, gAbs_int, gLen_lst, gLen_tup, List.getElem?_cons_zero, List.getElem?_cons_succ, List.set_cons_zero, List.set_cons_succ, List.append_nil, if_true, if_false, decide_true, decide_false, Int.reduceEq, Int.reduceLT, Int.reduceLE, Int.reduceNeg, Int.reduceAdd, Int.reduceSub, Bool.not_true, Bool.not_false, reduceIte, Bool.false_eq_true, Option.map_some, Option.bind_some, Nat.reduceAdd, gTupF, gsCons, gsNil, seqOf, lisOf, lstOf, List.length_cons, List.length_nil, decide_eq_false h1])]
        rw [seq1 (env' := [some (.loc 0), some (.lst (entsD l)), some (.int k), some (.int t), some (.int e.1), some (.int e.2), none]) (S' := pool x2 T) (by simp only [sSeq, sNext, sDrop, sRet, sRetN, sIf, sAsg, gN, fVar, fC, fBin, fUn, fBu, fNil, fCons, fTup, fLst, fB, fIf, fNot, fAnd, fOr, fV, fNotV, fAndV, fOrV, fCall, R.bind, R.bindS, R.of, RS.out, gAdd_int, gSub_int, gLt_int, gLe_int, gGt_int, gGe_int, gNeg_int, gEq_int, gNe_int, gI2C_int, gInt_int, gAbs_int, gLen_lst, gLen_tup, List.getElem?_cons_zero, List.getElem?_cons_succ, List.set_cons_zero, List.set_cons_succ, List.append_nil, if_true, if_false, decide_true, decide_false, Int.reduceEq, Int.reduceLT, Int.reduceLE, Int.reduceNeg, Int.reduceAdd, Int.reduceSub, Bool.not_true, Bool.not_false, reduceIte, Bool.false_eq_true, Option.map_some, Option.bind_some, Nat.reduceAdd, gTupF, gsCons, gsNil, seqOf, lisOf, lstOf, List.length_cons, List.length_nil, decide_eq_false h2])]
        obtain ⟨v, x3, b3, l3, e3⟩ := e_beyond (T := T) (a := 0) (b := 29) l2 (by omega)
        obtain ⟨u, x4, b4, l4, e4⟩ := e_beyond (T := T) (a := 0) (b := 9999) l2 (by omega)
        have fin : ∀ (s a : Int) (S : Sto), (sRet (fBin gAdd (fBin gAdd (fSlG gSl (fVar 1) fNoP (fPart (fVar 3))) (fLst (fCons (fTup (fCons (fVar 4) (fCons (fVar 5) fNil))) fNil))) (fSlG gSl (fVar 1) (fPart (fBin gAdd (fVar 3) (fC (.int 1)))) fNoP)))
            [some (.loc 0), some (.lst (entsD l)), some (.int k), some (.int t), some (.int s), some (.int a), none] S = .fl (.rt (.lst (entsD (cutE l none (some t) ++ [(s, a)] ++ cutE l (some (t + 1)) none)))) S := fun s a S => by
          have c1 : gAdd S (.lst (entsD (cutE l none (some t)))) (.lst [.tup [.int s, .int a]]) = some (.lst (entsD (cutE l none (some t) ++ [(s, a)]))) := cat_ents (b := [(s, a)]) (by have := cl none (some t); show _ + 1 ≤ _; omega)
          have c2 : gAdd S (.lst (entsD (cutE l none (some t) ++ [(s, a)]))) (.lst (entsD (cutE l (some (t + 1)) none))) = some (.lst (entsD (cutE l none (some t) ++ [(s, a)] ++ cutE l (some (t + 1)) none))) := cat_ents (by
            rw [List.length_append]
            have := cl none (some t)
            have := cl (some (t + 1)) none
            show _ + 1 + _ ≤ _
            omega)
          simp only [sSeq, sNext, sDrop, sRet, sRetN, sIf, sAsg, gN, fVar, fC, fBin, fUn, fBu, fNil, fCons, fTup, fLst, fB, fIf, fNot, fAnd, fOr, fV, fNotV, fAndV, fOrV, fCall, R.bind, R.bindS, R.of, RS.out, gAdd_int, gSub_int, gLt_int, gLe_int, gGt_int, gGe_int, gNeg_int, gEq_int, gNe_int, gI2C_int, gInt_int, gAbs_int, gLen_lst, gLen_tup, List.getElem?_cons_zero, List.getElem?_cons_succ, List.set_cons_zero, List.set_cons_succ, List.append_nil, if_true, if_false, decide_true, decide_false, Int.reduceEq, Int.reduceLT, Int.reduceLE, Int.reduceNeg, Int.reduceAdd, Int.reduceSub, Bool.not_true, Bool.not_false, reduceIte, Bool.false_eq_true, Option.map_some, Option.bind_some, Nat.reduceAdd, gTupF, gsCons, gsNil, seqOf, lisOf, lstOf, List.length_cons, List.length_nil, fSlG, fNoP, fPart, cut_ents, c1, c2]
        have ln : ∀ s a : Int, (cutE l none (some t) ++ [(s, a)] ++ cutE l (some (t + 1)) none).length ≤ 2 * l.length + 13 := fun s a => by
          rw [List.length_append, List.length_append]
          have := cutE_len (l := l) (lo := none) (hi := some t)
          have := cutE_len (l := l) (lo := some (t + 1)) (hi := none)
          show _ + 1 + _ ≤ _
          omega
        by_cases h3 : k = 3
        · subst h3
          refine ⟨_, x3, ln v e.2, l3, ?_⟩
          rw [seq1 (env' := [some (.loc 0), some (.lst (entsD l)), some (.int 3), some (.int t), some (.int v), some (.int e.2), none]) (S' := pool x3 T) (by simp only [sSeq, sNext, sDrop, sRet, sRetN, sIf, sAsg, gN, fVar, fC, fBin, fUn, fBu, fNil, fCons, fTup, fLst, fB, fIf, fNot, fAnd, fOr, fV, fNotV, fAndV, fOrV, fCall, R.bind, R.bindS, R.of, RS.out, gAdd_int, gSub_int, gLt_int, gLe_int, gGt_int, gGe_int, gNeg_int, gEq_int, gNe_int, gI2C_int, gInt_int, gAbs_int, gLen_lst, gLen_tup, List.getElem?_cons_zero, List.getElem?_cons_succ, List.set_cons_zero, List.set_cons_succ, List.append_nil, if_true, if_false, decide_true, decide_false, Int.reduceEq, Int.reduceLT, Int.reduceLE, Int.reduceNeg, Int.reduceAdd, Int.reduceSub, Bool.not_true, Bool.not_false, reduceIte, Bool.false_eq_true, Option.map_some, Option.bind_some, Nat.reduceAdd, gTupF, gsCons, gsNil, seqOf, lisOf, lstOf, List.length_cons, List.length_nil, e3])]
          rw [seq1 (env' := [some (.loc 0), some (.lst (entsD l)), some (.int 3), some (.int t), some (.int v), some (.int e.2), none]) (S' := pool x3 T) (by simp only [sSeq, sNext, sDrop, sRet, sRetN, sIf, sAsg, gN, fVar, fC, fBin, fUn, fBu, fNil, fCons, fTup, fLst, fB, fIf, fNot, fAnd, fOr, fV, fNotV, fAndV, fOrV, fCall, R.bind, R.bindS, R.of, RS.out, gAdd_int, gSub_int, gLt_int, gLe_int, gGt_int, gGe_int, gNeg_int, gEq_int, gNe_int, gI2C_int, gInt_int, gAbs_int, gLen_lst, gLen_tup, List.getElem?_cons_zero, List.getElem?_cons_succ, List.set_cons_zero, List.set_cons_succ, List.append_nil, if_true, if_false, decide_true, decide_false, Int.reduceEq, Int.reduceLT, Int.reduceLE, Int.reduceNeg, Int.reduceAdd, Int.reduceSub, Bool.not_true, Bool.not_false, reduceIte, Bool.false_eq_true, Option.map_some, Option.bind_some, Nat.reduceAdd, gTupF, gsCons, gsNil, seqOf, lisOf, lstOf, List.length_cons, List.length_nil])]
          rw [fin]
          rfl
        · by_cases h4 : k = 4
          · subst h4
            refine ⟨_, x4, ln e.1 u, l4, ?_⟩
            rw [seq1 (env' := [some (.loc 0), some (.lst (entsD l)), some (.int 4), some (.int t), some (.int e.1), some (.int e.2), none]) (S' := pool x2 T) (by simp only [sSeq, sNext, sDrop, sRet, sRetN, sIf, sAsg, gN, fVar, fC, fBin, fUn, fBu, fNil, fCons, fTup, fLst, fB, fIf, fNot, fAnd, fOr, fV, fNotV, fAndV, fOrV, fCall, R.bind, R.bindS, R.of, RS.out, gAdd_int, gSub_int, gLt_int, gLe_int, gGt_int, gGe_int, gNeg_int, gEq_int, gNe_int, gI2C_int, gInt_int, gAbs_int, gLen_lst, gLen_tup, List.getElem?_cons_zero, List.getElem?_cons_succ, List.set_cons_zero, List.set_cons_succ, List.append_nil, if_true, if_false, decide_true, decide_false, Int.reduceEq, Int.reduceLT, Int.reduceLE, Int.reduceNeg, Int.reduceAdd, Int.reduceSub, Bool.not_true, Bool.not_false, reduceIte, Bool.false_eq_true, Option.map_some, Option.bind_some, Nat.reduceAdd, gTupF, gsCons, gsNil, seqOf, lisOf, lstOf, List.length_cons, List.length_nil])]
            rw [seq1 (env' := [some (.loc 0), some (.lst (entsD l)), some (.int 4), some (.int t), some (.int e.1), some (.int u), none]) (S' := pool x4 T) (by simp only [sSeq, sNext, sDrop, sRet, sRetN, sIf, sAsg, gN, fVar, fC, fBin, fUn, fBu, fNil, fCons, fTup, fLst, fB, fIf, fNot, fAnd, fOr, fV, fNotV, fAndV, fOrV, fCall, R.bind, R.bindS, R.of, RS.out, gAdd_int, gSub_int, gLt_int, gLe_int, gGt_int, gGe_int, gNeg_int, gEq_int, gNe_int, gI2C_int, gInt_int, gAbs_int, gLen_lst, gLen_tup, List.getElem?_cons_zero, List.getElem?_cons_succ, List.set_cons_zero, List.set_cons_succ, List.append_nil, if_true, if_false, decide_true, decide_false, Int.reduceEq, Int.reduceLT, Int.reduceLE, Int.reduceNeg, Int.reduceAdd, Int.reduceSub, Bool.not_true, Bool.not_false, reduceIte, Bool.false_eq_true, Option.map_some, Option.bind_some, Nat.reduceAdd, gTupF, gsCons, gsNil, seqOf, lisOf, lstOf, List.length_cons, List.length_nil, e4])]
            rw [fin]
            rfl
          · refine ⟨_, x2, ln e.1 e.2, l2, ?_⟩
            rw [seq1 (env' := [some (.loc 0), some (.lst (entsD l)), some (.int k), some (.int t), some (.int e.1), some (.int e.2), none]) (S' := pool x2 T) (by simp only [sSeq, sNext, sDrop, sRet, sRetN, sIf, sAsg, gN, fVar, fC, fBin, fUn, fBu, fNil, fCons, fTup, fLst, fB, fIf, fNot, fAnd, fOr, fV, fNotV, fAndV, fOrV, fCall, R.bind, R.bindS, R.of, RS.out, gAdd_int, gSub_int, gLt_int, gLe_int, gGt_int, gGe_int, gNeg_int, gEq_int, gNe_int, gI2C_int, gInt_int, gAbs_int, gLen_lst, gLen_tup, List.getElem?_cons_zero, List.getElem?_cons_succ, List.set_cons_zero, List.set_cons_succ, List.append_nil, if_true, if_false, decide_true, decide_false, Int.reduceEq, Int.reduceLT, Int.reduceLE, Int.reduceNeg, Int.reduceAdd, Int.reduceSub, Bool.not_true, Bool.not_false, reduceIte, Bool.false_eq_true, Option.map_some, Option.bind_some, Nat.reduceAdd, gTupF, gsCons, gsNil, seqOf, lisOf, lstOf, List.length_cons, List.length_nil, decide_eq_false h3])]
            rw [seq1 (env' := [some (.loc 0), some (.lst (entsD l)), some (.int k), some (.int t), some (.int e.1), some (.int e.2), none]) (S' := pool x2 T) (by simp only [sSeq, sNext, sDrop, sRet, sRetN, sIf, sAsg, gN, fVar, fC, fBin, fUn, fBu, fNil, fCons, fTup, fLst, fB, fIf, fNot, fAnd, fOr, fV, fNotV, fAndV, fOrV, fCall, R.bind, R.bindS, R.of, RS.out, gAdd_int, gSub_int, gLt_int, gLe_int, gGt_int, gGe_int, gNeg_int, gEq_int, gNe_int, gI2C_int, gInt_int, gAbs_int, gLen_lst, gLen_tup, List.getElem?_cons_zero, List.getElem?_cons_succ, List.set_cons_zero, List.set_cons_succ, List.append_nil, if_true, if_false, decide_true, decide_false, Int.reduceEq, Int.reduceLT, Int.reduceLE, Int.reduceNeg, Int.reduceAdd, Int.reduceSub, Bool.not_true, Bool.not_false, reduceIte, Bool.false_eq_true, Option.map_some, Option.bind_some, Nat.reduceAdd, gTupF, gsCons, gsNil, seqOf, lisOf, lstOf, List.length_cons, List.length_nil, decide_eq_false h4])]
            rw [fin]
            rfl
abbrev askD (l : List (Int × Int)) (p s a : Int) : FL.D := .lst [.lst (entsD l), .int p, .int s, .int a]
theorem e_bent {xs : List Int} {T : Sto} {l : List (Int × Int)} {p s a : Int} (hl : xs.length ≤ 63) (hn : l.length ≤ 100) : ∃ (l' : List (Int × Int)) (p' s' a' : Int) (ys : List Int), l'.length ≤ 2 * l.length + 13 ∧ ys.length ≤ 63 ∧
    f_l_bent [.loc 0, askD l p s a] (pool xs T) = .ok (askD l' p' s' a') (pool ys T) := by
  rw [show f_l_bent [.loc 0, askD l p s a] (pool xs T) = (g_l_bent [some (.loc 0), some (askD l p s a), none, none, none, none, none] (pool xs T)).out from rfl]
  unfold g_l_bent
  obtain ⟨k, x1, b1, l1, e1⟩ := e_draw (T := T) (k := 6) hl (by omega) (by omega)
  obtain ⟨v1, y1, c1, m1, f1⟩ := e_beyond (T := T) (a := 1) (b := 9) l1 (by omega)
  obtain ⟨v2, y2, c2, m2, f2⟩ := e_beyond (T := T) (a := 0) (b := 29) l1 (by omega)
  obtain ⟨v3, y3, c3, m3, f3⟩ := e_beyond (T := T) (a := 0) (b := 9999) l1 (by omega)
  obtain ⟨v4, y4, c4, m4, f4⟩ := e_draw (T := T) (k := max2 1 ((entsD l).length - 1)) l1 (by unfold max2; split <;> omega) (by rw [List.length_map]; unfold max2; split <;> omega)
  obtain ⟨l5, y5, c5, m5, f5⟩ := e_odd (T := T) (l := l) l1 hn
  rw [seq1 (env' := [some (.loc 0), some (askD l p s a), some (.lst (entsD l)), some (.int p), some (.int s), some (.int a), none]) (S' := pool xs T) (by simp only [sSeq, sNext, sDrop, sRet, sRetN, sIf, sAsg, gN, fVar, fC, fBin, fUn, fBu, fNil, fCons, fTup, fLst, fB, fIf, fNot, fAnd, fOr, fV, fNotV, fAndV, fOrV, fCall, R.bind, R.bindS, R.of, RS.out, gAdd_int, gSub_int, gLt_int, gLe_int, gGt_int, gGe_int, gNeg_int, gEq_int, gNe_int, gI2C_int, gInt_int, gAbs_int, gLen_lst, gLen_tup, List.getElem?_cons_zero, List.getElem?_cons_succ, List.set_cons_zero, List.set_cons_succ, List.append_nil, if_true, if_false, decide_true, decide_false, Int.reduceEq, Int.reduceLT, Int.reduceLE, Int.reduceNeg, Int.reduceAdd, Int.reduceSub, Bool.not_true, Bool.not_false, reduceIte, Bool.false_eq_true, Option.map_some, Option.bind_some, Nat.reduceAdd, gTupF, gsCons, gsNil, seqOf, lisOf, lstOf, List.length_cons, List.length_nil])]
  rw [seq1 (env' := [some (.loc 0), some (askD l p s a), some (.lst (entsD l)), some (.int p), some (.int s), some (.int a), some (.int k)]) (S' := pool x1 T) (by simp only [sSeq, sNext, sDrop, sRet, sRetN, sIf, sAsg, gN, fVar, fC, fBin, fUn, fBu, fNil, fCons, fTup, fLst, fB, fIf, fNot, fAnd, fOr, fV, fNotV, fAndV, fOrV, fCall, R.bind, R.bindS, R.of, RS.out, gAdd_int, gSub_int, gLt_int, gLe_int, gGt_int, gGe_int, gNeg_int, gEq_int, gNe_int, gI2C_int, gInt_int, gAbs_int, gLen_lst, gLen_tup, List.getElem?_cons_zero, List.getElem?_cons_succ, List.set_cons_zero, List.set_cons_succ, List.append_nil, if_true, if_false, decide_true, decide_false, Int.reduceEq, Int.reduceLT, Int.reduceLE, Int.reduceNeg, Int.reduceAdd, Int.reduceSub, Bool.not_true, Bool.not_false, reduceIte, Bool.false_eq_true, Option.map_some, Option.bind_some, Nat.reduceAdd, gTupF, gsCons, gsNil, seqOf, lisOf, lstOf, List.length_cons, List.length_nil, e1])]
  have hk : k = 0 ∨ k = 1 ∨ k = 2 ∨ k = 3 ∨ k = 4 ∨ k = 5 := by omega
  rcases hk with rfl | rfl | rfl | rfl | rfl | rfl
  · exact ⟨l, v1, s, a, y1, by omega, m1, by simp only [sSeq, sNext, sDrop, sRet, sRetN, sIf, sAsg, gN, fVar, fC, fBin, fUn, fBu, fNil, fCons, fTup, fLst, fB, fIf, fNot, fAnd, fOr, fV, fNotV, fAndV, fOrV, fCall, R.bind, R.bindS, R.of, RS.out, gAdd_int, gSub_int, gLt_int, gLe_int, gGt_int, gGe_int, gNeg_int, gEq_int, gNe_int, gI2C_int, gInt_int, gAbs_int, gLen_lst, gLen_tup, List.getElem?_cons_zero, List.getElem?_cons_succ, List.set_cons_zero, List.set_cons_succ, List.append_nil, if_true, if_false, decide_true, decide_false, Int.reduceEq, Int.reduceLT, Int.reduceLE, Int.reduceNeg, Int.reduceAdd, Int.reduceSub, Bool.not_true, Bool.not_false, reduceIte, Bool.false_eq_true, Option.map_some, Option.bind_some, Nat.reduceAdd, gTupF, gsCons, gsNil, seqOf, lisOf, lstOf, List.length_cons, List.length_nil, f1]⟩
  · exact ⟨l, p, v2, a, y2, by omega, m2, by simp only [sSeq, sNext, sDrop, sRet, sRetN, sIf, sAsg, gN, fVar, fC, fBin, fUn, fBu, fNil, fCons, fTup, fLst, fB, fIf, fNot, fAnd, fOr, fV, fNotV, fAndV, fOrV, fCall, R.bind, R.bindS, R.of, RS.out, gAdd_int, gSub_int, gLt_int, gLe_int, gGt_int, gGe_int, gNeg_int, gEq_int, gNe_int, gI2C_int, gInt_int, gAbs_int, gLen_lst, gLen_tup, List.getElem?_cons_zero, List.getElem?_cons_succ, List.set_cons_zero, List.set_cons_succ, List.append_nil, if_true, if_false, decide_true, decide_false, Int.reduceEq, Int.reduceLT, Int.reduceLE, Int.reduceNeg, Int.reduceAdd, Int.reduceSub, Bool.not_true, Bool.not_false, reduceIte, Bool.false_eq_true, Option.map_some, Option.bind_some, Nat.reduceAdd, gTupF, gsCons, gsNil, seqOf, lisOf, lstOf, List.length_cons, List.length_nil, f2]⟩
  · exact ⟨l, p, s, v3, y3, by omega, m3, by simp only [sSeq, sNext, sDrop, sRet, sRetN, sIf, sAsg, gN, fVar, fC, fBin, fUn, fBu, fNil, fCons, fTup, fLst, fB, fIf, fNot, fAnd, fOr, fV, fNotV, fAndV, fOrV, fCall, R.bind, R.bindS, R.of, RS.out, gAdd_int, gSub_int, gLt_int, gLe_int, gGt_int, gGe_int, gNeg_int, gEq_int, gNe_int, gI2C_int, gInt_int, gAbs_int, gLen_lst, gLen_tup, List.getElem?_cons_zero, List.getElem?_cons_succ, List.set_cons_zero, List.set_cons_succ, List.append_nil, if_true, if_false, decide_true, decide_false, Int.reduceEq, Int.reduceLT, Int.reduceLE, Int.reduceNeg, Int.reduceAdd, Int.reduceSub, Bool.not_true, Bool.not_false, reduceIte, Bool.false_eq_true, Option.map_some, Option.bind_some, Nat.reduceAdd, gTupF, gsCons, gsNil, seqOf, lisOf, lstOf, List.length_cons, List.length_nil, f3]⟩
  · exact ⟨l, 1 + v4, s, a, y4, by omega, m4, by simp only [sSeq, sNext, sDrop, sRet, sRetN, sIf, sAsg, gN, fVar, fC, fBin, fUn, fBu, fNil, fCons, fTup, fLst, fB, fIf, fNot, fAnd, fOr, fV, fNotV, fAndV, fOrV, fCall, R.bind, R.bindS, R.of, RS.out, gAdd_int, gSub_int, gLt_int, gLe_int, gGt_int, gGe_int, gNeg_int, gEq_int, gNe_int, gI2C_int, gInt_int, gAbs_int, gLen_lst, gLen_tup, List.getElem?_cons_zero, List.getElem?_cons_succ, List.set_cons_zero, List.set_cons_succ, List.append_nil, if_true, if_false, decide_true, decide_false, Int.reduceEq, Int.reduceLT, Int.reduceLE, Int.reduceNeg, Int.reduceAdd, Int.reduceSub, Bool.not_true, Bool.not_false, reduceIte, Bool.false_eq_true, Option.map_some, Option.bind_some, Nat.reduceAdd, gTupF, gsCons, gsNil, seqOf, lisOf, lstOf, List.length_cons, List.length_nil, f4]⟩
  · exact ⟨l5, p, s, a, y5, c5, m5, by simp only [sSeq, sNext, sDrop, sRet, sRetN, sIf, sAsg, gN, fVar, fC, fBin, fUn, fBu, fNil, fCons, fTup, fLst, fB, fIf, fNot, fAnd, fOr, fV, fNotV, fAndV, fOrV, fCall, R.bind, R.bindS, R.of, RS.out, gAdd_int, gSub_int, gLt_int, gLe_int, gGt_int, gGe_int, gNeg_int, gEq_int, gNe_int, gI2C_int, gInt_int, gAbs_int, gLen_lst, gLen_tup, List.getElem?_cons_zero, List.getElem?_cons_succ, List.set_cons_zero, List.set_cons_succ, List.append_nil, if_true, if_false, decide_true, decide_false, Int.reduceEq, Int.reduceLT, Int.reduceLE, Int.reduceNeg, Int.reduceAdd, Int.reduceSub, Bool.not_true, Bool.not_false, reduceIte, Bool.false_eq_true, Option.map_some, Option.bind_some, Nat.reduceAdd, gTupF, gsCons, gsNil, seqOf, lisOf, lstOf, List.length_cons, List.length_nil, f5]⟩
  · exact ⟨l5, p, s, a, y5, c5, m5, by simp only [sSeq, sNext, sDrop, sRet, sRetN, sIf, sAsg, gN, fVar, fC, fBin, fUn, fBu, fNil, fCons, fTup, fLst, fB, fIf, fNot, fAnd, fOr, fV, fNotV, fAndV, fOrV, fCall, R.bind, R.bindS, R.of, RS.out, gAdd_int, gSub_int, gLt_int, gLe_int, gGt_int, gGe_int, gNeg_int, gEq_int, gNe_int, gI2C_int, gInt_int, gAbs_int, gLen_lst, gLen_tup, List.getElem?_cons_zero, List.getElem?_cons_succ, List.set_cons_zero, List.set_cons_succ, List.append_nil, if_true, if_false, decide_true, decide_false, Int.reduceEq, Int.reduceLT, Int.reduceLE, Int.reduceNeg, Int.reduceAdd, Int.reduceSub, Bool.not_true, Bool.not_false, reduceIte, Bool.false_eq_true, Option.map_some, Option.bind_some, Nat.reduceAdd, gTupF, gsCons, gsNil, seqOf, lisOf, lstOf, List.length_cons, List.length_nil, f5]⟩
end K19
set_option maxRecDepth 100000
set_option maxHeartbeats 2000000
namespace K19
open FL
/-! ### looks -/
abbrev Look := String × Int × Int × Int
abbrev lookD (k : Look) : FL.D := .tup [wordD k.1, .int k.2.1, .int k.2.2.1, .int k.2.2.2]
def badB (k : Look) : Bool := decide (k.2.1 < k.2.2.1) || decide (k.2.2.2 < k.2.1)
def firstV : List Look → Option (String × Int)
  | [] => none
  | k :: r => if badB k = true then some (k.1, k.2.1) else firstV r
def firstD : Option (String × Int) → FL.D
  | none => .non
  | some r => .tup [wordD "OutOfRange", wordD r.1, .int r.2]
theorem firstV_append : ∀ (a b : List Look), firstV (a ++ b) = match firstV a with
    | some r => some r
    | none => firstV b
  | [], b => rfl
  | k :: a, b => by
    show (if badB k = true then some (k.1, k.2.1) else firstV (a ++ b)) = match (if badB k = true then some (k.1, k.2.1) else firstV a) with
      | some r => some r
      | none => firstV b
    rw [firstV_append a b]
    by_cases h : badB k = true
    · rw [if_pos h, if_pos h]
    · rw [if_neg h, if_neg h]
abbrev bFirst : SF := (sIf (fOr (fB (fBin gLt (fVar 2) (fVar 3))) (fB (fBin gGt (fVar 2) (fVar 4)))) (sRet (fTup (fCons (fC (.str "OutOfRange")) (fCons (fVar 1) (fCons (fVar 2) fNil))))) sNext)
abbrev gFirst : TGf := gTupF 4 (gsCons (gN 1) (gsCons (gN 2) (gsCons (gN 3) (gsCons (gN 4) gsNil))))
theorem first_loop {S : Sto} {x : FL.D} : ∀ (ls : List Look) (o1 o2 o3 o4 : Option FL.D),
    (firstV ls = none → ∃ o1' o2' o3' o4', forL (fun d env S => match gFirst d env S with
      | some env' => bFirst env' S
      | none => .bad) (ls.map lookD) [some x, o1, o2, o3, o4] S = .fl (.nx [some x, o1', o2', o3', o4']) S) ∧
    (∀ r, firstV ls = some r → forL (fun d env S => match gFirst d env S with
      | some env' => bFirst env' S
      | none => .bad) (ls.map lookD) [some x, o1, o2, o3, o4] S = .fl (.rt (firstD (some r))) S)
  | [], o1, o2, o3, o4 => ⟨fun _ => ⟨o1, o2, o3, o4, rfl⟩, fun r h => by cases h⟩
  | k :: ls, o1, o2, o3, o4 => by
    have ih := first_loop (S := S) (x := x) ls (some (wordD k.1)) (some (.int k.2.1)) (some (.int k.2.2.1)) (some (.int k.2.2.2))
    have hg : gFirst (lookD k) [some x, o1, o2, o3, o4] S = some [some x, some (wordD k.1), some (.int k.2.1), some (.int k.2.2.1), some (.int k.2.2.2)] := by
      unfold gFirst
      simp only [sSeq, sNext, sDrop, sRet, sRetN, sIf, sAsg, gN, fVar, fC, fBin, fUn, fBu, fNil, fCons, fTup, fLst, fB, fIf, fNot, fAnd, fOr, fV, fNotV, fAndV, fOrV, fCall, R.bind, R.bindS, R.of, RS.out, gAdd_int, gSub_int, gLt_int, gLe_int, gGt_int, gGe_int, gNeg_int, gEq_int, gNe_int, gI2C_int, gInt_int, gAbs_int, gLen_lst, gLen_tup, List.getElem?_cons_zero, List.getElem?_cons_succ, List.set_cons_zero, List.set_cons_succ, List.append_nil, if_true, if_false, decide_true, decide_false, Int.reduceEq, Int.reduceLT, Int.reduceLE, Int.reduceNeg, Int.reduceAdd, Int.reduceSub, Bool.not_true, Bool.not_false, reduceIte, Bool.false_eq_true, Option.map_some, Option.bind_some, Nat.reduceAdd, gTupF, gsCons, gsNil, seqOf, lisOf, lstOf, List.length_cons, List.length_nil]
    have hc : (fOr (fB (fBin gLt (fVar 2) (fVar 3))) (fB (fBin gGt (fVar 2) (fVar 4)))) [some x, some (wordD k.1), some (.int k.2.1), some (.int k.2.2.1), some (.int k.2.2.2)] S = .ok (badB k) S := by
      unfold badB
      by_cases h : k.2.1 < k.2.2.1
      · simp only [sSeq, sNext, sDrop, sRet, sRetN, sIf, sAsg, gN, fVar, fC, fBin, fUn, fBu, fNil, fCons, fTup, fLst, fB, fIf, fNot, fAnd, fOr, fV, fNotV, fAndV, fOrV, fCall, R.bind, R.bindS, R.of, RS.out, gAdd_int, gSub_int, gLt_int, gLe_int, gGt_int, gGe_int, gNeg_int, gEq_int, gNe_int, gI2C_int, gInt_int, gAbs_int, gLen_lst, gLen_tup, List.getElem?_cons_zero, List.getElem?_cons_succ, List.set_cons_zero, List.set_cons_succ, List.append_nil, if_true, if_false, decide_true, decide_false, Int.reduceEq, Int.reduceLT, Int.reduceLE, Int.reduceNeg, Int.reduceAdd, Int.reduceSub, Bool.not_true, Bool.not_false, reduceIte, Bool.false_eq_true, Option.map_some, Option.bind_some, Nat.reduceAdd, gTupF, gsCons, gsNil, seqOf, lisOf, lstOf, List.length_cons, List.length_nil, decide_eq_true h, Bool.true_or]
      · simp only [sSeq, sNext, sDrop, sRet, sRetN, sIf, sAsg, gN, fVar, fC, fBin, fUn, fBu, fNil, fCons, fTup, fLst, fB, fIf, fNot, fAnd, fOr, fV, fNotV, fAndV, fOrV, fCall, R.bind, R.bindS, R.of, RS.out, gAdd_int, gSub_int, gLt_int, gLe_int, gGt_int, gGe_int, gNeg_int, gEq_int, gNe_int, gI2C_int, gInt_int, gAbs_int, gLen_lst, gLen_tup, List.getElem?_cons_zero, List.getElem?_cons_succ, List.set_cons_zero, List.set_cons_succ, List.append_nil, if_true, if_false, decide_true, decide_false, Int.reduceEq, Int.reduceLT, Int.reduceLE, Int.reduceNeg, Int.reduceAdd, Int.reduceSub, Bool.not_true, Bool.not_false, reduceIte, Bool.false_eq_true, Option.map_some, Option.bind_some, Nat.reduceAdd, gTupF, gsCons, gsNil, seqOf, lisOf, lstOf, List.length_cons, List.length_nil, decide_eq_false h, Bool.false_or]
    by_cases hb : badB k = true
    · have e : bFirst [some x, some (wordD k.1), some (.int k.2.1), some (.int k.2.2.1), some (.int k.2.2.2)] S = .fl (.rt (firstD (some (k.1, k.2.1)))) S := by
        rw [hb] at hc
        rw [bFirst, sIf_t hc]
        rfl
      refine ⟨fun h => ?_, fun r h => ?_⟩
      · unfold firstV at h
        rw [if_pos hb] at h
        cases h
      · unfold firstV at h
        rw [if_pos hb] at h
        cases h
        rw [List.map_cons]
        unfold forL
        rw [hg]
        simp only [e]
    · have e : bFirst [some x, some (wordD k.1), some (.int k.2.1), some (.int k.2.2.1), some (.int k.2.2.2)] S = .fl (.nx [some x, some (wordD k.1), some (.int k.2.1), some (.int k.2.2.1), some (.int k.2.2.2)]) S := by
        have hb' : badB k = false := by simpa using hb
        rw [hb'] at hc
        rw [bFirst, sIf_f hc]
        rfl
      have st : ∀ R : RS, (forL (fun d env S => match gFirst d env S with
          | some env' => bFirst env' S
          | none => .bad) (ls.map lookD) [some x, some (wordD k.1), some (.int k.2.1), some (.int k.2.2.1), some (.int k.2.2.2)] S = R) → forL (fun d env S => match gFirst d env S with
          | some env' => bFirst env' S
          | none => .bad) ((k :: ls).map lookD) [some x, o1, o2, o3, o4] S = R := fun R h => by
        rw [List.map_cons]
        unfold forL
        rw [hg]
        simp only [e]
        exact h
      refine ⟨fun h => ?_, fun r h => ?_⟩
      · unfold firstV at h
        rw [if_neg hb] at h
        obtain ⟨a, b, c, d, q⟩ := ih.1 h
        exact ⟨a, b, c, d, st _ q⟩
      · unfold firstV at h
        rw [if_neg hb] at h
        exact st _ (ih.2 r h)
theorem e_first {S : Sto} {ls : List Look} : f_l_first [.lst (ls.map lookD)] S = .ok (firstD (firstV ls)) S := by
  rw [show f_l_first [.lst (ls.map lookD)] S = (g_l_first [some (.lst (ls.map lookD)), none, none, none, none] S).out from rfl]
  unfold g_l_first
  have hs := sFor_fix (fi := iSeq (fVar 0)) (g := gFirst) (b := bFirst) (env := [some (.lst (ls.map lookD)), none, none, none, none]) (S := S) (S1 := S) (ds := ls.map lookD) rfl
  have hl := first_loop (S := S) (x := .lst (ls.map lookD)) ls none none none none
  cases h : firstV ls with
  | none =>
    obtain ⟨a, b, c, d, q⟩ := hl.1 h
    rw [seq1 (hs.trans q)]
    rfl
  | some r =>
    rw [seqR (hs.trans (hl.2 r h))]
    rfl
end K19
set_option maxRecDepth 100000
set_option maxHeartbeats 2000000
namespace K19
open FL
/-! ### cells at the end -/
theorem get_end : ∀ {S : Sto} {c : Cell}, (S ++ [c])[S.length]? = some c
  | [], c => rfl
  | x :: S, c => get_end (S := S)
theorem set_end : ∀ {S : Sto} {c c' : Cell}, (S ++ [c]).set S.length c' = S ++ [c']
  | [], _, _ => rfl
  | x :: S, c, c' => congrArg (x :: ·) (set_end (S := S))
theorem get_end1 {S : Sto} {c c2 : Cell} : (S ++ [c] ++ [c2])[S.length]? = some c := by
  rw [List.getElem?_append_left (by simp)]
  exact get_end
theorem get_end2 {S : Sto} {c c2 : Cell} : (S ++ [c] ++ [c2])[S.length + 1]? = some c2 := by
  have := get_end (S := S ++ [c]) (c := c2)
  rw [List.length_append] at this
  exact this
theorem set_end2 {S : Sto} {c c2 c' : Cell} : (S ++ [c] ++ [c2]).set (S.length + 1) c' = S ++ [c] ++ [c'] := by
  have := set_end (S := S ++ [c]) (c := c2) (c' := c')
  rw [List.length_append] at this
  exact this
/-! ### what is due -/
def looksV : Int → List (Int × Int) → List Look
  | _, [] => []
  | b, e :: r => ("seeker", e.1, b + 1, 29) :: ("amount", e.2, 0, 9999) :: looksV e.1 r
theorem looksV_len : ∀ (b : Int) (l : List (Int × Int)), (looksV b l).length = 2 * l.length
  | _, [] => rfl
  | b, e :: r => by
    unfold looksV
    rw [List.length_cons, List.length_cons, looksV_len e.1 r, List.length_cons]
    omega
def amtV : List (Int × Int) → Int → Int
  | [], _ => -1
  | e :: r, s => if e.1 = s then e.2 else amtV r s
abbrev kEnt (l : List (Int × Int)) : Look := ("entries", l.length, 0, 9)
abbrev kSeek (s : Int) : Look := ("seeker", s, 0, 29)
abbrev kPlc (p : Int) : Look := ("places", p, 1, 9)
abbrev kFit (l : List (Int × Int)) (p : Int) : Look := ("entries", l.length, 0, p)
abbrev kAmt (a : Int) : Look := ("amount", a, 0, 9999)
abbrev lkV (l : List (Int × Int)) : List Look := [kEnt l] ++ looksV (-1) l
def w0 (l : List (Int × Int)) (p s a : Int) := firstV (lkV l ++ [kPlc p] ++ [kSeek s] ++ [kAmt a] ++ [kFit l p])
def w1 (l : List (Int × Int)) (p : Int) := firstV (lkV l ++ [kPlc p] ++ [kFit l p])
def w2 (l : List (Int × Int)) (s : Int) := firstV (lkV l ++ [kSeek s])
def toldD (x : FL.D) (w : Option (String × Int)) : FL.D := match w with
  | some r => firstD (some r)
  | none => .tup [wordD "told", x]
abbrev takenD (t : String × List (Int × Int) × Int) : FL.D := .tup [wordD t.1, .tup (entsD t.2.1), .int t.2.2]
def due0 (l : List (Int × Int)) (p s a : Int) : FL.D := toldD (takenD (takenV l p s a)) (w0 l p s a)
def due1 (l : List (Int × Int)) (p : Int) : FL.D := toldD (.int (priceV l p)) (w1 l p)
def due2 (l : List (Int × Int)) (s : Int) : FL.D := toldD (.int (amtV l s)) (w2 l s)
abbrev eD (l : List (Int × Int)) (p s a : Int) (o6 o7 o8 o9 o10 o11 o12 o13 o14 o15 o16 o17 o18 : Option FL.D) : FL.Env :=
  [some (askD l p s a), some (.lst (entsD l)), some (.int p), some (.int s), some (.int a), some (.int l.length), o6, o7, o8, o9, o10, o11, o12, o13, o14, o15, o16, o17, o18, none]
abbrev bDue : SF := (sSeq (sDrop (fMut gAppend (fVar 6) (fCons (fTup (fCons (fC (.str "seeker")) (fCons (fVar 8) (fCons (fBin gAdd (fVar 7) (fC (.int 1))) (fCons (fC (.int 29)) fNil))))) fNil)))
  (sSeq (sDrop (fMut gAppend (fVar 6) (fCons (fTup (fCons (fC (.str "amount")) (fCons (fVar 9) (fCons (fC (.int 0)) (fCons (fC (.int 9999)) fNil))))) fNil)))
  (sAsg (fVar 8) (gN 7))))
abbrev gDue : TGf := gTupF 2 (gsCons (gN 8) (gsCons (gN 9) gsNil))
theorem due_loop {S : Sto} {l : List (Int × Int)} {p s a : Int} : ∀ (l2 : List (Int × Int)) (b : Int) (acc : List Look) (o8 o9 : Option FL.D), acc.length + 2 * l2.length ≤ 10000 →
    ∃ b' o8' o9', forL (fun d env S => match gDue d env S with
      | some env' => bDue env' S
      | none => .bad) (entsD l2) (eD l p s a (some (.loc S.length)) (some (.int b)) o8 o9 none none none none none none none none none) (S ++ [.lst (acc.map lookD)]) =
      .fl (.nx (eD l p s a (some (.loc S.length)) (some (.int b')) o8' o9' none none none none none none none none none)) (S ++ [.lst ((acc ++ looksV b l2).map lookD)])
  | [], b, acc, o8, o9, _ => ⟨b, o8, o9, by unfold looksV; rw [List.append_nil]; rfl⟩
  | e :: r, b, acc, o8, o9, h => by
    have h : acc.length + 2 * (r.length + 1) ≤ 10000 := h
    obtain ⟨b', o8', o9', ih⟩ := due_loop (S := S) (l := l) (p := p) (s := s) (a := a) r e.1 (acc ++ [("seeker", e.1, b + 1, 29)] ++ [("amount", e.2, 0, 9999)]) (some (.int e.1)) (some (.int e.2)) (by simp only [List.length_append, List.length_cons, List.length_nil]; omega)
    refine ⟨b', o8', o9', ?_⟩
    rw [show entsD (e :: r) = entD e :: entsD r from rfl]
    unfold forL
    have a1 : mutAt gAppend (.loc S.length) [lookD ("seeker", e.1, b + 1, 29)] (S ++ [.lst (acc.map lookD)]) = .ok .non (S ++ [.lst ((acc ++ [("seeker", e.1, b + 1, 29)]).map lookD)]) := by
      rw [mut_append get_end (by rw [List.length_map]; omega), set_end, List.map_append]
      rfl
    have a2 : mutAt gAppend (.loc S.length) [lookD ("amount", e.2, 0, 9999)] (S ++ [.lst ((acc ++ [("seeker", e.1, b + 1, 29)]).map lookD)]) = .ok .non (S ++ [.lst ((acc ++ [("seeker", e.1, b + 1, 29)] ++ [("amount", e.2, 0, 9999)]).map lookD)]) := by
      rw [mut_append get_end (by rw [List.length_map]; simp only [List.length_append, List.length_cons, List.length_nil]; omega), set_end, List.map_append (l₂ := [("amount", e.2, 0, 9999)])]
      rfl
    have lo : ∀ xs, locL (S ++ [.lst xs]) (.loc S.length) = some (S.length, xs) := fun xs => locL_of get_end
    have hb : bDue (eD l p s a (some (.loc S.length)) (some (.int b)) (some (.int e.1)) (some (.int e.2)) none none none none none none none none none) (S ++ [.lst (acc.map lookD)]) =
        .fl (.nx (eD l p s a (some (.loc S.length)) (some (.int e.1)) (some (.int e.1)) (some (.int e.2)) none none none none none none none none none)) (S ++ [.lst ((acc ++ [("seeker", e.1, b + 1, 29)] ++ [("amount", e.2, 0, 9999)]).map lookD)]) := by
      unfold bDue
      rw [seq1 (env' := eD l p s a (some (.loc S.length)) (some (.int b)) (some (.int e.1)) (some (.int e.2)) none none none none none none none none none) (S' := S ++ [.lst ((acc ++ [("seeker", e.1, b + 1, 29)]).map lookD)]) (by simp only [sSeq, sNext, sDrop, sRet, sRetN, sIf, sAsg, gN, fVar, fC, fBin, fUn, fBu, fNil, fCons, fTup, fLst, fB, fIf, fNot, fAnd, fOr, fV, fNotV, fAndV, fOrV, fCall, R.bind, R.bindS, R.of, RS.out, gAdd_int, gSub_int, gLt_int, gLe_int, gGt_int, gGe_int, gNeg_int, gEq_int, gNe_int, gI2C_int, gInt_int, gAbs_int, gLen_lst, gLen_tup, List.getElem?_cons_zero, List.getElem?_cons_succ, List.set_cons_zero, List.set_cons_succ, List.append_nil, if_true, if_false, decide_true, decide_false, Int.reduceEq, Int.reduceLT, Int.reduceLE, Int.reduceNeg, Int.reduceAdd, Int.reduceSub, Bool.not_true, Bool.not_false, reduceIte, Bool.false_eq_true, Option.map_some, Option.bind_some, Nat.reduceAdd, gTupF, gsCons, gsNil, seqOf, lisOf, lstOf, List.length_cons, List.length_nil, fMut, lo, a1])]
      rw [seq1 (env' := eD l p s a (some (.loc S.length)) (some (.int b)) (some (.int e.1)) (some (.int e.2)) none none none none none none none none none) (S' := S ++ [.lst ((acc ++ [("seeker", e.1, b + 1, 29)] ++ [("amount", e.2, 0, 9999)]).map lookD)]) (by simp only [sSeq, sNext, sDrop, sRet, sRetN, sIf, sAsg, gN, fVar, fC, fBin, fUn, fBu, fNil, fCons, fTup, fLst, fB, fIf, fNot, fAnd, fOr, fV, fNotV, fAndV, fOrV, fCall, R.bind, R.bindS, R.of, RS.out, gAdd_int, gSub_int, gLt_int, gLe_int, gGt_int, gGe_int, gNeg_int, gEq_int, gNe_int, gI2C_int, gInt_int, gAbs_int, gLen_lst, gLen_tup, List.getElem?_cons_zero, List.getElem?_cons_succ, List.set_cons_zero, List.set_cons_succ, List.append_nil, if_true, if_false, decide_true, decide_false, Int.reduceEq, Int.reduceLT, Int.reduceLE, Int.reduceNeg, Int.reduceAdd, Int.reduceSub, Bool.not_true, Bool.not_false, reduceIte, Bool.false_eq_true, Option.map_some, Option.bind_some, Nat.reduceAdd, gTupF, gsCons, gsNil, seqOf, lisOf, lstOf, List.length_cons, List.length_nil, fMut, lo, a2])]
      simp only [sSeq, sNext, sDrop, sRet, sRetN, sIf, sAsg, gN, fVar, fC, fBin, fUn, fBu, fNil, fCons, fTup, fLst, fB, fIf, fNot, fAnd, fOr, fV, fNotV, fAndV, fOrV, fCall, R.bind, R.bindS, R.of, RS.out, gAdd_int, gSub_int, gLt_int, gLe_int, gGt_int, gGe_int, gNeg_int, gEq_int, gNe_int, gI2C_int, gInt_int, gAbs_int, gLen_lst, gLen_tup, List.getElem?_cons_zero, List.getElem?_cons_succ, List.set_cons_zero, List.set_cons_succ, List.append_nil, if_true, if_false, decide_true, decide_false, Int.reduceEq, Int.reduceLT, Int.reduceLE, Int.reduceNeg, Int.reduceAdd, Int.reduceSub, Bool.not_true, Bool.not_false, reduceIte, Bool.false_eq_true, Option.map_some, Option.bind_some, Nat.reduceAdd, gTupF, gsCons, gsNil, seqOf, lisOf, lstOf, List.length_cons, List.length_nil]
    have hg2 : gDue (entD e) (eD l p s a (some (.loc S.length)) (some (.int b)) o8 o9 none none none none none none none none none) (S ++ [.lst (acc.map lookD)]) = some (eD l p s a (some (.loc S.length)) (some (.int b)) (some (.int e.1)) (some (.int e.2)) none none none none none none none none none) := by
      unfold gDue
      simp only [sSeq, sNext, sDrop, sRet, sRetN, sIf, sAsg, gN, fVar, fC, fBin, fUn, fBu, fNil, fCons, fTup, fLst, fB, fIf, fNot, fAnd, fOr, fV, fNotV, fAndV, fOrV, fCall, R.bind, R.bindS, R.of, RS.out, gAdd_int, gSub_int, gLt_int, gLe_int, gGt_int, gGe_int, gNeg_int, gEq_int, gNe_int, gI2C_int, gInt_int, gAbs_int, gLen_lst, gLen_tup, List.getElem?_cons_zero, List.getElem?_cons_succ, List.set_cons_zero, List.set_cons_succ, List.append_nil, if_true, if_false, decide_true, decide_false, Int.reduceEq, Int.reduceLT, Int.reduceLE, Int.reduceNeg, Int.reduceAdd, Int.reduceSub, Bool.not_true, Bool.not_false, reduceIte, Bool.false_eq_true, Option.map_some, Option.bind_some, Nat.reduceAdd, gTupF, gsCons, gsNil, seqOf, lisOf, lstOf, List.length_cons, List.length_nil]
    rw [hg2]
    simp only [hb]
    rw [ih, List.append_assoc, List.append_assoc]
    rfl
end K19
set_option maxRecDepth 100000
set_option maxHeartbeats 2000000
namespace K19
open FL
theorem firstV_none : ∀ {ls : List Look}, firstV ls = none → ∀ k ∈ ls, badB k = false
  | [], _, k, hk => by cases hk
  | x :: r, h, k, hk => by
    unfold firstV at h
    by_cases hb : badB x = true
    · rw [if_pos hb] at h
      cases h
    · rw [if_neg hb] at h
      rcases List.mem_cons.mp hk with e | hk
      · rw [e]
        simpa using hb
      · exact firstV_none h k hk
theorem plc_pos {p : Int} (h : badB (kPlc p) = false) : 0 < p := by
  unfold badB at h
  have := (Bool.or_eq_false_iff.mp h).1
  have := of_decide_eq_false this
  have h2 : ¬ p < 1 := this
  omega
theorem isN_some {S : Sto} {r : String × Int} : gIsN false S (firstD (some r)) .non = some (.bl false) := rfl
theorem isN_none {S : Sto} : gIsN false S (firstD none) .non = some (.bl true) := rfl
theorem setAt_end {S : Sto} {c : Cell} {xs : List FL.D} {v : FL.D} {k : Nat} (hk : k < xs.length) : setAt v (.loc (S.length + 1)) (.int (k : Int)) (S ++ [c] ++ [.lst xs]) = some (S ++ [c] ++ [.lst (xs.set k v)]) := by
  unfold setAt
  rw [locL_of get_end2]
  show (L2.ixN xs.length (k : Int)).map (fun j => (S ++ [c] ++ [Cell.lst xs]).set (S.length + 1) (.lst (xs.set j v))) = _
  have e : L2.ixN xs.length (k : Int) = some k := by
    unfold L2.ixN
    rw [if_pos (by omega), if_pos (by omega)]
    rfl
  rw [e]
  show some ((S ++ [c] ++ [Cell.lst xs]).set (S.length + 1) (.lst (xs.set k v))) = _
  rw [set_end2]
theorem amt_ent : ∀ (l : List (Int × Int)) (s : Int), ((l.filter fun e => decide (e.1 = s)).map (·.2) ++ [-1])[0]? = some (amtV l s)
  | [], s => rfl
  | e :: r, s => by
    unfold amtV
    by_cases h : e.1 = s
    · rw [List.filter_cons, if_pos (decide_eq_true h), if_pos h]
      rfl
    · rw [List.filter_cons, if_neg (by simpa using h), if_neg h]
      exact amt_ent r s
theorem e_dues_raw {S : Sto} {l : List (Int × Int)} {p s a : Int} (hn : l.length ≤ 900) :
    f_l_dues [askD l p s a] S = .ok (.loc (S.length + 1)) (S ++ [.lst ((lkV l).map lookD)] ++ [.lst [due0 l p s a, due1 l p, due2 l s]]) := by
  rw [show f_l_dues [askD l p s a] S = (g_l_dues [some (askD l p s a), none, none, none, none, none, none, none, none, none, none, none, none, none, none, none, none, none, none, none] S).out from rfl]
  unfold g_l_dues
  rw [seq1 (env' := [some (askD l p s a), some (.lst (entsD l)), some (.int p), some (.int s), some (.int a), none, none, none, none, none, none, none, none, none, none, none, none, none, none, none]) (S' := S) (by simp only [sSeq, sNext, sDrop, sRet, sRetN, sIf, sAsg, gN, fVar, fC, fBin, fUn, fBu, fNil, fCons, fTup, fLst, fB, fIf, fNot, fAnd, fOr, fV, fNotV, fAndV, fOrV, fCall, R.bind, R.bindS, R.of, RS.out, gAdd_int, gSub_int, gLt_int, gLe_int, gGt_int, gGe_int, gNeg_int, gEq_int, gNe_int, gI2C_int, gInt_int, gAbs_int, gLen_lst, gLen_tup, List.getElem?_cons_zero, List.getElem?_cons_succ, List.set_cons_zero, List.set_cons_succ, List.append_nil, if_true, if_false, decide_true, decide_false, Int.reduceEq, Int.reduceLT, Int.reduceLE, Int.reduceNeg, Int.reduceAdd, Int.reduceSub, Bool.not_true, Bool.not_false, reduceIte, Bool.false_eq_true, Option.map_some, Option.bind_some, Nat.reduceAdd, gTupF, gsCons, gsNil, seqOf, lisOf, lstOf, List.length_cons, List.length_nil])]
  rw [seq1 (env' := eD l p s a none none none none none none none none none none none none none) (S' := S) (by simp only [sSeq, sNext, sDrop, sRet, sRetN, sIf, sAsg, gN, fVar, fC, fBin, fUn, fBu, fNil, fCons, fTup, fLst, fB, fIf, fNot, fAnd, fOr, fV, fNotV, fAndV, fOrV, fCall, R.bind, R.bindS, R.of, RS.out, gAdd_int, gSub_int, gLt_int, gLe_int, gGt_int, gGe_int, gNeg_int, gEq_int, gNe_int, gI2C_int, gInt_int, gAbs_int, gLen_lst, gLen_tup, List.getElem?_cons_zero, List.getElem?_cons_succ, List.set_cons_zero, List.set_cons_succ, List.append_nil, if_true, if_false, decide_true, decide_false, Int.reduceEq, Int.reduceLT, Int.reduceLE, Int.reduceNeg, Int.reduceAdd, Int.reduceSub, Bool.not_true, Bool.not_false, reduceIte, Bool.false_eq_true, Option.map_some, Option.bind_some, Nat.reduceAdd, gTupF, gsCons, gsNil, seqOf, lisOf, lstOf, List.length_cons, List.length_nil, List.length_map])]
  rw [seq1 (env' := eD l p s a (some (.loc S.length)) none none none none none none none none none none none none) (S' := S ++ [.lst ([kEnt l].map lookD)]) (by simp only [sSeq, sNext, sDrop, sRet, sRetN, sIf, sAsg, gN, fVar, fC, fBin, fUn, fBu, fNil, fCons, fTup, fLst, fB, fIf, fNot, fAnd, fOr, fV, fNotV, fAndV, fOrV, fCall, R.bind, R.bindS, R.of, RS.out, gAdd_int, gSub_int, gLt_int, gLe_int, gGt_int, gGe_int, gNeg_int, gEq_int, gNe_int, gI2C_int, gInt_int, gAbs_int, gLen_lst, gLen_tup, List.getElem?_cons_zero, List.getElem?_cons_succ, List.set_cons_zero, List.set_cons_succ, List.append_nil, if_true, if_false, decide_true, decide_false, Int.reduceEq, Int.reduceLT, Int.reduceLE, Int.reduceNeg, Int.reduceAdd, Int.reduceSub, Bool.not_true, Bool.not_false, reduceIte, Bool.false_eq_true, Option.map_some, Option.bind_some, Nat.reduceAdd, gTupF, gsCons, gsNil, seqOf, lisOf, lstOf, List.length_cons, List.length_nil, fLoc] <;> rfl)]
  rw [seq1 (env' := eD l p s a (some (.loc S.length)) (some (.int (-1))) none none none none none none none none none none none) (S' := S ++ [.lst ([kEnt l].map lookD)]) (by simp only [sSeq, sNext, sDrop, sRet, sRetN, sIf, sAsg, gN, fVar, fC, fBin, fUn, fBu, fNil, fCons, fTup, fLst, fB, fIf, fNot, fAnd, fOr, fV, fNotV, fAndV, fOrV, fCall, R.bind, R.bindS, R.of, RS.out, gAdd_int, gSub_int, gLt_int, gLe_int, gGt_int, gGe_int, gNeg_int, gEq_int, gNe_int, gI2C_int, gInt_int, gAbs_int, gLen_lst, gLen_tup, List.getElem?_cons_zero, List.getElem?_cons_succ, List.set_cons_zero, List.set_cons_succ, List.append_nil, if_true, if_false, decide_true, decide_false, Int.reduceEq, Int.reduceLT, Int.reduceLE, Int.reduceNeg, Int.reduceAdd, Int.reduceSub, Bool.not_true, Bool.not_false, reduceIte, Bool.false_eq_true, Option.map_some, Option.bind_some, Nat.reduceAdd, gTupF, gsCons, gsNil, seqOf, lisOf, lstOf, List.length_cons, List.length_nil])]
  obtain ⟨b', o8, o9, el⟩ := due_loop (S := S) (l := l) (p := p) (s := s) (a := a) l (-1) [kEnt l] none none (by simp only [List.length_cons, List.length_nil]; omega)
  have hs := sFor_fix (fi := iSeq (fVar 1)) (g := gDue) (b := bDue) (env := eD l p s a (some (.loc S.length)) (some (.int (-1))) none none none none none none none none none none none) (S := S ++ [.lst ([kEnt l].map lookD)]) (S1 := S ++ [.lst ([kEnt l].map lookD)]) (ds := entsD l) rfl
  rw [seq1 (hs.trans el)]
  rw [seq1 (env' := eD l p s a (some (.loc S.length)) (some (.int b')) o8 o9 (some (.lst ([kSeek s].map lookD))) none none none none none none none none) (S' := S ++ [.lst ((lkV l).map lookD)]) (by simp only [sSeq, sNext, sDrop, sRet, sRetN, sIf, sAsg, gN, fVar, fC, fBin, fUn, fBu, fNil, fCons, fTup, fLst, fB, fIf, fNot, fAnd, fOr, fV, fNotV, fAndV, fOrV, fCall, R.bind, R.bindS, R.of, RS.out, gAdd_int, gSub_int, gLt_int, gLe_int, gGt_int, gGe_int, gNeg_int, gEq_int, gNe_int, gI2C_int, gInt_int, gAbs_int, gLen_lst, gLen_tup, List.getElem?_cons_zero, List.getElem?_cons_succ, List.set_cons_zero, List.set_cons_succ, List.append_nil, if_true, if_false, decide_true, decide_false, Int.reduceEq, Int.reduceLT, Int.reduceLE, Int.reduceNeg, Int.reduceAdd, Int.reduceSub, Bool.not_true, Bool.not_false, reduceIte, Bool.false_eq_true, Option.map_some, Option.bind_some, Nat.reduceAdd, gTupF, gsCons, gsNil, seqOf, lisOf, lstOf, List.length_cons, List.length_nil] <;> rfl)]
  rw [seq1 (env' := eD l p s a (some (.loc S.length)) (some (.int b')) o8 o9 (some (.lst ([kSeek s].map lookD))) (some (.lst ([kPlc p].map lookD))) none none none none none none none) (S' := S ++ [.lst ((lkV l).map lookD)]) (by simp only [sSeq, sNext, sDrop, sRet, sRetN, sIf, sAsg, gN, fVar, fC, fBin, fUn, fBu, fNil, fCons, fTup, fLst, fB, fIf, fNot, fAnd, fOr, fV, fNotV, fAndV, fOrV, fCall, R.bind, R.bindS, R.of, RS.out, gAdd_int, gSub_int, gLt_int, gLe_int, gGt_int, gGe_int, gNeg_int, gEq_int, gNe_int, gI2C_int, gInt_int, gAbs_int, gLen_lst, gLen_tup, List.getElem?_cons_zero, List.getElem?_cons_succ, List.set_cons_zero, List.set_cons_succ, List.append_nil, if_true, if_false, decide_true, decide_false, Int.reduceEq, Int.reduceLT, Int.reduceLE, Int.reduceNeg, Int.reduceAdd, Int.reduceSub, Bool.not_true, Bool.not_false, reduceIte, Bool.false_eq_true, Option.map_some, Option.bind_some, Nat.reduceAdd, gTupF, gsCons, gsNil, seqOf, lisOf, lstOf, List.length_cons, List.length_nil] <;> rfl)]
  rw [seq1 (env' := eD l p s a (some (.loc S.length)) (some (.int b')) o8 o9 (some (.lst ([kSeek s].map lookD))) (some (.lst ([kPlc p].map lookD))) (some (.lst ([kFit l p].map lookD))) none none none none none none) (S' := S ++ [.lst ((lkV l).map lookD)]) (by simp only [sSeq, sNext, sDrop, sRet, sRetN, sIf, sAsg, gN, fVar, fC, fBin, fUn, fBu, fNil, fCons, fTup, fLst, fB, fIf, fNot, fAnd, fOr, fV, fNotV, fAndV, fOrV, fCall, R.bind, R.bindS, R.of, RS.out, gAdd_int, gSub_int, gLt_int, gLe_int, gGt_int, gGe_int, gNeg_int, gEq_int, gNe_int, gI2C_int, gInt_int, gAbs_int, gLen_lst, gLen_tup, List.getElem?_cons_zero, List.getElem?_cons_succ, List.set_cons_zero, List.set_cons_succ, List.append_nil, if_true, if_false, decide_true, decide_false, Int.reduceEq, Int.reduceLT, Int.reduceLE, Int.reduceNeg, Int.reduceAdd, Int.reduceSub, Bool.not_true, Bool.not_false, reduceIte, Bool.false_eq_true, Option.map_some, Option.bind_some, Nat.reduceAdd, gTupF, gsCons, gsNil, seqOf, lisOf, lstOf, List.length_cons, List.length_nil] <;> rfl)]
  rw [seq1 (env' := eD l p s a (some (.loc S.length)) (some (.int b')) o8 o9 (some (.lst ([kSeek s].map lookD))) (some (.lst ([kPlc p].map lookD))) (some (.lst ([kFit l p].map lookD))) (some (.lst ([kAmt a].map lookD))) none none none none none) (S' := S ++ [.lst ((lkV l).map lookD)]) (by simp only [sSeq, sNext, sDrop, sRet, sRetN, sIf, sAsg, gN, fVar, fC, fBin, fUn, fBu, fNil, fCons, fTup, fLst, fB, fIf, fNot, fAnd, fOr, fV, fNotV, fAndV, fOrV, fCall, R.bind, R.bindS, R.of, RS.out, gAdd_int, gSub_int, gLt_int, gLe_int, gGt_int, gGe_int, gNeg_int, gEq_int, gNe_int, gI2C_int, gInt_int, gAbs_int, gLen_lst, gLen_tup, List.getElem?_cons_zero, List.getElem?_cons_succ, List.set_cons_zero, List.set_cons_succ, List.append_nil, if_true, if_false, decide_true, decide_false, Int.reduceEq, Int.reduceLT, Int.reduceLE, Int.reduceNeg, Int.reduceAdd, Int.reduceSub, Bool.not_true, Bool.not_false, reduceIte, Bool.false_eq_true, Option.map_some, Option.bind_some, Nat.reduceAdd, gTupF, gsCons, gsNil, seqOf, lisOf, lstOf, List.length_cons, List.length_nil] <;> rfl)]
  have len : (lkV l).length ≤ 2000 := by
    rw [List.length_append, looksV_len]
    show 1 + _ ≤ _
    omega
  have cL : ∀ (S' : Sto) (k : Look), (S'[S.length]? = some (.lst ((lkV l).map lookD))) → gAdd S' (.loc S.length) (.lst ([k].map lookD)) = some (.lst ((lkV l ++ [k]).map lookD)) := fun S' k h => by
    rw [gCat_loc h (by rw [List.length_map, List.length_map]; show _ + 1 ≤ _; omega), ← List.map_append]
  have cat : ∀ (S' : Sto) (x : List Look) (k : Look), x.length ≤ 3000 → gAdd S' (.lst (x.map lookD)) (.lst ([k].map lookD)) = some (.lst ((x ++ [k]).map lookD)) := fun S' x k h => by
    rw [gCat_lst (by rw [List.length_map, List.length_map]; show _ + 1 ≤ _; omega), ← List.map_append]
  have L1 : (S ++ [Cell.lst ((lkV l).map lookD)]).length = S.length + 1 := by rw [List.length_append]; rfl
  have ls : ∀ (x : List Look) (k : Look), (x ++ [k]).length = x.length + 1 := fun x k => by rw [List.length_append]; rfl
  have g1 := cL (S ++ [.lst ((lkV l).map lookD)]) (kPlc p) get_end
  have g2 := cat (S ++ [.lst ((lkV l).map lookD)]) (lkV l ++ [kPlc p]) (kSeek s) (by rw [ls]; omega)
  have g3 := cat (S ++ [.lst ((lkV l).map lookD)]) (lkV l ++ [kPlc p] ++ [kSeek s]) (kAmt a) (by rw [ls, ls]; omega)
  have g4 := cat (S ++ [.lst ((lkV l).map lookD)]) (lkV l ++ [kPlc p] ++ [kSeek s] ++ [kAmt a]) (kFit l p) (by rw [ls, ls, ls]; omega)
  have f0 : f_l_first [.lst ((lkV l ++ [kPlc p] ++ [kSeek s] ++ [kAmt a] ++ [kFit l p]).map lookD)] (S ++ [.lst ((lkV l).map lookD)]) = .ok (firstD (w0 l p s a)) (S ++ [.lst ((lkV l).map lookD)]) := e_first
  rw [seq1 (env' := eD l p s a (some (.loc S.length)) (some (.int b')) o8 o9 (some (.lst ([kSeek s].map lookD))) (some (.lst ([kPlc p].map lookD))) (some (.lst ([kFit l p].map lookD))) (some (.lst ([kAmt a].map lookD))) (some (.loc (S.length + 1))) none none none none) (S' := S ++ [.lst ((lkV l).map lookD)] ++ [.lst [firstD (w0 l p s a)]]) (by simp only [sSeq, sNext, sDrop, sRet, sRetN, sIf, sAsg, gN, fVar, fC, fBin, fUn, fBu, fNil, fCons, fTup, fLst, fB, fIf, fNot, fAnd, fOr, fV, fNotV, fAndV, fOrV, fCall, R.bind, R.bindS, R.of, RS.out, gAdd_int, gSub_int, gLt_int, gLe_int, gGt_int, gGe_int, gNeg_int, gEq_int, gNe_int, gI2C_int, gInt_int, gAbs_int, gLen_lst, gLen_tup, List.getElem?_cons_zero, List.getElem?_cons_succ, List.set_cons_zero, List.set_cons_succ, List.append_nil, if_true, if_false, decide_true, decide_false, Int.reduceEq, Int.reduceLT, Int.reduceLE, Int.reduceNeg, Int.reduceAdd, Int.reduceSub, Bool.not_true, Bool.not_false, reduceIte, Bool.false_eq_true, Option.map_some, Option.bind_some, Nat.reduceAdd, gTupF, gsCons, gsNil, seqOf, lisOf, lstOf, List.length_cons, List.length_nil, fLoc, g1, g2, g3, g4, f0, L1])]
  have h1 : ∀ x : List FL.D, gAdd (S ++ [.lst ((lkV l).map lookD)] ++ [.lst x]) (.loc S.length) (.lst ([kPlc p].map lookD)) = some (.lst ((lkV l ++ [kPlc p]).map lookD)) := fun x => cL _ _ get_end1
  have h2 : ∀ x : List FL.D, gAdd (S ++ [.lst ((lkV l).map lookD)] ++ [.lst x]) (.loc S.length) (.lst ([kSeek s].map lookD)) = some (.lst ((lkV l ++ [kSeek s]).map lookD)) := fun x => cL _ _ get_end1
  have h3 : ∀ x : List FL.D, gAdd (S ++ [.lst ((lkV l).map lookD)] ++ [.lst x]) (.lst ((lkV l ++ [kPlc p]).map lookD)) (.lst ([kFit l p].map lookD)) = some (.lst ((lkV l ++ [kPlc p] ++ [kFit l p]).map lookD)) := fun x => cat _ _ _ (by rw [ls]; omega)
  have f1 : ∀ S', f_l_first [.lst ((lkV l ++ [kPlc p] ++ [kFit l p]).map lookD)] S' = .ok (firstD (w1 l p)) S' := fun S' => e_first
  have f2 : ∀ S', f_l_first [.lst ((lkV l ++ [kSeek s]).map lookD)] S' = .ok (firstD (w2 l s)) S' := fun S' => e_first
  have lo : ∀ xs, locL (S ++ [.lst ((lkV l).map lookD)] ++ [.lst xs]) (.loc (S.length + 1)) = some (S.length + 1, xs) := fun xs => locL_of get_end2
  have m1 : mutAt gAppend (.loc (S.length + 1)) [firstD (w1 l p)] (S ++ [.lst ((lkV l).map lookD)] ++ [.lst [firstD (w0 l p s a)]]) = .ok .non (S ++ [.lst ((lkV l).map lookD)] ++ [.lst [firstD (w0 l p s a), firstD (w1 l p)]]) := by
    rw [mut_append get_end2 (by show 1 < 16777216; decide), set_end2]
    rfl
  have m2 : mutAt gAppend (.loc (S.length + 1)) [firstD (w2 l s)] (S ++ [.lst ((lkV l).map lookD)] ++ [.lst [firstD (w0 l p s a), firstD (w1 l p)]]) = .ok .non (S ++ [.lst ((lkV l).map lookD)] ++ [.lst [firstD (w0 l p s a), firstD (w1 l p), firstD (w2 l s)]]) := by
    rw [mut_append get_end2 (by show 2 < 16777216; decide), set_end2]
    rfl
  rw [seq1 (env' := eD l p s a (some (.loc S.length)) (some (.int b')) o8 o9 (some (.lst ([kSeek s].map lookD))) (some (.lst ([kPlc p].map lookD))) (some (.lst ([kFit l p].map lookD))) (some (.lst ([kAmt a].map lookD))) (some (.loc (S.length + 1))) none none none none) (S' := S ++ [.lst ((lkV l).map lookD)] ++ [.lst [firstD (w0 l p s a), firstD (w1 l p)]]) (by simp only [sSeq, sNext, sDrop, sRet, sRetN, sIf, sAsg, gN, fVar, fC, fBin, fUn, fBu, fNil, fCons, fTup, fLst, fB, fIf, fNot, fAnd, fOr, fV, fNotV, fAndV, fOrV, fCall, R.bind, R.bindS, R.of, RS.out, gAdd_int, gSub_int, gLt_int, gLe_int, gGt_int, gGe_int, gNeg_int, gEq_int, gNe_int, gI2C_int, gInt_int, gAbs_int, gLen_lst, gLen_tup, List.getElem?_cons_zero, List.getElem?_cons_succ, List.set_cons_zero, List.set_cons_succ, List.append_nil, if_true, if_false, decide_true, decide_false, Int.reduceEq, Int.reduceLT, Int.reduceLE, Int.reduceNeg, Int.reduceAdd, Int.reduceSub, Bool.not_true, Bool.not_false, reduceIte, Bool.false_eq_true, Option.map_some, Option.bind_some, Nat.reduceAdd, gTupF, gsCons, gsNil, seqOf, lisOf, lstOf, List.length_cons, List.length_nil, fMut, lo, h1, h3, f1, m1])]
  rw [seq1 (env' := eD l p s a (some (.loc S.length)) (some (.int b')) o8 o9 (some (.lst ([kSeek s].map lookD))) (some (.lst ([kPlc p].map lookD))) (some (.lst ([kFit l p].map lookD))) (some (.lst ([kAmt a].map lookD))) (some (.loc (S.length + 1))) none none none none) (S' := S ++ [.lst ((lkV l).map lookD)] ++ [.lst [firstD (w0 l p s a), firstD (w1 l p), firstD (w2 l s)]]) (by simp only [sSeq, sNext, sDrop, sRet, sRetN, sIf, sAsg, gN, fVar, fC, fBin, fUn, fBu, fNil, fCons, fTup, fLst, fB, fIf, fNot, fAnd, fOr, fV, fNotV, fAndV, fOrV, fCall, R.bind, R.bindS, R.of, RS.out, gAdd_int, gSub_int, gLt_int, gLe_int, gGt_int, gGe_int, gNeg_int, gEq_int, gNe_int, gI2C_int, gInt_int, gAbs_int, gLen_lst, gLen_tup, List.getElem?_cons_zero, List.getElem?_cons_succ, List.set_cons_zero, List.set_cons_succ, List.append_nil, if_true, if_false, decide_true, decide_false, Int.reduceEq, Int.reduceLT, Int.reduceLE, Int.reduceNeg, Int.reduceAdd, Int.reduceSub, Bool.not_true, Bool.not_false, reduceIte, Bool.false_eq_true, Option.map_some, Option.bind_some, Nat.reduceAdd, gTupF, gsCons, gsNil, seqOf, lisOf, lstOf, List.length_cons, List.length_nil, fMut, lo, h2, f2, m2])]
  have ix : ∀ (k : Nat) (xs : List FL.D) (z : FL.D), xs[k]? = some z → gIx (S ++ [.lst ((lkV l).map lookD)] ++ [.lst xs]) (.loc (S.length + 1)) (.int (k : Int)) = some z := fun k xs z h => gIx_loc get_end2 h
  have ix0 : ∀ x y z : FL.D, gIx (S ++ [.lst ((lkV l).map lookD)] ++ [.lst [x, y, z]]) (.loc (S.length + 1)) (.int 0) = some x := fun x y z => ix 0 _ _ rfl
  have ix1 : ∀ x y z : FL.D, gIx (S ++ [.lst ((lkV l).map lookD)] ++ [.lst [x, y, z]]) (.loc (S.length + 1)) (.int 1) = some y := fun x y z => ix 1 _ _ rfl
  have ix2 : ∀ x y z : FL.D, gIx (S ++ [.lst ((lkV l).map lookD)] ++ [.lst [x, y, z]]) (.loc (S.length + 1)) (.int 2) = some z := fun x y z => ix 2 _ _ rfl
  have s0 : ∀ x y z v : FL.D, setAt v (.loc (S.length + 1)) (.int 0) (S ++ [.lst ((lkV l).map lookD)] ++ [.lst [x, y, z]]) = some (S ++ [.lst ((lkV l).map lookD)] ++ [.lst [v, y, z]]) := fun x y z v => setAt_end (k := 0) (by show 0 < 3; decide)
  have s1 : ∀ x y z v : FL.D, setAt v (.loc (S.length + 1)) (.int 1) (S ++ [.lst ((lkV l).map lookD)] ++ [.lst [x, y, z]]) = some (S ++ [.lst ((lkV l).map lookD)] ++ [.lst [x, v, z]]) := fun x y z v => setAt_end (k := 1) (by show 1 < 3; decide)
  have s2 : ∀ x y z v : FL.D, setAt v (.loc (S.length + 1)) (.int 2) (S ++ [.lst ((lkV l).map lookD)] ++ [.lst [x, y, z]]) = some (S ++ [.lst ((lkV l).map lookD)] ++ [.lst [x, y, v]]) := fun x y z v => setAt_end (k := 2) (by show 2 < 3; decide)
  -- the first
  have p0 : ∃ o15 o16 o17, (sIf (fB (fBin (gIsN false) (fBin gIx (fVar 14) (fC (.int 0))) (fC .non))) (sSeq (sAsg (fCall f_l_taken [] (fCons (fVar 1) (fCons (fVar 2) (fCons (fVar 3) (fCons (fVar 4) fNil))))) (gTupF 3 (gsCons (gN 15) (gsCons (gN 16) (gsCons (gN 17) gsNil)))))
  (sSetI (fTup (fCons (fC (.str "told")) (fCons (fTup (fCons (fVar 15) (fCons (fBu gTuple (fCons (fVar 16) fNil)) (fCons (fVar 17) fNil)))) fNil))) (fVar 14) (fC (.int 0)))) sNext) (eD l p s a (some (.loc S.length)) (some (.int b')) o8 o9 (some (.lst ([kSeek s].map lookD))) (some (.lst ([kPlc p].map lookD))) (some (.lst ([kFit l p].map lookD))) (some (.lst ([kAmt a].map lookD))) (some (.loc (S.length + 1))) none none none none) (S ++ [.lst ((lkV l).map lookD)] ++ [.lst [firstD (w0 l p s a), firstD (w1 l p), firstD (w2 l s)]])
      = .fl (.nx (eD l p s a (some (.loc S.length)) (some (.int b')) o8 o9 (some (.lst ([kSeek s].map lookD))) (some (.lst ([kPlc p].map lookD))) (some (.lst ([kFit l p].map lookD))) (some (.lst ([kAmt a].map lookD))) (some (.loc (S.length + 1))) o15 o16 o17 none)) (S ++ [.lst ((lkV l).map lookD)] ++ [.lst [due0 l p s a, firstD (w1 l p), firstD (w2 l s)]]) := by
    unfold due0 toldD
    cases hw : w0 l p s a with
    | some r => exact ⟨none, none, none, by simp only [sSeq, sNext, sDrop, sRet, sRetN, sIf, sAsg, gN, fVar, fC, fBin, fUn, fBu, fNil, fCons, fTup, fLst, fB, fIf, fNot, fAnd, fOr, fV, fNotV, fAndV, fOrV, fCall, R.bind, R.bindS, R.of, RS.out, gAdd_int, gSub_int, gLt_int, gLe_int, gGt_int, gGe_int, gNeg_int, gEq_int, gNe_int, gI2C_int, gInt_int, gAbs_int, gLen_lst, gLen_tup, List.getElem?_cons_zero, List.getElem?_cons_succ, List.set_cons_zero, List.set_cons_succ, List.append_nil, if_true, if_false, decide_true, decide_false, Int.reduceEq, Int.reduceLT, Int.reduceLE, Int.reduceNeg, Int.reduceAdd, Int.reduceSub, Bool.not_true, Bool.not_false, reduceIte, Bool.false_eq_true, Option.map_some, Option.bind_some, Nat.reduceAdd, gTupF, gsCons, gsNil, seqOf, lisOf, lstOf, List.length_cons, List.length_nil, ix0, isN_some]⟩
    | none =>
      have hp : 0 < p := plc_pos (firstV_none (show firstV (lkV l ++ [kPlc p] ++ [kSeek s] ++ [kAmt a] ++ [kFit l p]) = none from hw) (kPlc p) (by simp))
      have ht := fun S => e_taken (S := S) (l := l) (s := s) (a := a) hp (show l.length ≤ 1000 by omega)
      have tu : ∀ (S : Sto) (x : List FL.D), gTuple S [.lst x] = some (.tup x) := fun S x => rfl
      exact ⟨some (wordD (takenV l p s a).1), some (.lst (entsD (takenV l p s a).2.1)), some (.int (takenV l p s a).2.2), by simp only [sSeq, sNext, sDrop, sRet, sRetN, sIf, sAsg, gN, fVar, fC, fBin, fUn, fBu, fNil, fCons, fTup, fLst, fB, fIf, fNot, fAnd, fOr, fV, fNotV, fAndV, fOrV, fCall, R.bind, R.bindS, R.of, RS.out, gAdd_int, gSub_int, gLt_int, gLe_int, gGt_int, gGe_int, gNeg_int, gEq_int, gNe_int, gI2C_int, gInt_int, gAbs_int, gLen_lst, gLen_tup, List.getElem?_cons_zero, List.getElem?_cons_succ, List.set_cons_zero, List.set_cons_succ, List.append_nil, if_true, if_false, decide_true, decide_false, Int.reduceEq, Int.reduceLT, Int.reduceLE, Int.reduceNeg, Int.reduceAdd, Int.reduceSub, Bool.not_true, Bool.not_false, reduceIte, Bool.false_eq_true, Option.map_some, Option.bind_some, Nat.reduceAdd, gTupF, gsCons, gsNil, seqOf, lisOf, lstOf, List.length_cons, List.length_nil, ix0, isN_none, ht, tu, sSetI, s0]⟩
  obtain ⟨o15, o16, o17, q0⟩ := p0
  rw [seq1 q0]
  have p1 : (sIf (fB (fBin (gIsN false) (fBin gIx (fVar 14) (fC (.int 1))) (fC .non))) (sSetI (fTup (fCons (fC (.str "told")) (fCons (fCall f_l_price [] (fCons (fVar 1) (fCons (fVar 2) fNil))) fNil))) (fVar 14) (fC (.int 1))) sNext) (eD l p s a (some (.loc S.length)) (some (.int b')) o8 o9 (some (.lst ([kSeek s].map lookD))) (some (.lst ([kPlc p].map lookD))) (some (.lst ([kFit l p].map lookD))) (some (.lst ([kAmt a].map lookD))) (some (.loc (S.length + 1))) o15 o16 o17 none) (S ++ [.lst ((lkV l).map lookD)] ++ [.lst [due0 l p s a, firstD (w1 l p), firstD (w2 l s)]])
      = .fl (.nx (eD l p s a (some (.loc S.length)) (some (.int b')) o8 o9 (some (.lst ([kSeek s].map lookD))) (some (.lst ([kPlc p].map lookD))) (some (.lst ([kFit l p].map lookD))) (some (.lst ([kAmt a].map lookD))) (some (.loc (S.length + 1))) o15 o16 o17 none)) (S ++ [.lst ((lkV l).map lookD)] ++ [.lst [due0 l p s a, due1 l p, firstD (w2 l s)]]) := by
    unfold due1 toldD
    cases hw : w1 l p with
    | some r => simp only [sSeq, sNext, sDrop, sRet, sRetN, sIf, sAsg, gN, fVar, fC, fBin, fUn, fBu, fNil, fCons, fTup, fLst, fB, fIf, fNot, fAnd, fOr, fV, fNotV, fAndV, fOrV, fCall, R.bind, R.bindS, R.of, RS.out, gAdd_int, gSub_int, gLt_int, gLe_int, gGt_int, gGe_int, gNeg_int, gEq_int, gNe_int, gI2C_int, gInt_int, gAbs_int, gLen_lst, gLen_tup, List.getElem?_cons_zero, List.getElem?_cons_succ, List.set_cons_zero, List.set_cons_succ, List.append_nil, if_true, if_false, decide_true, decide_false, Int.reduceEq, Int.reduceLT, Int.reduceLE, Int.reduceNeg, Int.reduceAdd, Int.reduceSub, Bool.not_true, Bool.not_false, reduceIte, Bool.false_eq_true, Option.map_some, Option.bind_some, Nat.reduceAdd, gTupF, gsCons, gsNil, seqOf, lisOf, lstOf, List.length_cons, List.length_nil, ix1, isN_some]
    | none =>
      have hp : 0 < p := plc_pos (firstV_none (show firstV (lkV l ++ [kPlc p] ++ [kFit l p]) = none from hw) (kPlc p) (by simp))
      have ht := fun S => e_price (S := S) (l := l) hp (show l.length ≤ 1000 by omega)
      simp only [sSeq, sNext, sDrop, sRet, sRetN, sIf, sAsg, gN, fVar, fC, fBin, fUn, fBu, fNil, fCons, fTup, fLst, fB, fIf, fNot, fAnd, fOr, fV, fNotV, fAndV, fOrV, fCall, R.bind, R.bindS, R.of, RS.out, gAdd_int, gSub_int, gLt_int, gLe_int, gGt_int, gGe_int, gNeg_int, gEq_int, gNe_int, gI2C_int, gInt_int, gAbs_int, gLen_lst, gLen_tup, List.getElem?_cons_zero, List.getElem?_cons_succ, List.set_cons_zero, List.set_cons_succ, List.append_nil, if_true, if_false, decide_true, decide_false, Int.reduceEq, Int.reduceLT, Int.reduceLE, Int.reduceNeg, Int.reduceAdd, Int.reduceSub, Bool.not_true, Bool.not_false, reduceIte, Bool.false_eq_true, Option.map_some, Option.bind_some, Nat.reduceAdd, gTupF, gsCons, gsNil, seqOf, lisOf, lstOf, List.length_cons, List.length_nil, ix1, isN_none, ht, sSetI, s1]
  rw [seq1 p1]
  have p2 : ∃ o18, (sIf (fB (fBin (gIsN false) (fBin gIx (fVar 14) (fC (.int 2))) (fC .non))) (sSeq (sAsg (fBin gAdd (fLc (iSeq (fVar 1)) (gN 19) (fB (fBin (gEq false) (fBin gIx (fVar 19) (fC (.int 0))) (fVar 3))) (fBin gIx (fVar 19) (fC (.int 1))) [19]) (fLst (fCons (fUn gNeg (fC (.int 1))) fNil))) (gN 18))
  (sSetI (fTup (fCons (fC (.str "told")) (fCons (fBin gIx (fVar 18) (fC (.int 0))) fNil))) (fVar 14) (fC (.int 2)))) sNext) (eD l p s a (some (.loc S.length)) (some (.int b')) o8 o9 (some (.lst ([kSeek s].map lookD))) (some (.lst ([kPlc p].map lookD))) (some (.lst ([kFit l p].map lookD))) (some (.lst ([kAmt a].map lookD))) (some (.loc (S.length + 1))) o15 o16 o17 none) (S ++ [.lst ((lkV l).map lookD)] ++ [.lst [due0 l p s a, due1 l p, firstD (w2 l s)]])
      = .fl (.nx (eD l p s a (some (.loc S.length)) (some (.int b')) o8 o9 (some (.lst ([kSeek s].map lookD))) (some (.lst ([kPlc p].map lookD))) (some (.lst ([kFit l p].map lookD))) (some (.lst ([kAmt a].map lookD))) (some (.loc (S.length + 1))) o15 o16 o17 o18)) (S ++ [.lst ((lkV l).map lookD)] ++ [.lst [due0 l p s a, due1 l p, due2 l s]]) := by
    unfold due2 toldD
    cases hw : w2 l s with
    | some r => exact ⟨none, by simp only [sSeq, sNext, sDrop, sRet, sRetN, sIf, sAsg, gN, fVar, fC, fBin, fUn, fBu, fNil, fCons, fTup, fLst, fB, fIf, fNot, fAnd, fOr, fV, fNotV, fAndV, fOrV, fCall, R.bind, R.bindS, R.of, RS.out, gAdd_int, gSub_int, gLt_int, gLe_int, gGt_int, gGe_int, gNeg_int, gEq_int, gNe_int, gI2C_int, gInt_int, gAbs_int, gLen_lst, gLen_tup, List.getElem?_cons_zero, List.getElem?_cons_succ, List.set_cons_zero, List.set_cons_succ, List.append_nil, if_true, if_false, decide_true, decide_false, Int.reduceEq, Int.reduceLT, Int.reduceLE, Int.reduceNeg, Int.reduceAdd, Int.reduceSub, Bool.not_true, Bool.not_false, reduceIte, Bool.false_eq_true, Option.map_some, Option.bind_some, Nat.reduceAdd, gTupF, gsCons, gsNil, seqOf, lisOf, lstOf, List.length_cons, List.length_nil, ix2, isN_some]⟩
    | none =>
      have r1 := lc_ents (fi := iSeq (fVar 1)) (g := gN 19) (ft := fB (fBin (gEq false) (fBin gIx (fVar 19) (fC (.int 0))) (fVar 3))) (fe := fBin gIx (fVar 19) (fC (.int 1))) (vs := [19]) (env := eD l p s a (some (.loc S.length)) (some (.int b')) o8 o9 (some (.lst ([kSeek s].map lookD))) (some (.lst ([kPlc p].map lookD))) (some (.lst ([kFit l p].map lookD))) (some (.lst ([kAmt a].map lookD))) (some (.loc (S.length + 1))) o15 o16 o17 none) (S := S ++ [.lst ((lkV l).map lookD)] ++ [.lst [due0 l p s a, due1 l p, firstD none]]) (l := l) (fun e => if decide (e.1 = s) = true then some (.int e.2) else none) rfl (by omega) fun e => by
          have z : ∀ S, gIx S (entD e) (.int 0) = some (.int e.1) := fun S => rfl
          have z1 : ∀ S, gIx S (entD e) (.int 1) = some (.int e.2) := fun S => rfl
          unfold lcBody
          simp only [sSeq, sNext, sDrop, sRet, sRetN, sIf, sAsg, gN, fVar, fC, fBin, fUn, fBu, fNil, fCons, fTup, fLst, fB, fIf, fNot, fAnd, fOr, fV, fNotV, fAndV, fOrV, fCall, R.bind, R.bindS, R.of, RS.out, gAdd_int, gSub_int, gLt_int, gLe_int, gGt_int, gGe_int, gNeg_int, gEq_int, gNe_int, gI2C_int, gInt_int, gAbs_int, gLen_lst, gLen_tup, List.getElem?_cons_zero, List.getElem?_cons_succ, List.set_cons_zero, List.set_cons_succ, List.append_nil, if_true, if_false, decide_true, decide_false, Int.reduceEq, Int.reduceLT, Int.reduceLE, Int.reduceNeg, Int.reduceAdd, Int.reduceSub, Bool.not_true, Bool.not_false, reduceIte, Bool.false_eq_true, Option.map_some, Option.bind_some, Nat.reduceAdd, gTupF, gsCons, gsNil, seqOf, lisOf, lstOf, List.length_cons, List.length_nil, wipeE, z, z1, R.noX]
          cases decide (e.1 = s) <;> rfl
      rw [fm_if] at r1
      have fl := List.length_filter_le (fun e : Int × Int => decide (e.1 = s)) l
      have c1 : ∀ S, gAdd S (.lst ((l.filter fun e => decide (e.1 = s)).map fun e => FL.D.int e.2)) (.lst [.int (-1)]) = some (.lst (iD ((l.filter fun e => decide (e.1 = s)).map (·.2) ++ [-1]))) := fun S => by
        rw [gCat_lst (by rw [List.length_map]; show _ + 1 ≤ _; omega)]
        simp [iD]
      have c2 : ∀ S, gIx S (.lst (iD ((l.filter fun e => decide (e.1 = s)).map (·.2) ++ [-1]))) (.int 0) = some (.int (amtV l s)) := fun S => by
        refine gIx_lst (k := 0) ?_
        rw [List.getElem?_map, amt_ent]
        rfl
      exact ⟨some (.lst (iD ((l.filter fun e => decide (e.1 = s)).map (·.2) ++ [-1]))), by simp only [sSeq, sNext, sDrop, sRet, sRetN, sIf, sAsg, gN, fVar, fC, fBin, fUn, fBu, fNil, fCons, fTup, fLst, fB, fIf, fNot, fAnd, fOr, fV, fNotV, fAndV, fOrV, fCall, R.bind, R.bindS, R.of, RS.out, gAdd_int, gSub_int, gLt_int, gLe_int, gGt_int, gGe_int, gNeg_int, gEq_int, gNe_int, gI2C_int, gInt_int, gAbs_int, gLen_lst, gLen_tup, List.getElem?_cons_zero, List.getElem?_cons_succ, List.set_cons_zero, List.set_cons_succ, List.append_nil, if_true, if_false, decide_true, decide_false, Int.reduceEq, Int.reduceLT, Int.reduceLE, Int.reduceNeg, Int.reduceAdd, Int.reduceSub, Bool.not_true, Bool.not_false, reduceIte, Bool.false_eq_true, Option.map_some, Option.bind_some, Nat.reduceAdd, gTupF, gsCons, gsNil, seqOf, lisOf, lstOf, List.length_cons, List.length_nil, ix2, isN_none, r1, c1, c2, sSetI, s2]⟩
  obtain ⟨o18, q2⟩ := p2
  rw [seq1 q2]
  simp only [sSeq, sNext, sDrop, sRet, sRetN, sIf, sAsg, gN, fVar, fC, fBin, fUn, fBu, fNil, fCons, fTup, fLst, fB, fIf, fNot, fAnd, fOr, fV, fNotV, fAndV, fOrV, fCall, R.bind, R.bindS, R.of, RS.out, gAdd_int, gSub_int, gLt_int, gLe_int, gGt_int, gGe_int, gNeg_int, gEq_int, gNe_int, gI2C_int, gInt_int, gAbs_int, gLen_lst, gLen_tup, List.getElem?_cons_zero, List.getElem?_cons_succ, List.set_cons_zero, List.set_cons_succ, List.append_nil, if_true, if_false, decide_true, decide_false, Int.reduceEq, Int.reduceLT, Int.reduceLE, Int.reduceNeg, Int.reduceAdd, Int.reduceSub, Bool.not_true, Bool.not_false, reduceIte, Bool.false_eq_true, Option.map_some, Option.bind_some, Nat.reduceAdd, gTupF, gsCons, gsNil, seqOf, lisOf, lstOf, List.length_cons, List.length_nil]
end K19
set_option maxRecDepth 100000
set_option maxHeartbeats 2000000
namespace K19
open FL
/-! ### plain data -/
theorem pl_iD (n : Nat) : ∀ xs : List Int, plains n (iD xs) = true
  | [] => by unfold plains; rfl
  | x :: r => by
    show plains n (FL.D.int x :: iD r) = true
    unfold plains
    rw [pl_iD n r]
    unfold FL.D.plain
    rfl
theorem pl_cons {n : Nat} {d : FL.D} {ds : List FL.D} (h : d.plain n = true) (t : plains n ds = true) : plains n (d :: ds) = true := by
  unfold plains
  rw [h, t]
  rfl
theorem pl_nil {n : Nat} : plains n [] = true := by unfold plains; rfl
theorem pl_tup {n : Nat} {ds : List FL.D} (t : plains n ds = true) : (FL.D.tup ds).plain n = true := by unfold FL.D.plain; exact t
theorem pl_int {n : Nat} {i : Int} : (FL.D.int i).plain n = true := by unfold FL.D.plain; rfl
theorem pl_word {n : Nat} {x : String} : (wordD x).plain n = true := by unfold FL.D.plain; rfl
theorem pl_ents (n : Nat) : ∀ l : List (Int × Int), plains n (entsD l) = true
  | [] => pl_nil
  | x :: r => pl_cons (pl_tup (pl_cons pl_int (pl_cons pl_int pl_nil))) (pl_ents n r)
theorem pl_told {n : Nat} {x : FL.D} {w : Option (String × Int)} (h : x.plain n = true) : (toldD x w).plain n = true := by
  unfold toldD
  cases w with
  | none => exact pl_tup (pl_cons pl_word (pl_cons h pl_nil))
  | some r => exact pl_tup (pl_cons pl_word (pl_cons pl_word (pl_cons pl_int pl_nil)))
theorem frz_new {f : Fn} {ds es : List FL.D} {S T : Sto} {m : Nat} (h : f ds S = .ok (.loc m) (S ++ T)) (hm : S.length ≤ m) (hc : (S ++ T)[m]? = some (.lst es)) (hS : S.all (Cell.plain S.length) = true) (he : plains S.length es = true) : frz f ds S = .ok (.lst es) S := by
  unfold frz
  rw [h]
  have ht : (S ++ T).take S.length = S := by rw [List.take_append_of_le_length (Nat.le_refl _), List.take_length]
  have hk : keptB S (S ++ T) = true := by
    unfold keptB
    rw [ht, hS, decide_eq_true (by rw [List.length_append]; omega)]
    rfl
  have hp : ¬ (FL.D.loc m).plain S.length = true := fun z => by
    unfold FL.D.plain at z
    have := of_decide_eq_true z
    omega
  unfold frzR
  dsimp only
  rw [if_pos hk, if_neg hp]
  show frzC S.length ((S ++ T).take S.length) (S ++ T)[m]? = _
  rw [hc, ht]
  unfold frzC
  dsimp only
  rw [if_pos he]
theorem e_dues {S : Sto} {l : List (Int × Int)} {p s a : Int} (hn : l.length ≤ 900) (hS : S.all (Cell.plain S.length) = true) :
    m_l_dues [askD l p s a] S = .ok (.lst [due0 l p s a, due1 l p, due2 l s]) S := by
  refine frz_new (m := S.length + 1) (T := [.lst ((lkV l).map lookD)] ++ [.lst [due0 l p s a, due1 l p, due2 l s]]) ?_ (by omega) ?_ hS ?_
  · rw [e_dues_raw hn, List.append_assoc]
  · rw [← List.append_assoc]
    exact get_end2
  · exact pl_cons (pl_told (pl_tup (pl_cons pl_word (pl_cons (pl_tup (pl_ents _ _)) (pl_cons pl_int pl_nil))))) (pl_cons (pl_told pl_int) (pl_cons (pl_told pl_int) pl_nil))
/-! ### the program's looks -/
variable {c : String → PySem.Addr}
abbrev excF (r : String × Int) : List (PySem.Str × FL.D) := [(PySem.Str.ofString "value", .int r.2), (PySem.Str.ofString "what", wordD r.1)]
abbrev excR (c : String → PySem.Addr) (r : String × Int) (S : Sto) : R FL.D := .exc (c "OutOfRange") (excF r) S
theorem e_within {S : Sto} {k : Look} : f_within c [wordD k.1, .int k.2.1, .int k.2.2.1, .int k.2.2.2] S = if badB k = true then excR c (k.1, k.2.1) S else .ok .non S := by
  rw [show f_within c [wordD k.1, .int k.2.1, .int k.2.2.1, .int k.2.2.2] S = (g_within c [some (wordD k.1), some (.int k.2.1), some (.int k.2.2.1), some (.int k.2.2.2)] S).out from rfl]
  unfold g_within
  have hc : (fOr (fB (fBin gLt (fVar 1) (fVar 2))) (fB (fBin gGt (fVar 1) (fVar 3)))) [some (wordD k.1), some (.int k.2.1), some (.int k.2.2.1), some (.int k.2.2.2)] S = .ok (badB k) S := by
    unfold badB
    by_cases h : k.2.1 < k.2.2.1
    · simp only [sSeq, sNext, sDrop, sRet, sRetN, sIf, sAsg, gN, fVar, fC, fBin, fUn, fBu, fNil, fCons, fTup, fLst, fB, fIf, fNot, fAnd, fOr, fV, fNotV, fAndV, fOrV, fCall, R.bind, R.bindS, R.of, RS.out, gAdd_int, gSub_int, gLt_int, gLe_int, gGt_int, gGe_int, gNeg_int, gEq_int, gNe_int, gI2C_int, gInt_int, gAbs_int, gLen_lst, gLen_tup, List.getElem?_cons_zero, List.getElem?_cons_succ, List.set_cons_zero, List.set_cons_succ, List.append_nil, if_true, if_false, decide_true, decide_false, Int.reduceEq, Int.reduceLT, Int.reduceLE, Int.reduceNeg, Int.reduceAdd, Int.reduceSub, Bool.not_true, Bool.not_false, reduceIte, Bool.false_eq_true, Option.map_some, Option.bind_some, Nat.reduceAdd, gTupF, gsCons, gsNil, seqOf, lisOf, lstOf, List.length_cons, List.length_nil, decide_eq_true h, Bool.true_or]
    · simp only [sSeq, sNext, sDrop, sRet, sRetN, sIf, sAsg, gN, fVar, fC, fBin, fUn, fBu, fNil, fCons, fTup, fLst, fB, fIf, fNot, fAnd, fOr, fV, fNotV, fAndV, fOrV, fCall, R.bind, R.bindS, R.of, RS.out, gAdd_int, gSub_int, gLt_int, gLe_int, gGt_int, gGe_int, gNeg_int, gEq_int, gNe_int, gI2C_int, gInt_int, gAbs_int, gLen_lst, gLen_tup, List.getElem?_cons_zero, List.getElem?_cons_succ, List.set_cons_zero, List.set_cons_succ, List.append_nil, if_true, if_false, decide_true, decide_false, Int.reduceEq, Int.reduceLT, Int.reduceLE, Int.reduceNeg, Int.reduceAdd, Int.reduceSub, Bool.not_true, Bool.not_false, reduceIte, Bool.false_eq_true, Option.map_some, Option.bind_some, Nat.reduceAdd, gTupF, gsCons, gsNil, seqOf, lisOf, lstOf, List.length_cons, List.length_nil, decide_eq_false h, Bool.false_or]
  cases hb : badB k with
  | true =>
    rw [hb] at hc
    rw [sIf_t hc, if_pos rfl]
    rfl
  | false =>
    rw [hb] at hc
    rw [sIf_f hc, if_neg Bool.false_ne_true]
    rfl
def entF (b : Bool) (e : Int × Int) : FL.D := if b = true then .lst [.int e.1, .int e.2] else .tup [.int e.1, .int e.2]
def gvD (b1 b2 : Bool) (l : List (Int × Int)) : FL.D := if b1 = true then .tup (l.map (entF b2)) else .lst (l.map (entF b2))
theorem seq_entF {S : Sto} {b : Bool} {e : Int × Int} : seqOf S (entF b e) = some [.int e.1, .int e.2] := by cases b <;> rfl
theorem src_gvD {S : Sto} {b1 b2 : Bool} {l : List (Int × Int)} : srcOf S (gvD b1 b2 l) = some (.fix (l.map (entF b2))) := by cases b1 <;> rfl
theorem len_gvD {S : Sto} {b1 b2 : Bool} {l : List (Int × Int)} : gLen S [gvD b1 b2 l] = some (.int l.length) := by
  cases b1 <;> (show some (FL.D.int ((l.map (entF b2)).length : Nat)) = _; rw [List.length_map])
abbrev gLook : TGf := gTupF 2 (gsCons (gN 2) (gsCons (gN 3) gsNil))
abbrev bLook (c : String → PySem.Addr) : SF := (sSeq (sDrop (fCall (f_within c) [] (fCons (fC (.str "seeker")) (fCons (fVar 2) (fCons (fBin gAdd (fVar 1) (fC (.int 1))) (fCons (fBin gSub (fC (.int 30)) (fC (.int 1))) fNil))))))
  (sSeq (sDrop (fCall (f_within c) [] (fCons (fC (.str "amount")) (fCons (fVar 3) (fCons (fC (.int 0)) (fCons (fC (.int 9999)) fNil))))))
  (sAsg (fVar 2) (gN 1))))
theorem look_loop {S : Sto} {x : FL.D} {bb : Bool} : ∀ (l : List (Int × Int)) (b : Int) (o2 o3 : Option FL.D),
    (firstV (looksV b l) = none → ∃ b' o2' o3', forL (fun d env S => match gLook d env S with
      | some env' => bLook c env' S
      | none => .bad) (l.map (entF bb)) [some x, some (.int b), o2, o3] S = .fl (.nx [some x, some (.int b'), o2', o3']) S) ∧
    (∀ r, firstV (looksV b l) = some r → ∃ env', forL (fun d env S => match gLook d env S with
      | some env' => bLook c env' S
      | none => .bad) (l.map (entF bb)) [some x, some (.int b), o2, o3] S = .exc env' (c "OutOfRange") (excF r) S)
  | [], b, o2, o3 => ⟨fun _ => ⟨b, o2, o3, rfl⟩, fun r h => by cases h⟩
  | e :: l, b, o2, o3 => by
    have ih := look_loop (S := S) (x := x) (bb := bb) l e.1 (some (.int e.1)) (some (.int e.2))
    have hg : gLook (entF bb e) [some x, some (.int b), o2, o3] S = some [some x, some (.int b), some (.int e.1), some (.int e.2)] := by
      unfold gLook gTupF
      rw [seq_entF]
      rfl
    have k1 := e_within (c := c) (S := S) (k := ("seeker", e.1, b + 1, 29))
    have k2 := e_within (c := c) (S := S) (k := ("amount", e.2, 0, 9999))
    have un : firstV (looksV b (e :: l)) = if badB ("seeker", e.1, b + 1, 29) = true then some ("seeker", e.1) else if badB ("amount", e.2, 0, 9999) = true then some ("amount", e.2) else firstV (looksV e.1 l) := rfl
    rw [un]
    rw [List.map_cons]
    unfold forL
    rw [hg]
    have d0 : sDrop (fCall (f_within c) [] (fCons (fC (.str "seeker")) (fCons (fVar 2) (fCons (fBin gAdd (fVar 1) (fC (.int 1))) (fCons (fBin gSub (fC (.int 30)) (fC (.int 1))) fNil))))) [some x, some (.int b), some (.int e.1), some (.int e.2)] S = (f_within c [wordD "seeker", .int e.1, .int (b + 1), .int 29] S).bindS [some x, some (.int b), some (.int e.1), some (.int e.2)] fun _ S1 => .fl (.nx [some x, some (.int b), some (.int e.1), some (.int e.2)]) S1 := by simp only [sSeq, sNext, sDrop, sRet, sRetN, sIf, sAsg, gN, fVar, fC, fBin, fUn, fBu, fNil, fCons, fTup, fLst, fB, fIf, fNot, fAnd, fOr, fV, fNotV, fAndV, fOrV, fCall, R.bind, R.bindS, R.of, RS.out, gAdd_int, gSub_int, gLt_int, gLe_int, gGt_int, gGe_int, gNeg_int, gEq_int, gNe_int, gI2C_int, gInt_int, gAbs_int, gLen_lst, gLen_tup, List.getElem?_cons_zero, List.getElem?_cons_succ, List.set_cons_zero, List.set_cons_succ, List.append_nil, if_true, if_false, decide_true, decide_false, Int.reduceEq, Int.reduceLT, Int.reduceLE, Int.reduceNeg, Int.reduceAdd, Int.reduceSub, Bool.not_true, Bool.not_false, reduceIte, Bool.false_eq_true, Option.map_some, Option.bind_some, Nat.reduceAdd, gTupF, gsCons, gsNil, seqOf, lisOf, lstOf, List.length_cons, List.length_nil]
    have d1 : sDrop (fCall (f_within c) [] (fCons (fC (.str "amount")) (fCons (fVar 3) (fCons (fC (.int 0)) (fCons (fC (.int 9999)) fNil))))) [some x, some (.int b), some (.int e.1), some (.int e.2)] S = (f_within c [wordD "amount", .int e.2, .int 0, .int 9999] S).bindS [some x, some (.int b), some (.int e.1), some (.int e.2)] fun _ S1 => .fl (.nx [some x, some (.int b), some (.int e.1), some (.int e.2)]) S1 := by simp only [sSeq, sNext, sDrop, sRet, sRetN, sIf, sAsg, gN, fVar, fC, fBin, fUn, fBu, fNil, fCons, fTup, fLst, fB, fIf, fNot, fAnd, fOr, fV, fNotV, fAndV, fOrV, fCall, R.bind, R.bindS, R.of, RS.out, gAdd_int, gSub_int, gLt_int, gLe_int, gGt_int, gGe_int, gNeg_int, gEq_int, gNe_int, gI2C_int, gInt_int, gAbs_int, gLen_lst, gLen_tup, List.getElem?_cons_zero, List.getElem?_cons_succ, List.set_cons_zero, List.set_cons_succ, List.append_nil, if_true, if_false, decide_true, decide_false, Int.reduceEq, Int.reduceLT, Int.reduceLE, Int.reduceNeg, Int.reduceAdd, Int.reduceSub, Bool.not_true, Bool.not_false, reduceIte, Bool.false_eq_true, Option.map_some, Option.bind_some, Nat.reduceAdd, gTupF, gsCons, gsNil, seqOf, lisOf, lstOf, List.length_cons, List.length_nil]
    by_cases h1 : badB ("seeker", e.1, b + 1, 29) = true
    · rw [if_pos h1] at k1
      rw [k1] at d0
      have eb : bLook c [some x, some (.int b), some (.int e.1), some (.int e.2)] S = .exc [some x, some (.int b), some (.int e.1), some (.int e.2)] (c "OutOfRange") (excF ("seeker", e.1)) S := seqX d0
      rw [if_pos h1]
      simp only [eb]
      exact ⟨fun h => by (try cases h), fun r h => by cases h; exact ⟨_, rfl⟩⟩
    · rw [if_neg h1] at k1
      rw [k1] at d0
      rw [if_neg h1]
      by_cases h2 : badB ("amount", e.2, 0, 9999) = true
      · rw [if_pos h2] at k2
        rw [k2] at d1
        have eb : bLook c [some x, some (.int b), some (.int e.1), some (.int e.2)] S = .exc [some x, some (.int b), some (.int e.1), some (.int e.2)] (c "OutOfRange") (excF ("amount", e.2)) S := by
          unfold bLook
          rw [seq1 d0]
          exact seqX d1
        rw [if_pos h2]
        simp only [eb]
        exact ⟨fun h => by (try cases h), fun r h => by cases h; exact ⟨_, rfl⟩⟩
      · rw [if_neg h2] at k2
        rw [k2] at d1
        have eb : bLook c [some x, some (.int b), some (.int e.1), some (.int e.2)] S = .fl (.nx [some x, some (.int e.1), some (.int e.1), some (.int e.2)]) S := by
          unfold bLook
          rw [seq1 d0, seq1 d1]
          rfl
        rw [if_neg h2]
        simp only [eb]
        exact ih
theorem e_look {S : Sto} {b1 b2 : Bool} {l : List (Int × Int)} (hn : l.length ≤ 900) : f_entries_look c [gvD b1 b2 l] S = match firstV (lkV l) with
    | some r => excR c r S
    | none => .ok (.tup (entsD l)) S := by
  rw [show f_entries_look c [gvD b1 b2 l] S = (g_entries_look c [some (gvD b1 b2 l), none, none, none] S).out from rfl]
  unfold g_entries_look
  have k1 := e_within (c := c) (S := S) (k := kEnt l)
  have un : firstV (lkV l) = if badB (kEnt l) = true then some ("entries", (l.length : Int)) else firstV (looksV (-1) l) := rfl
  have d0 : sDrop (fCall (f_within c) [] (fCons (fC (.str "entries")) (fCons (fBu gLen (fCons (fVar 0) fNil)) (fCons (fC (.int 0)) (fCons (fC (.int 9)) fNil))))) [some (gvD b1 b2 l), none, none, none] S = (f_within c [wordD "entries", .int l.length, .int 0, .int 9] S).bindS [some (gvD b1 b2 l), none, none, none] fun _ S1 => .fl (.nx [some (gvD b1 b2 l), none, none, none]) S1 := by simp only [sSeq, sNext, sDrop, sRet, sRetN, sIf, sAsg, gN, fVar, fC, fBin, fUn, fBu, fNil, fCons, fTup, fLst, fB, fIf, fNot, fAnd, fOr, fV, fNotV, fAndV, fOrV, fCall, R.bind, R.bindS, R.of, RS.out, gAdd_int, gSub_int, gLt_int, gLe_int, gGt_int, gGe_int, gNeg_int, gEq_int, gNe_int, gI2C_int, gInt_int, gAbs_int, gLen_lst, gLen_tup, List.getElem?_cons_zero, List.getElem?_cons_succ, List.set_cons_zero, List.set_cons_succ, List.append_nil, if_true, if_false, decide_true, decide_false, Int.reduceEq, Int.reduceLT, Int.reduceLE, Int.reduceNeg, Int.reduceAdd, Int.reduceSub, Bool.not_true, Bool.not_false, reduceIte, Bool.false_eq_true, Option.map_some, Option.bind_some, Nat.reduceAdd, gTupF, gsCons, gsNil, seqOf, lisOf, lstOf, List.length_cons, List.length_nil, len_gvD]
  rw [un]
  by_cases h1 : badB (kEnt l) = true
  · rw [if_pos h1] at k1
    rw [k1] at d0
    rw [seqX d0, if_pos h1]
    rfl
  · rw [if_neg h1] at k1
    rw [k1] at d0
    rw [seq1 d0, if_neg h1]
    rw [seq1 (env' := [some (gvD b1 b2 l), some (.int (-1)), none, none]) (S' := S) (by simp only [sSeq, sNext, sDrop, sRet, sRetN, sIf, sAsg, gN, fVar, fC, fBin, fUn, fBu, fNil, fCons, fTup, fLst, fB, fIf, fNot, fAnd, fOr, fV, fNotV, fAndV, fOrV, fCall, R.bind, R.bindS, R.of, RS.out, gAdd_int, gSub_int, gLt_int, gLe_int, gGt_int, gGe_int, gNeg_int, gEq_int, gNe_int, gI2C_int, gInt_int, gAbs_int, gLen_lst, gLen_tup, List.getElem?_cons_zero, List.getElem?_cons_succ, List.set_cons_zero, List.set_cons_succ, List.append_nil, if_true, if_false, decide_true, decide_false, Int.reduceEq, Int.reduceLT, Int.reduceLE, Int.reduceNeg, Int.reduceAdd, Int.reduceSub, Bool.not_true, Bool.not_false, reduceIte, Bool.false_eq_true, Option.map_some, Option.bind_some, Nat.reduceAdd, gTupF, gsCons, gsNil, seqOf, lisOf, lstOf, List.length_cons, List.length_nil])]
    have hs := sFor_fix (fi := iSeq (fVar 0)) (g := gLook) (b := bLook c) (env := [some (gvD b1 b2 l), some (.int (-1)), none, none]) (S := S) (S1 := S) (ds := l.map (entF b2)) (by unfold iSeq; simp only [sSeq, sNext, sDrop, sRet, sRetN, sIf, sAsg, gN, fVar, fC, fBin, fUn, fBu, fNil, fCons, fTup, fLst, fB, fIf, fNot, fAnd, fOr, fV, fNotV, fAndV, fOrV, fCall, R.bind, R.bindS, R.of, RS.out, gAdd_int, gSub_int, gLt_int, gLe_int, gGt_int, gGe_int, gNeg_int, gEq_int, gNe_int, gI2C_int, gInt_int, gAbs_int, gLen_lst, gLen_tup, List.getElem?_cons_zero, List.getElem?_cons_succ, List.set_cons_zero, List.set_cons_succ, List.append_nil, if_true, if_false, decide_true, decide_false, Int.reduceEq, Int.reduceLT, Int.reduceLE, Int.reduceNeg, Int.reduceAdd, Int.reduceSub, Bool.not_true, Bool.not_false, reduceIte, Bool.false_eq_true, Option.map_some, Option.bind_some, Nat.reduceAdd, gTupF, gsCons, gsNil, seqOf, lisOf, lstOf, List.length_cons, List.length_nil, src_gvD])
    have lp := look_loop (c := c) (S := S) (x := gvD b1 b2 l) (bb := b2) l (-1) none none
    cases hf : firstV (looksV (-1) l) with
    | some r =>
      obtain ⟨env', q⟩ := lp.2 r hf
      rw [seqX (hs.trans q)]
      rfl
    | none =>
      obtain ⟨b', o2, o3, q⟩ := lp.1 hf
      rw [seq1 (hs.trans q)]
      have r1 := fLc_pure (fi := iSeq (fVar 0)) (g := gLook) (ft := fYes) (fe := fTup (fCons (fVar 2) (fCons (fVar 3) fNil))) (vs := [2, 3]) (env := [some (gvD b1 b2 l), some (.int b'), o2, o3]) (S := S) (S1 := S) (ds := l.map (entF b2)) (fun d => match d with
        | .tup [.int s, .int a] => some (entD (s, a))
        | .lst [.int s, .int a] => some (entD (s, a))
        | _ => none) (by unfold iSeq; simp only [sSeq, sNext, sDrop, sRet, sRetN, sIf, sAsg, gN, fVar, fC, fBin, fUn, fBu, fNil, fCons, fTup, fLst, fB, fIf, fNot, fAnd, fOr, fV, fNotV, fAndV, fOrV, fCall, R.bind, R.bindS, R.of, RS.out, gAdd_int, gSub_int, gLt_int, gLe_int, gGt_int, gGe_int, gNeg_int, gEq_int, gNe_int, gI2C_int, gInt_int, gAbs_int, gLen_lst, gLen_tup, List.getElem?_cons_zero, List.getElem?_cons_succ, List.set_cons_zero, List.set_cons_succ, List.append_nil, if_true, if_false, decide_true, decide_false, Int.reduceEq, Int.reduceLT, Int.reduceLE, Int.reduceNeg, Int.reduceAdd, Int.reduceSub, Bool.not_true, Bool.not_false, reduceIte, Bool.false_eq_true, Option.map_some, Option.bind_some, Nat.reduceAdd, gTupF, gsCons, gsNil, seqOf, lisOf, lstOf, List.length_cons, List.length_nil, src_gvD]) (by rw [List.length_map]; omega) fun d hd => by
          obtain ⟨e, _, rfl⟩ := List.mem_map.mp hd
          cases b2 <;> rfl
      have r2 : (l.map (entF b2)).filterMap (fun d => match d with
        | .tup [.int s, .int a] => some (entD (s, a))
        | .lst [.int s, .int a] => some (entD (s, a))
        | _ => none) = entsD l := by
        rw [List.filterMap_map]
        refine Eq.trans ?_ (fm_some entD l)
        congr 1
        funext e
        cases b2 <;> rfl
      rw [r2] at r1
      have tu : ∀ (x : List FL.D), gTuple S [.lst x] = some (.tup x) := fun x => rfl
      simp only [sSeq, sNext, sDrop, sRet, sRetN, sIf, sAsg, gN, fVar, fC, fBin, fUn, fBu, fNil, fCons, fTup, fLst, fB, fIf, fNot, fAnd, fOr, fV, fNotV, fAndV, fOrV, fCall, R.bind, R.bindS, R.of, RS.out, gAdd_int, gSub_int, gLt_int, gLe_int, gGt_int, gGe_int, gNeg_int, gEq_int, gNe_int, gI2C_int, gInt_int, gAbs_int, gLen_lst, gLen_tup, List.getElem?_cons_zero, List.getElem?_cons_succ, List.set_cons_zero, List.set_cons_succ, List.append_nil, if_true, if_false, decide_true, decide_false, Int.reduceEq, Int.reduceLT, Int.reduceLE, Int.reduceNeg, Int.reduceAdd, Int.reduceSub, Bool.not_true, Bool.not_false, reduceIte, Bool.false_eq_true, Option.map_some, Option.bind_some, Nat.reduceAdd, gTupF, gsCons, gsNil, seqOf, lisOf, lstOf, List.length_cons, List.length_nil, r1, tu]
end K19
set_option maxRecDepth 100000
set_option maxHeartbeats 2000000
namespace K19
open FL
/-! ### the program's answers -/
abbrev gHold : TGf := gTupF 2 (gsCons (gN 2) (gsCons (gN 3) gsNil))
abbrev bHold : SF := (sIf (fB (fBin (gEq false) (fVar 2) (fVar 1))) (sRet (fVar 3)) sNext)
theorem amt_loop {S : Sto} {x : FL.D} {s : Int} : ∀ (l : List (Int × Int)) (o2 o3 : Option FL.D),
    ((∃ o2' o3', forL (fun d env S => match gHold d env S with
      | some env' => bHold env' S
      | none => .bad) (entsD l) [some x, some (.int s), o2, o3] S = .fl (.nx [some x, some (.int s), o2', o3']) S) ∧ amtV l s = -1 ∧ (l.any fun e => decide (e.1 = s)) = false) ∨
    (forL (fun d env S => match gHold d env S with
      | some env' => bHold env' S
      | none => .bad) (entsD l) [some x, some (.int s), o2, o3] S = .fl (.rt (.int (amtV l s))) S ∧ (∃ e ∈ l, e.1 = s ∧ amtV l s = e.2) ∧ (l.any fun e => decide (e.1 = s)) = true)
  | [], o2, o3 => .inl ⟨⟨o2, o3, rfl⟩, rfl, rfl⟩
  | e :: l, o2, o3 => by
    have ih := amt_loop (S := S) (x := x) (s := s) l (some (.int e.1)) (some (.int e.2))
    have hg : gHold (entD e) [some x, some (.int s), o2, o3] S = some [some x, some (.int s), some (.int e.1), some (.int e.2)] := rfl
    rw [show entsD (e :: l) = entD e :: entsD l from rfl]
    unfold forL
    rw [hg]
    by_cases h : e.1 = s
    · have eb : bHold [some x, some (.int s), some (.int e.1), some (.int e.2)] S = .fl (.rt (.int e.2)) S := by
        unfold bHold
        simp only [sSeq, sNext, sDrop, sRet, sRetN, sIf, sAsg, gN, fVar, fC, fBin, fUn, fBu, fNil, fCons, fTup, fLst, fB, fIf, fNot, fAnd, fOr, fV, fNotV, fAndV, fOrV, fCall, R.bind, R.bindS, R.of, RS.out, gAdd_int, gSub_int, gLt_int, gLe_int, gGt_int, gGe_int, gNeg_int, gEq_int, gNe_int, gI2C_int, gInt_int, gAbs_int, gLen_lst, gLen_tup, List.getElem?_cons_zero, List.getElem?_cons_succ, List.set_cons_zero, List.set_cons_succ, List.append_nil, if_true, if_false, decide_true, decide_false, Int.reduceEq, Int.reduceLT, Int.reduceLE, Int.reduceNeg, Int.reduceAdd, Int.reduceSub, Bool.not_true, Bool.not_false, reduceIte, Bool.false_eq_true, Option.map_some, Option.bind_some, Nat.reduceAdd, gTupF, gsCons, gsNil, seqOf, lisOf, lstOf, List.length_cons, List.length_nil, decide_eq_true h]
      simp only [eb]
      refine .inr ⟨?_, ⟨e, List.mem_cons_self, h, ?_⟩, ?_⟩
      · unfold amtV; rw [if_pos h]
      · unfold amtV; rw [if_pos h]
      · rw [List.any_cons, decide_eq_true h]; rfl
    · have eb : bHold [some x, some (.int s), some (.int e.1), some (.int e.2)] S = .fl (.nx [some x, some (.int s), some (.int e.1), some (.int e.2)]) S := by
        unfold bHold
        simp only [sSeq, sNext, sDrop, sRet, sRetN, sIf, sAsg, gN, fVar, fC, fBin, fUn, fBu, fNil, fCons, fTup, fLst, fB, fIf, fNot, fAnd, fOr, fV, fNotV, fAndV, fOrV, fCall, R.bind, R.bindS, R.of, RS.out, gAdd_int, gSub_int, gLt_int, gLe_int, gGt_int, gGe_int, gNeg_int, gEq_int, gNe_int, gI2C_int, gInt_int, gAbs_int, gLen_lst, gLen_tup, List.getElem?_cons_zero, List.getElem?_cons_succ, List.set_cons_zero, List.set_cons_succ, List.append_nil, if_true, if_false, decide_true, decide_false, Int.reduceEq, Int.reduceLT, Int.reduceLE, Int.reduceNeg, Int.reduceAdd, Int.reduceSub, Bool.not_true, Bool.not_false, reduceIte, Bool.false_eq_true, Option.map_some, Option.bind_some, Nat.reduceAdd, gTupF, gsCons, gsNil, seqOf, lisOf, lstOf, List.length_cons, List.length_nil, decide_eq_false h]
      simp only [eb]
      have ea : amtV (e :: l) s = amtV l s := by
        show (if e.1 = s then e.2 else amtV l s) = _
        rw [if_neg h]
      have ey : ((e :: l).any fun e => decide (e.1 = s)) = l.any fun e => decide (e.1 = s) := by
        rw [List.any_cons, decide_eq_false h]; rfl
      rw [ea, ey]
      rcases ih with ⟨q1, q2, q3⟩ | ⟨q1, ⟨e', he, q2⟩, q3⟩
      · exact .inl ⟨q1, q2, q3⟩
      · exact .inr ⟨q1, ⟨e', List.mem_cons_of_mem _ he, q2⟩, q3⟩
theorem e_amount {S : Sto} {l : List (Int × Int)} {s : Int} : f_p_amount_in [.tup (entsD l), .int s] S = .ok (.int (amtV l s)) S := by
  rw [show f_p_amount_in [.tup (entsD l), .int s] S = (g_p_amount_in [some (.tup (entsD l)), some (.int s), none, none] S).out from rfl]
  unfold g_p_amount_in
  have hs := sFor_fix (fi := iSeq (fVar 0)) (g := gHold) (b := bHold) (env := [some (.tup (entsD l)), some (.int s), none, none]) (S := S) (S1 := S) (ds := entsD l) rfl
  rcases amt_loop (S := S) (x := .tup (entsD l)) (s := s) l none none with ⟨⟨a, b, q⟩, e, _⟩ | ⟨q, _, _⟩
  · rw [seq1 (hs.trans q), e]
    simp only [sSeq, sNext, sDrop, sRet, sRetN, sIf, sAsg, gN, fVar, fC, fBin, fUn, fBu, fNil, fCons, fTup, fLst, fB, fIf, fNot, fAnd, fOr, fV, fNotV, fAndV, fOrV, fCall, R.bind, R.bindS, R.of, RS.out, gAdd_int, gSub_int, gLt_int, gLe_int, gGt_int, gGe_int, gNeg_int, gEq_int, gNe_int, gI2C_int, gInt_int, gAbs_int, gLen_lst, gLen_tup, List.getElem?_cons_zero, List.getElem?_cons_succ, List.set_cons_zero, List.set_cons_succ, List.append_nil, if_true, if_false, decide_true, decide_false, Int.reduceEq, Int.reduceLT, Int.reduceLE, Int.reduceNeg, Int.reduceAdd, Int.reduceSub, Bool.not_true, Bool.not_false, reduceIte, Bool.false_eq_true, Option.map_some, Option.bind_some, Nat.reduceAdd, gTupF, gsCons, gsNil, seqOf, lisOf, lstOf, List.length_cons, List.length_nil]
  · rw [seqR (hs.trans q)]
    rfl
theorem e_least {S : Sto} {l : List (Int × Int)} {p : Int} (hp : 0 < p) (hl : l.length ≤ 1000) : f_p_least_amount [.tup (entsD l), .int p] S = .ok (.int (priceV l p)) S := by
  rw [show f_p_least_amount [.tup (entsD l), .int p] S = (g_p_least_amount [some (.tup (entsD l)), some (.int p), none, none] S).out from rfl]
  unfold g_p_least_amount priceV
  by_cases h : (l.length : Int) < p
  · simp only [sSeq, sNext, sDrop, sRet, sRetN, sIf, sAsg, gN, fVar, fC, fBin, fUn, fBu, fNil, fCons, fTup, fLst, fB, fIf, fNot, fAnd, fOr, fV, fNotV, fAndV, fOrV, fCall, R.bind, R.bindS, R.of, RS.out, gAdd_int, gSub_int, gLt_int, gLe_int, gGt_int, gGe_int, gNeg_int, gEq_int, gNe_int, gI2C_int, gInt_int, gAbs_int, gLen_lst, gLen_tup, List.getElem?_cons_zero, List.getElem?_cons_succ, List.set_cons_zero, List.set_cons_succ, List.append_nil, if_true, if_false, decide_true, decide_false, Int.reduceEq, Int.reduceLT, Int.reduceLE, Int.reduceNeg, Int.reduceAdd, Int.reduceSub, Bool.not_true, Bool.not_false, reduceIte, Bool.false_eq_true, Option.map_some, Option.bind_some, Nat.reduceAdd, gTupF, gsCons, gsNil, seqOf, lisOf, lstOf, List.length_cons, List.length_nil, List.length_map, decide_eq_true h, if_pos h]
  · have e := lc_ents (fi := iSeq (fVar 0)) (g := gTupF 2 (gsCons (gN 2) (gsCons (gN 3) gsNil))) (ft := fYes) (fe := fVar 3) (vs := [2, 3]) (env := [some (.tup (entsD l)), some (.int p), none, none]) (S := S) (l := l) (fun e => some (.int e.2)) rfl hl fun e => rfl
    rw [fm_some] at e
    have ne : l.map (·.2) ≠ [] := fun z => by
      have : l.length = 0 := by rw [← List.length_map (f := (·.2)), z]; rfl
      omega
    obtain ⟨m, hm⟩ := minI_some ne
    have e2 : gMin1 S [.lst (l.map fun e => FL.D.int e.2)] = some (.int m) := gMin1_map (fun e : Int × Int => e.2) hm
    simp only [sSeq, sNext, sDrop, sRet, sRetN, sIf, sAsg, gN, fVar, fC, fBin, fUn, fBu, fNil, fCons, fTup, fLst, fB, fIf, fNot, fAnd, fOr, fV, fNotV, fAndV, fOrV, fCall, R.bind, R.bindS, R.of, RS.out, gAdd_int, gSub_int, gLt_int, gLe_int, gGt_int, gGe_int, gNeg_int, gEq_int, gNe_int, gI2C_int, gInt_int, gAbs_int, gLen_lst, gLen_tup, List.getElem?_cons_zero, List.getElem?_cons_succ, List.set_cons_zero, List.set_cons_succ, List.append_nil, if_true, if_false, decide_true, decide_false, Int.reduceEq, Int.reduceLT, Int.reduceLE, Int.reduceNeg, Int.reduceAdd, Int.reduceSub, Bool.not_true, Bool.not_false, reduceIte, Bool.false_eq_true, Option.map_some, Option.bind_some, Nat.reduceAdd, gTupF, gsCons, gsNil, seqOf, lisOf, lstOf, List.length_cons, List.length_nil, List.length_map, decide_eq_false h, if_neg h, e, e2, hm, Option.getD_some]
def poV : Int → Int → List (Int × Int) → Int
  | o, _, [] => o
  | o, m, e :: r => if e.2 ≤ m then poV e.1 e.2 r else poV o m r
abbrev gPo : TGf := gTupF 2 (gsCons (gN 3) (gsCons (gN 4) gsNil))
abbrev bPo : SF := (sIf (fB (fBin gLe (fVar 4) (fVar 2))) (sPar 1 2 (fCons (fVar 3) (fCons (fVar 4) fNil))) sNext)
theorem po_loop {S : Sto} {x : FL.D} : ∀ (l : List (Int × Int)) (o m : Int) (o3 o4 : Option FL.D), ∃ m' o3' o4', forL (fun d env S => match gPo d env S with
      | some env' => bPo env' S
      | none => .bad) (entsD l) [some x, some (.int o), some (.int m), o3, o4] S = .fl (.nx [some x, some (.int (poV o m l)), some (.int m'), o3', o4']) S
  | [], o, m, o3, o4 => ⟨m, o3, o4, rfl⟩
  | e :: l, o, m, o3, o4 => by
    have hg : gPo (entD e) [some x, some (.int o), some (.int m), o3, o4] S = some [some x, some (.int o), some (.int m), some (.int e.1), some (.int e.2)] := rfl
    rw [show entsD (e :: l) = entD e :: entsD l from rfl]
    unfold forL
    rw [hg]
    show ∃ m' o3' o4', _ = RS.fl (.nx [some x, some (.int (if e.2 ≤ m then poV e.1 e.2 l else poV o m l)), some (.int m'), o3', o4']) S
    by_cases h : e.2 ≤ m
    · have eb : bPo [some x, some (.int o), some (.int m), some (.int e.1), some (.int e.2)] S = .fl (.nx [some x, some (.int e.1), some (.int e.2), some (.int e.1), some (.int e.2)]) S := by
        unfold bPo
        simp only [sSeq, sNext, sDrop, sRet, sRetN, sIf, sAsg, gN, fVar, fC, fBin, fUn, fBu, fNil, fCons, fTup, fLst, fB, fIf, fNot, fAnd, fOr, fV, fNotV, fAndV, fOrV, fCall, R.bind, R.bindS, R.of, RS.out, gAdd_int, gSub_int, gLt_int, gLe_int, gGt_int, gGe_int, gNeg_int, gEq_int, gNe_int, gI2C_int, gInt_int, gAbs_int, gLen_lst, gLen_tup, List.getElem?_cons_zero, List.getElem?_cons_succ, List.set_cons_zero, List.set_cons_succ, List.append_nil, if_true, if_false, decide_true, decide_false, Int.reduceEq, Int.reduceLT, Int.reduceLE, Int.reduceNeg, Int.reduceAdd, Int.reduceSub, Bool.not_true, Bool.not_false, reduceIte, Bool.false_eq_true, Option.map_some, Option.bind_some, Nat.reduceAdd, gTupF, gsCons, gsNil, seqOf, lisOf, lstOf, List.length_cons, List.length_nil, decide_eq_true h, sPar]
      simp only [eb]
      rw [if_pos h]
      exact po_loop l e.1 e.2 _ _
    · have eb : bPo [some x, some (.int o), some (.int m), some (.int e.1), some (.int e.2)] S = .fl (.nx [some x, some (.int o), some (.int m), some (.int e.1), some (.int e.2)]) S := by
        unfold bPo
        simp only [sSeq, sNext, sDrop, sRet, sRetN, sIf, sAsg, gN, fVar, fC, fBin, fUn, fBu, fNil, fCons, fTup, fLst, fB, fIf, fNot, fAnd, fOr, fV, fNotV, fAndV, fOrV, fCall, R.bind, R.bindS, R.of, RS.out, gAdd_int, gSub_int, gLt_int, gLe_int, gGt_int, gGe_int, gNeg_int, gEq_int, gNe_int, gI2C_int, gInt_int, gAbs_int, gLen_lst, gLen_tup, List.getElem?_cons_zero, List.getElem?_cons_succ, List.set_cons_zero, List.set_cons_succ, List.append_nil, if_true, if_false, decide_true, decide_false, Int.reduceEq, Int.reduceLT, Int.reduceLE, Int.reduceNeg, Int.reduceAdd, Int.reduceSub, Bool.not_true, Bool.not_false, reduceIte, Bool.false_eq_true, Option.map_some, Option.bind_some, Nat.reduceAdd, gTupF, gsCons, gsNil, seqOf, lisOf, lstOf, List.length_cons, List.length_nil, decide_eq_false h]
      simp only [eb]
      rw [if_neg h]
      exact po_loop l o m _ _
theorem e_putout {S : Sto} {e : Int × Int} {l : List (Int × Int)} : f_p_put_out [.tup (entsD (e :: l))] S = .ok (.int (poV e.1 e.2 (e :: l))) S := by
  rw [show f_p_put_out [.tup (entsD (e :: l))] S = (g_p_put_out [some (.tup (entsD (e :: l))), none, none, none, none] S).out from rfl]
  unfold g_p_put_out
  have z : gIx S (.tup (entsD (e :: l))) (.int 0) = some (entD e) := gIx_tup (k := 0) rfl
  rw [seq1 (env' := [some (.tup (entsD (e :: l))), some (.int e.1), some (.int e.2), none, none]) (S' := S) (by simp only [sSeq, sNext, sDrop, sRet, sRetN, sIf, sAsg, gN, fVar, fC, fBin, fUn, fBu, fNil, fCons, fTup, fLst, fB, fIf, fNot, fAnd, fOr, fV, fNotV, fAndV, fOrV, fCall, R.bind, R.bindS, R.of, RS.out, gAdd_int, gSub_int, gLt_int, gLe_int, gGt_int, gGe_int, gNeg_int, gEq_int, gNe_int, gI2C_int, gInt_int, gAbs_int, gLen_lst, gLen_tup, List.getElem?_cons_zero, List.getElem?_cons_succ, List.set_cons_zero, List.set_cons_succ, List.append_nil, if_true, if_false, decide_true, decide_false, Int.reduceEq, Int.reduceLT, Int.reduceLE, Int.reduceNeg, Int.reduceAdd, Int.reduceSub, Bool.not_true, Bool.not_false, reduceIte, Bool.false_eq_true, Option.map_some, Option.bind_some, Nat.reduceAdd, gTupF, gsCons, gsNil, seqOf, lisOf, lstOf, List.length_cons, List.length_nil, z])]
  obtain ⟨m', o3, o4, q⟩ := po_loop (S := S) (x := .tup (entsD (e :: l))) (e :: l) e.1 e.2 none none
  have hs := sFor_fix (fi := iSeq (fVar 0)) (g := gPo) (b := bPo) (env := [some (.tup (entsD (e :: l))), some (.int e.1), some (.int e.2), none, none]) (S := S) (S1 := S) (ds := entsD (e :: l)) rfl
  rw [seq1 (hs.trans q)]
  simp only [sSeq, sNext, sDrop, sRet, sRetN, sIf, sAsg, gN, fVar, fC, fBin, fUn, fBu, fNil, fCons, fTup, fLst, fB, fIf, fNot, fAnd, fOr, fV, fNotV, fAndV, fOrV, fCall, R.bind, R.bindS, R.of, RS.out, gAdd_int, gSub_int, gLt_int, gLe_int, gGt_int, gGe_int, gNeg_int, gEq_int, gNe_int, gI2C_int, gInt_int, gAbs_int, gLen_lst, gLen_tup, List.getElem?_cons_zero, List.getElem?_cons_succ, List.set_cons_zero, List.set_cons_succ, List.append_nil, if_true, if_false, decide_true, decide_false, Int.reduceEq, Int.reduceLT, Int.reduceLE, Int.reduceNeg, Int.reduceAdd, Int.reduceSub, Bool.not_true, Bool.not_false, reduceIte, Bool.false_eq_true, Option.map_some, Option.bind_some, Nat.reduceAdd, gTupF, gsCons, gsNil, seqOf, lisOf, lstOf, List.length_cons, List.length_nil]
theorem e_with {S : Sto} {x : FL.D} {l : List (Int × Int)} {s a : Int} (hx : srcOf S x = some (.fix (entsD l))) (hl : l.length ≤ 1000) : f_p_with_entry [x, .int s, .int a] S = .ok (.tup (entsD (putV l s a))) S := by
  rw [show f_p_with_entry [x, .int s, .int a] S = (g_p_with_entry [some x, some (.int s), some (.int a), none, none, none] S).out from rfl]
  unfold g_p_with_entry
  have r2 := lc_ents (fi := iSeq (fVar 0)) (g := gN 5) (ft := fB (fBin gLt (fBin gIx (fVar 5) (fC (.int 0))) (fVar 1))) (fe := fVar 5) (vs := [5]) (env := [some x, some (.int s), some (.int a), none, none, none]) (S := S) (l := l) (fun e => if decide (e.1 < s) = true then some (entD e) else none) (by unfold iSeq; simp only [sSeq, sNext, sDrop, sRet, sRetN, sIf, sAsg, gN, fVar, fC, fBin, fUn, fBu, fNil, fCons, fTup, fLst, fB, fIf, fNot, fAnd, fOr, fV, fNotV, fAndV, fOrV, fCall, R.bind, R.bindS, R.of, RS.out, gAdd_int, gSub_int, gLt_int, gLe_int, gGt_int, gGe_int, gNeg_int, gEq_int, gNe_int, gI2C_int, gInt_int, gAbs_int, gLen_lst, gLen_tup, List.getElem?_cons_zero, List.getElem?_cons_succ, List.set_cons_zero, List.set_cons_succ, List.append_nil, if_true, if_false, decide_true, decide_false, Int.reduceEq, Int.reduceLT, Int.reduceLE, Int.reduceNeg, Int.reduceAdd, Int.reduceSub, Bool.not_true, Bool.not_false, reduceIte, Bool.false_eq_true, Option.map_some, Option.bind_some, Nat.reduceAdd, gTupF, gsCons, gsNil, seqOf, lisOf, lstOf, List.length_cons, List.length_nil, hx]) (by omega) fun e => by
          have z : gIx S (entD e) (.int 0) = some (.int e.1) := rfl
          unfold lcBody
          simp only [sSeq, sNext, sDrop, sRet, sRetN, sIf, sAsg, gN, fVar, fC, fBin, fUn, fBu, fNil, fCons, fTup, fLst, fB, fIf, fNot, fAnd, fOr, fV, fNotV, fAndV, fOrV, fCall, R.bind, R.bindS, R.of, RS.out, gAdd_int, gSub_int, gLt_int, gLe_int, gGt_int, gGe_int, gNeg_int, gEq_int, gNe_int, gI2C_int, gInt_int, gAbs_int, gLen_lst, gLen_tup, List.getElem?_cons_zero, List.getElem?_cons_succ, List.set_cons_zero, List.set_cons_succ, List.append_nil, if_true, if_false, decide_true, decide_false, Int.reduceEq, Int.reduceLT, Int.reduceLE, Int.reduceNeg, Int.reduceAdd, Int.reduceSub, Bool.not_true, Bool.not_false, reduceIte, Bool.false_eq_true, Option.map_some, Option.bind_some, Nat.reduceAdd, gTupF, gsCons, gsNil, seqOf, lisOf, lstOf, List.length_cons, List.length_nil, wipeE, z, R.noX]
          cases decide (e.1 < s) <;> rfl
  rw [fm_if] at r2
  have r3 := lc_ents (fi := iSeq (fVar 0)) (g := gN 5) (ft := fB (fBin gGt (fBin gIx (fVar 5) (fC (.int 0))) (fVar 1))) (fe := fVar 5) (vs := [5]) (env := [some x, some (.int s), some (.int a), some (.lst (entsD (l.filter fun e => decide (e.1 < s)))), none, none]) (S := S) (l := l) (fun e => if decide (s < e.1) = true then some (entD e) else none) (by unfold iSeq; simp only [sSeq, sNext, sDrop, sRet, sRetN, sIf, sAsg, gN, fVar, fC, fBin, fUn, fBu, fNil, fCons, fTup, fLst, fB, fIf, fNot, fAnd, fOr, fV, fNotV, fAndV, fOrV, fCall, R.bind, R.bindS, R.of, RS.out, gAdd_int, gSub_int, gLt_int, gLe_int, gGt_int, gGe_int, gNeg_int, gEq_int, gNe_int, gI2C_int, gInt_int, gAbs_int, gLen_lst, gLen_tup, List.getElem?_cons_zero, List.getElem?_cons_succ, List.set_cons_zero, List.set_cons_succ, List.append_nil, if_true, if_false, decide_true, decide_false, Int.reduceEq, Int.reduceLT, Int.reduceLE, Int.reduceNeg, Int.reduceAdd, Int.reduceSub, Bool.not_true, Bool.not_false, reduceIte, Bool.false_eq_true, Option.map_some, Option.bind_some, Nat.reduceAdd, gTupF, gsCons, gsNil, seqOf, lisOf, lstOf, List.length_cons, List.length_nil, hx]) (by omega) fun e => by
          have z : gIx S (entD e) (.int 0) = some (.int e.1) := rfl
          unfold lcBody
          simp only [sSeq, sNext, sDrop, sRet, sRetN, sIf, sAsg, gN, fVar, fC, fBin, fUn, fBu, fNil, fCons, fTup, fLst, fB, fIf, fNot, fAnd, fOr, fV, fNotV, fAndV, fOrV, fCall, R.bind, R.bindS, R.of, RS.out, gAdd_int, gSub_int, gLt_int, gLe_int, gGt_int, gGe_int, gNeg_int, gEq_int, gNe_int, gI2C_int, gInt_int, gAbs_int, gLen_lst, gLen_tup, List.getElem?_cons_zero, List.getElem?_cons_succ, List.set_cons_zero, List.set_cons_succ, List.append_nil, if_true, if_false, decide_true, decide_false, Int.reduceEq, Int.reduceLT, Int.reduceLE, Int.reduceNeg, Int.reduceAdd, Int.reduceSub, Bool.not_true, Bool.not_false, reduceIte, Bool.false_eq_true, Option.map_some, Option.bind_some, Nat.reduceAdd, gTupF, gsCons, gsNil, seqOf, lisOf, lstOf, List.length_cons, List.length_nil, wipeE, z, R.noX]
          cases decide (s < e.1) <;> rfl
  rw [fm_if] at r3
  have f1 := List.length_filter_le (fun e : Int × Int => decide (e.1 < s)) l
  have f2 := List.length_filter_le (fun e : Int × Int => decide (s < e.1)) l
  have c1 : gAdd S (.lst (entsD (l.filter fun e => decide (e.1 < s)))) (.lst [entD (s, a)]) = some (.lst (entsD ((l.filter fun e => decide (e.1 < s)) ++ [(s, a)]))) := cat_ents (b := [(s, a)]) (by show _ + 1 ≤ _; omega)
  have c2 : gAdd S (.lst (entsD ((l.filter fun e => decide (e.1 < s)) ++ [(s, a)]))) (.lst (entsD (l.filter fun e => decide (s < e.1)))) = some (.lst (entsD (putV l s a))) := cat_ents (by rw [List.length_append]; show _ + 1 + _ ≤ _; omega)
  have tu : ∀ (x : List FL.D), gTuple S [.lst x] = some (.tup x) := fun x => rfl
  simp only [sSeq, sNext, sDrop, sRet, sRetN, sIf, sAsg, gN, fVar, fC, fBin, fUn, fBu, fNil, fCons, fTup, fLst, fB, fIf, fNot, fAnd, fOr, fV, fNotV, fAndV, fOrV, fCall, R.bind, R.bindS, R.of, RS.out, gAdd_int, gSub_int, gLt_int, gLe_int, gGt_int, gGe_int, gNeg_int, gEq_int, gNe_int, gI2C_int, gInt_int, gAbs_int, gLen_lst, gLen_tup, List.getElem?_cons_zero, List.getElem?_cons_succ, List.set_cons_zero, List.set_cons_succ, List.append_nil, if_true, if_false, decide_true, decide_false, Int.reduceEq, Int.reduceLT, Int.reduceLE, Int.reduceNeg, Int.reduceAdd, Int.reduceSub, Bool.not_true, Bool.not_false, reduceIte, Bool.false_eq_true, Option.map_some, Option.bind_some, Nat.reduceAdd, gTupF, gsCons, gsNil, seqOf, lisOf, lstOf, List.length_cons, List.length_nil, r2, r3, c1, c2, tu]
def outP : List (Int × Int) → Int
  | [] => -1
  | e :: l => poV e.1 e.2 (e :: l)
def takeV (l : List (Int × Int)) (p s a : Int) : String × List (Int × Int) × Int :=
  if amtV l s ≠ -1 then ("held", l, -1)
  else if a ≤ priceV l p then ("low", l, -1)
  else if (l.length : Int) < p then ("taken", putV l s a, -1)
  else ("taken", putV (l.filter fun e => !decide (e.1 = outP l)) s a, outP l)
variable {c : String → PySem.Addr}
theorem fv_snoc (x : List Look) (k : Look) : firstV (x ++ [k]) = match firstV x with
    | some r => some r
    | none => if badB k = true then some (k.1, k.2.1) else none := by
  rw [firstV_append]
  rfl
/-- one more look of the program -/
theorem st_within {S : Sto} {env : FL.Env} {fs : Fa} {rest : SF} {k : Look} (h : fs env S = .ok [wordD k.1, .int k.2.1, .int k.2.2.1, .int k.2.2.2] S) :
    sSeq (sDrop (fCall (f_within c) [] fs)) rest env S = if badB k = true then .exc env (c "OutOfRange") (excF (k.1, k.2.1)) S else rest env S := by
  have d : sDrop (fCall (f_within c) [] fs) env S = (if badB k = true then excR c (k.1, k.2.1) S else .ok .non S).bindS env fun _ S1 => .fl (.nx env) S1 := by
    unfold sDrop fCall
    rw [h]
    show (f_within c ([wordD k.1, .int k.2.1, .int k.2.2.1, .int k.2.2.2] ++ []) S).bindS env _ = _
    rw [List.append_nil, e_within]
  by_cases hb : badB k = true
  · rw [if_pos hb] at d ⊢
    exact seqX d
  · rw [if_neg hb] at d ⊢
    exact seq1 d
theorem e_take {S : Sto} {b1 b2 : Bool} {l : List (Int × Int)} {p s a : Int} (hn : l.length ≤ 900) : f_take c [gvD b1 b2 l, .int p, .int s, .int a] S = match w0 l p s a with
    | some r => excR c r S
    | none => .ok (takenD (takeV l p s a)) S := by
  rw [show f_take c [gvD b1 b2 l, .int p, .int s, .int a] S = (g_take c [some (gvD b1 b2 l), some (.int p), some (.int s), some (.int a), none, none, none, none] S).out from rfl]
  unfold g_take
  have hl := e_look (c := c) (S := S) (b1 := b1) (b2 := b2) hn
  unfold w0
  rw [fv_snoc, fv_snoc, fv_snoc, fv_snoc]
  cases hf : firstV (lkV l) with
  | some r =>
    rw [hf] at hl
    rw [seqX (env' := [some (gvD b1 b2 l), some (.int p), some (.int s), some (.int a), none, none, none, none]) (C := c "OutOfRange") (fs := excF r) (S' := S) (by simp only [sSeq, sNext, sDrop, sRet, sRetN, sIf, sAsg, gN, fVar, fC, fBin, fUn, fBu, fNil, fCons, fTup, fLst, fB, fIf, fNot, fAnd, fOr, fV, fNotV, fAndV, fOrV, fCall, R.bind, R.bindS, R.of, RS.out, gAdd_int, gSub_int, gLt_int, gLe_int, gGt_int, gGe_int, gNeg_int, gEq_int, gNe_int, gI2C_int, gInt_int, gAbs_int, gLen_lst, gLen_tup, List.getElem?_cons_zero, List.getElem?_cons_succ, List.set_cons_zero, List.set_cons_succ, List.append_nil, if_true, if_false, decide_true, decide_false, Int.reduceEq, Int.reduceLT, Int.reduceLE, Int.reduceNeg, Int.reduceAdd, Int.reduceSub, Bool.not_true, Bool.not_false, reduceIte, Bool.false_eq_true, Option.map_some, Option.bind_some, Nat.reduceAdd, gTupF, gsCons, gsNil, seqOf, lisOf, lstOf, List.length_cons, List.length_nil, hl])]
    rfl
  | none =>
    rw [hf] at hl
    rw [seq1 (env' := [some (gvD b1 b2 l), some (.int p), some (.int s), some (.int a), some (.tup (entsD l)), none, none, none]) (S' := S) (by simp only [sSeq, sNext, sDrop, sRet, sRetN, sIf, sAsg, gN, fVar, fC, fBin, fUn, fBu, fNil, fCons, fTup, fLst, fB, fIf, fNot, fAnd, fOr, fV, fNotV, fAndV, fOrV, fCall, R.bind, R.bindS, R.of, RS.out, gAdd_int, gSub_int, gLt_int, gLe_int, gGt_int, gGe_int, gNeg_int, gEq_int, gNe_int, gI2C_int, gInt_int, gAbs_int, gLen_lst, gLen_tup, List.getElem?_cons_zero, List.getElem?_cons_succ, List.set_cons_zero, List.set_cons_succ, List.append_nil, if_true, if_false, decide_true, decide_false, Int.reduceEq, Int.reduceLT, Int.reduceLE, Int.reduceNeg, Int.reduceAdd, Int.reduceSub, Bool.not_true, Bool.not_false, reduceIte, Bool.false_eq_true, Option.map_some, Option.bind_some, Nat.reduceAdd, gTupF, gsCons, gsNil, seqOf, lisOf, lstOf, List.length_cons, List.length_nil, hl])]
    rw [st_within (k := kPlc p) (by simp only [sSeq, sNext, sDrop, sRet, sRetN, sIf, sAsg, gN, fVar, fC, fBin, fUn, fBu, fNil, fCons, fTup, fLst, fB, fIf, fNot, fAnd, fOr, fV, fNotV, fAndV, fOrV, fCall, R.bind, R.bindS, R.of, RS.out, gAdd_int, gSub_int, gLt_int, gLe_int, gGt_int, gGe_int, gNeg_int, gEq_int, gNe_int, gI2C_int, gInt_int, gAbs_int, gLen_lst, gLen_tup, List.getElem?_cons_zero, List.getElem?_cons_succ, List.set_cons_zero, List.set_cons_succ, List.append_nil, if_true, if_false, decide_true, decide_false, Int.reduceEq, Int.reduceLT, Int.reduceLE, Int.reduceNeg, Int.reduceAdd, Int.reduceSub, Bool.not_true, Bool.not_false, reduceIte, Bool.false_eq_true, Option.map_some, Option.bind_some, Nat.reduceAdd, gTupF, gsCons, gsNil, seqOf, lisOf, lstOf, List.length_cons, List.length_nil])]
    by_cases h1 : badB (kPlc p) = true
    · rw [if_pos h1, if_pos h1]
      rfl
    · rw [if_neg h1, if_neg h1]
      rw [st_within (k := kSeek s) (by simp only [sSeq, sNext, sDrop, sRet, sRetN, sIf, sAsg, gN, fVar, fC, fBin, fUn, fBu, fNil, fCons, fTup, fLst, fB, fIf, fNot, fAnd, fOr, fV, fNotV, fAndV, fOrV, fCall, R.bind, R.bindS, R.of, RS.out, gAdd_int, gSub_int, gLt_int, gLe_int, gGt_int, gGe_int, gNeg_int, gEq_int, gNe_int, gI2C_int, gInt_int, gAbs_int, gLen_lst, gLen_tup, List.getElem?_cons_zero, List.getElem?_cons_succ, List.set_cons_zero, List.set_cons_succ, List.append_nil, if_true, if_false, decide_true, decide_false, Int.reduceEq, Int.reduceLT, Int.reduceLE, Int.reduceNeg, Int.reduceAdd, Int.reduceSub, Bool.not_true, Bool.not_false, reduceIte, Bool.false_eq_true, Option.map_some, Option.bind_some, Nat.reduceAdd, gTupF, gsCons, gsNil, seqOf, lisOf, lstOf, List.length_cons, List.length_nil])]
      by_cases h2 : badB (kSeek s) = true
      · rw [if_pos h2]
        simp only [if_pos h2]
        rfl
      · rw [if_neg h2]
        simp only [if_neg h2]
        rw [st_within (k := kAmt a) (by simp only [sSeq, sNext, sDrop, sRet, sRetN, sIf, sAsg, gN, fVar, fC, fBin, fUn, fBu, fNil, fCons, fTup, fLst, fB, fIf, fNot, fAnd, fOr, fV, fNotV, fAndV, fOrV, fCall, R.bind, R.bindS, R.of, RS.out, gAdd_int, gSub_int, gLt_int, gLe_int, gGt_int, gGe_int, gNeg_int, gEq_int, gNe_int, gI2C_int, gInt_int, gAbs_int, gLen_lst, gLen_tup, List.getElem?_cons_zero, List.getElem?_cons_succ, List.set_cons_zero, List.set_cons_succ, List.append_nil, if_true, if_false, decide_true, decide_false, Int.reduceEq, Int.reduceLT, Int.reduceLE, Int.reduceNeg, Int.reduceAdd, Int.reduceSub, Bool.not_true, Bool.not_false, reduceIte, Bool.false_eq_true, Option.map_some, Option.bind_some, Nat.reduceAdd, gTupF, gsCons, gsNil, seqOf, lisOf, lstOf, List.length_cons, List.length_nil])]
        by_cases h3 : badB (kAmt a) = true
        · rw [if_pos h3]
          simp only [if_pos h3]
          rfl
        · rw [if_neg h3]
          simp only [if_neg h3]
          rw [st_within (k := kFit l p) (by simp only [sSeq, sNext, sDrop, sRet, sRetN, sIf, sAsg, gN, fVar, fC, fBin, fUn, fBu, fNil, fCons, fTup, fLst, fB, fIf, fNot, fAnd, fOr, fV, fNotV, fAndV, fOrV, fCall, R.bind, R.bindS, R.of, RS.out, gAdd_int, gSub_int, gLt_int, gLe_int, gGt_int, gGe_int, gNeg_int, gEq_int, gNe_int, gI2C_int, gInt_int, gAbs_int, gLen_lst, gLen_tup, List.getElem?_cons_zero, List.getElem?_cons_succ, List.set_cons_zero, List.set_cons_succ, List.append_nil, if_true, if_false, decide_true, decide_false, Int.reduceEq, Int.reduceLT, Int.reduceLE, Int.reduceNeg, Int.reduceAdd, Int.reduceSub, Bool.not_true, Bool.not_false, reduceIte, Bool.false_eq_true, Option.map_some, Option.bind_some, Nat.reduceAdd, gTupF, gsCons, gsNil, seqOf, lisOf, lstOf, List.length_cons, List.length_nil, List.length_map])]
          by_cases h4 : badB (kFit l p) = true
          · rw [if_pos h4]
            simp only [if_pos h4]
            rfl
          · rw [if_neg h4]
            simp only [if_neg h4]
            have hp : 0 < p := plc_pos (by simpa using h1)
            have ha := e_amount (S := S) (l := l) (s := s)
            have hr := e_least (S := S) (l := l) hp (by omega)
            unfold takeV
            by_cases k1 : amtV l s = -1
            · rw [if_neg (by simpa using k1)]
              rw [seq1 (env' := [some (gvD b1 b2 l), some (.int p), some (.int s), some (.int a), some (.tup (entsD l)), none, none, none]) (S' := S) (by simp only [sSeq, sNext, sDrop, sRet, sRetN, sIf, sAsg, gN, fVar, fC, fBin, fUn, fBu, fNil, fCons, fTup, fLst, fB, fIf, fNot, fAnd, fOr, fV, fNotV, fAndV, fOrV, fCall, R.bind, R.bindS, R.of, RS.out, gAdd_int, gSub_int, gLt_int, gLe_int, gGt_int, gGe_int, gNeg_int, gEq_int, gNe_int, gI2C_int, gInt_int, gAbs_int, gLen_lst, gLen_tup, List.getElem?_cons_zero, List.getElem?_cons_succ, List.set_cons_zero, List.set_cons_succ, List.append_nil, if_true, if_false, decide_true, decide_false, Int.reduceEq, Int.reduceLT, Int.reduceLE, Int.reduceNeg, Int.reduceAdd, Int.reduceSub, Bool.not_true, Bool.not_false, reduceIte, Bool.false_eq_true, Option.map_some, Option.bind_some, Nat.reduceAdd, gTupF, gsCons, gsNil, seqOf, lisOf, lstOf, List.length_cons, List.length_nil, ha, decide_eq_true k1])]
              by_cases k2 : a ≤ priceV l p
              · rw [if_pos k2]
                rw [seqR (d := takenD ("low", l, -1)) (S' := S) (by simp only [sSeq, sNext, sDrop, sRet, sRetN, sIf, sAsg, gN, fVar, fC, fBin, fUn, fBu, fNil, fCons, fTup, fLst, fB, fIf, fNot, fAnd, fOr, fV, fNotV, fAndV, fOrV, fCall, R.bind, R.bindS, R.of, RS.out, gAdd_int, gSub_int, gLt_int, gLe_int, gGt_int, gGe_int, gNeg_int, gEq_int, gNe_int, gI2C_int, gInt_int, gAbs_int, gLen_lst, gLen_tup, List.getElem?_cons_zero, List.getElem?_cons_succ, List.set_cons_zero, List.set_cons_succ, List.append_nil, if_true, if_false, decide_true, decide_false, Int.reduceEq, Int.reduceLT, Int.reduceLE, Int.reduceNeg, Int.reduceAdd, Int.reduceSub, Bool.not_true, Bool.not_false, reduceIte, Bool.false_eq_true, Option.map_some, Option.bind_some, Nat.reduceAdd, gTupF, gsCons, gsNil, seqOf, lisOf, lstOf, List.length_cons, List.length_nil, hr, decide_eq_true k2])]
                rfl
              · rw [if_neg k2]
                rw [seq1 (env' := [some (gvD b1 b2 l), some (.int p), some (.int s), some (.int a), some (.tup (entsD l)), none, none, none]) (S' := S) (by simp only [sSeq, sNext, sDrop, sRet, sRetN, sIf, sAsg, gN, fVar, fC, fBin, fUn, fBu, fNil, fCons, fTup, fLst, fB, fIf, fNot, fAnd, fOr, fV, fNotV, fAndV, fOrV, fCall, R.bind, R.bindS, R.of, RS.out, gAdd_int, gSub_int, gLt_int, gLe_int, gGt_int, gGe_int, gNeg_int, gEq_int, gNe_int, gI2C_int, gInt_int, gAbs_int, gLen_lst, gLen_tup, List.getElem?_cons_zero, List.getElem?_cons_succ, List.set_cons_zero, List.set_cons_succ, List.append_nil, if_true, if_false, decide_true, decide_false, Int.reduceEq, Int.reduceLT, Int.reduceLE, Int.reduceNeg, Int.reduceAdd, Int.reduceSub, Bool.not_true, Bool.not_false, reduceIte, Bool.false_eq_true, Option.map_some, Option.bind_some, Nat.reduceAdd, gTupF, gsCons, gsNil, seqOf, lisOf, lstOf, List.length_cons, List.length_nil, hr, decide_eq_false k2])]
                by_cases k3 : (l.length : Int) < p
                · rw [if_pos k3]
                  have hw := e_with (S := S) (x := .tup (entsD l)) (l := l) (s := s) (a := a) rfl (by omega)
                  rw [seqR (d := takenD ("taken", putV l s a, -1)) (S' := S) (by simp only [sSeq, sNext, sDrop, sRet, sRetN, sIf, sAsg, gN, fVar, fC, fBin, fUn, fBu, fNil, fCons, fTup, fLst, fB, fIf, fNot, fAnd, fOr, fV, fNotV, fAndV, fOrV, fCall, R.bind, R.bindS, R.of, RS.out, gAdd_int, gSub_int, gLt_int, gLe_int, gGt_int, gGe_int, gNeg_int, gEq_int, gNe_int, gI2C_int, gInt_int, gAbs_int, gLen_lst, gLen_tup, List.getElem?_cons_zero, List.getElem?_cons_succ, List.set_cons_zero, List.set_cons_succ, List.append_nil, if_true, if_false, decide_true, decide_false, Int.reduceEq, Int.reduceLT, Int.reduceLE, Int.reduceNeg, Int.reduceAdd, Int.reduceSub, Bool.not_true, Bool.not_false, reduceIte, Bool.false_eq_true, Option.map_some, Option.bind_some, Nat.reduceAdd, gTupF, gsCons, gsNil, seqOf, lisOf, lstOf, List.length_cons, List.length_nil, List.length_map, decide_eq_true k3, hw])]
                  rfl
                · rw [if_neg k3]
                  rw [seq1 (env' := [some (gvD b1 b2 l), some (.int p), some (.int s), some (.int a), some (.tup (entsD l)), none, none, none]) (S' := S) (by simp only [sSeq, sNext, sDrop, sRet, sRetN, sIf, sAsg, gN, fVar, fC, fBin, fUn, fBu, fNil, fCons, fTup, fLst, fB, fIf, fNot, fAnd, fOr, fV, fNotV, fAndV, fOrV, fCall, R.bind, R.bindS, R.of, RS.out, gAdd_int, gSub_int, gLt_int, gLe_int, gGt_int, gGe_int, gNeg_int, gEq_int, gNe_int, gI2C_int, gInt_int, gAbs_int, gLen_lst, gLen_tup, List.getElem?_cons_zero, List.getElem?_cons_succ, List.set_cons_zero, List.set_cons_succ, List.append_nil, if_true, if_false, decide_true, decide_false, Int.reduceEq, Int.reduceLT, Int.reduceLE, Int.reduceNeg, Int.reduceAdd, Int.reduceSub, Bool.not_true, Bool.not_false, reduceIte, Bool.false_eq_true, Option.map_some, Option.bind_some, Nat.reduceAdd, gTupF, gsCons, gsNil, seqOf, lisOf, lstOf, List.length_cons, List.length_nil, List.length_map, decide_eq_false k3])]
                  cases l with
                  | nil => exact absurd hp (by have : ¬ ((0 : Nat) : Int) < p := k3; omega)
                  | cons e l =>
                    have ho : f_p_put_out [.tup (entsD (e :: l))] S = .ok (.int (outP (e :: l))) S := e_putout
                    have fl := List.length_filter_le (fun x : Int × Int => !decide (x.1 = outP (e :: l))) (e :: l)
                    have r1 := lc_ents (fi := iSeq (fVar 4)) (g := gN 7) (ft := fB (fBin (gEq true) (fBin gIx (fVar 7) (fC (.int 0))) (fVar 5))) (fe := fVar 7) (vs := [7]) (env := [some (gvD b1 b2 (e :: l)), some (.int p), some (.int s), some (.int a), some (.tup (entsD (e :: l))), some (.int (outP (e :: l))), none, none]) (S := S) (l := e :: l) (fun x => if (!decide (x.1 = outP (e :: l))) = true then some (entD x) else none) rfl (by omega) fun x => by
                      have z : gIx S (entD x) (.int 0) = some (.int x.1) := rfl
                      unfold lcBody
                      simp only [sSeq, sNext, sDrop, sRet, sRetN, sIf, sAsg, gN, fVar, fC, fBin, fUn, fBu, fNil, fCons, fTup, fLst, fB, fIf, fNot, fAnd, fOr, fV, fNotV, fAndV, fOrV, fCall, R.bind, R.bindS, R.of, RS.out, gAdd_int, gSub_int, gLt_int, gLe_int, gGt_int, gGe_int, gNeg_int, gEq_int, gNe_int, gI2C_int, gInt_int, gAbs_int, gLen_lst, gLen_tup, List.getElem?_cons_zero, List.getElem?_cons_succ, List.set_cons_zero, List.set_cons_succ, List.append_nil, if_true, if_false, decide_true, decide_false, Int.reduceEq, Int.reduceLT, Int.reduceLE, Int.reduceNeg, Int.reduceAdd, Int.reduceSub, Bool.not_true, Bool.not_false, reduceIte, Bool.false_eq_true, Option.map_some, Option.bind_some, Nat.reduceAdd, gTupF, gsCons, gsNil, seqOf, lisOf, lstOf, List.length_cons, List.length_nil, wipeE, z, R.noX]
                      cases decide (x.1 = outP (e :: l)) <;> rfl
                    rw [fm_if] at r1
                    have hw := e_with (S := S) (x := .lst (entsD ((e :: l).filter fun x => !decide (x.1 = outP (e :: l))))) (l := (e :: l).filter fun x => !decide (x.1 = outP (e :: l))) (s := s) (a := a) rfl (by omega)
                    rw [seq1 (env' := [some (gvD b1 b2 (e :: l)), some (.int p), some (.int s), some (.int a), some (.tup (entsD (e :: l))), some (.int (outP (e :: l))), none, none]) (S' := S) (by simp only [sSeq, sNext, sDrop, sRet, sRetN, sIf, sAsg, gN, fVar, fC, fBin, fUn, fBu, fNil, fCons, fTup, fLst, fB, fIf, fNot, fAnd, fOr, fV, fNotV, fAndV, fOrV, fCall, R.bind, R.bindS, R.of, RS.out, gAdd_int, gSub_int, gLt_int, gLe_int, gGt_int, gGe_int, gNeg_int, gEq_int, gNe_int, gI2C_int, gInt_int, gAbs_int, gLen_lst, gLen_tup, List.getElem?_cons_zero, List.getElem?_cons_succ, List.set_cons_zero, List.set_cons_succ, List.append_nil, if_true, if_false, decide_true, decide_false, Int.reduceEq, Int.reduceLT, Int.reduceLE, Int.reduceNeg, Int.reduceAdd, Int.reduceSub, Bool.not_true, Bool.not_false, reduceIte, Bool.false_eq_true, Option.map_some, Option.bind_some, Nat.reduceAdd, gTupF, gsCons, gsNil, seqOf, lisOf, lstOf, List.length_cons, List.length_nil, ho])]
                    rw [seq1 (env' := [some (gvD b1 b2 (e :: l)), some (.int p), some (.int s), some (.int a), some (.tup (entsD (e :: l))), some (.int (outP (e :: l))), some (.lst (entsD ((e :: l).filter fun x => !decide (x.1 = outP (e :: l))))), none]) (S' := S) (by simp only [sSeq, sNext, sDrop, sRet, sRetN, sIf, sAsg, gN, fVar, fC, fBin, fUn, fBu, fNil, fCons, fTup, fLst, fB, fIf, fNot, fAnd, fOr, fV, fNotV, fAndV, fOrV, fCall, R.bind, R.bindS, R.of, RS.out, gAdd_int, gSub_int, gLt_int, gLe_int, gGt_int, gGe_int, gNeg_int, gEq_int, gNe_int, gI2C_int, gInt_int, gAbs_int, gLen_lst, gLen_tup, List.getElem?_cons_zero, List.getElem?_cons_succ, List.set_cons_zero, List.set_cons_succ, List.append_nil, if_true, if_false, decide_true, decide_false, Int.reduceEq, Int.reduceLT, Int.reduceLE, Int.reduceNeg, Int.reduceAdd, Int.reduceSub, Bool.not_true, Bool.not_false, reduceIte, Bool.false_eq_true, Option.map_some, Option.bind_some, Nat.reduceAdd, gTupF, gsCons, gsNil, seqOf, lisOf, lstOf, List.length_cons, List.length_nil, r1])]
                    simp only [sSeq, sNext, sDrop, sRet, sRetN, sIf, sAsg, gN, fVar, fC, fBin, fUn, fBu, fNil, fCons, fTup, fLst, fB, fIf, fNot, fAnd, fOr, fV, fNotV, fAndV, fOrV, fCall, R.bind, R.bindS, R.of, RS.out, gAdd_int, gSub_int, gLt_int, gLe_int, gGt_int, gGe_int, gNeg_int, gEq_int, gNe_int, gI2C_int, gInt_int, gAbs_int, gLen_lst, gLen_tup, List.getElem?_cons_zero, List.getElem?_cons_succ, List.set_cons_zero, List.set_cons_succ, List.append_nil, if_true, if_false, decide_true, decide_false, Int.reduceEq, Int.reduceLT, Int.reduceLE, Int.reduceNeg, Int.reduceAdd, Int.reduceSub, Bool.not_true, Bool.not_false, reduceIte, Bool.false_eq_true, Option.map_some, Option.bind_some, Nat.reduceAdd, gTupF, gsCons, gsNil, seqOf, lisOf, lstOf, List.length_cons, List.length_nil, hw]
            · rw [if_pos (by simpa using k1)]
              rw [seqR (d := takenD ("held", l, -1)) (S' := S) (by simp only [sSeq, sNext, sDrop, sRet, sRetN, sIf, sAsg, gN, fVar, fC, fBin, fUn, fBu, fNil, fCons, fTup, fLst, fB, fIf, fNot, fAnd, fOr, fV, fNotV, fAndV, fOrV, fCall, R.bind, R.bindS, R.of, RS.out, gAdd_int, gSub_int, gLt_int, gLe_int, gGt_int, gGe_int, gNeg_int, gEq_int, gNe_int, gI2C_int, gInt_int, gAbs_int, gLen_lst, gLen_tup, List.getElem?_cons_zero, List.getElem?_cons_succ, List.set_cons_zero, List.set_cons_succ, List.append_nil, if_true, if_false, decide_true, decide_false, Int.reduceEq, Int.reduceLT, Int.reduceLE, Int.reduceNeg, Int.reduceAdd, Int.reduceSub, Bool.not_true, Bool.not_false, reduceIte, Bool.false_eq_true, Option.map_some, Option.bind_some, Nat.reduceAdd, gTupF, gsCons, gsNil, seqOf, lisOf, lstOf, List.length_cons, List.length_nil, ha, decide_eq_false k1])]
              rfl
theorem e_price_of {S : Sto} {b1 b2 : Bool} {l : List (Int × Int)} {p : Int} (hn : l.length ≤ 900) : f_price_of c [gvD b1 b2 l, .int p] S = match w1 l p with
    | some r => excR c r S
    | none => .ok (.int (priceV l p)) S := by
  rw [show f_price_of c [gvD b1 b2 l, .int p] S = (g_price_of c [some (gvD b1 b2 l), some (.int p), none] S).out from rfl]
  unfold g_price_of
  have hl := e_look (c := c) (S := S) (b1 := b1) (b2 := b2) hn
  unfold w1
  rw [fv_snoc, fv_snoc]
  cases hf : firstV (lkV l) with
  | some r =>
    rw [hf] at hl
    rw [seqX (env' := [some (gvD b1 b2 l), some (.int p), none]) (C := c "OutOfRange") (fs := excF r) (S' := S) (by simp only [sSeq, sNext, sDrop, sRet, sRetN, sIf, sAsg, gN, fVar, fC, fBin, fUn, fBu, fNil, fCons, fTup, fLst, fB, fIf, fNot, fAnd, fOr, fV, fNotV, fAndV, fOrV, fCall, R.bind, R.bindS, R.of, RS.out, gAdd_int, gSub_int, gLt_int, gLe_int, gGt_int, gGe_int, gNeg_int, gEq_int, gNe_int, gI2C_int, gInt_int, gAbs_int, gLen_lst, gLen_tup, List.getElem?_cons_zero, List.getElem?_cons_succ, List.set_cons_zero, List.set_cons_succ, List.append_nil, if_true, if_false, decide_true, decide_false, Int.reduceEq, Int.reduceLT, Int.reduceLE, Int.reduceNeg, Int.reduceAdd, Int.reduceSub, Bool.not_true, Bool.not_false, reduceIte, Bool.false_eq_true, Option.map_some, Option.bind_some, Nat.reduceAdd, gTupF, gsCons, gsNil, seqOf, lisOf, lstOf, List.length_cons, List.length_nil, hl])]
    rfl
  | none =>
    rw [hf] at hl
    rw [seq1 (env' := [some (gvD b1 b2 l), some (.int p), some (.tup (entsD l))]) (S' := S) (by simp only [sSeq, sNext, sDrop, sRet, sRetN, sIf, sAsg, gN, fVar, fC, fBin, fUn, fBu, fNil, fCons, fTup, fLst, fB, fIf, fNot, fAnd, fOr, fV, fNotV, fAndV, fOrV, fCall, R.bind, R.bindS, R.of, RS.out, gAdd_int, gSub_int, gLt_int, gLe_int, gGt_int, gGe_int, gNeg_int, gEq_int, gNe_int, gI2C_int, gInt_int, gAbs_int, gLen_lst, gLen_tup, List.getElem?_cons_zero, List.getElem?_cons_succ, List.set_cons_zero, List.set_cons_succ, List.append_nil, if_true, if_false, decide_true, decide_false, Int.reduceEq, Int.reduceLT, Int.reduceLE, Int.reduceNeg, Int.reduceAdd, Int.reduceSub, Bool.not_true, Bool.not_false, reduceIte, Bool.false_eq_true, Option.map_some, Option.bind_some, Nat.reduceAdd, gTupF, gsCons, gsNil, seqOf, lisOf, lstOf, List.length_cons, List.length_nil, hl])]
    rw [st_within (k := kPlc p) (by simp only [sSeq, sNext, sDrop, sRet, sRetN, sIf, sAsg, gN, fVar, fC, fBin, fUn, fBu, fNil, fCons, fTup, fLst, fB, fIf, fNot, fAnd, fOr, fV, fNotV, fAndV, fOrV, fCall, R.bind, R.bindS, R.of, RS.out, gAdd_int, gSub_int, gLt_int, gLe_int, gGt_int, gGe_int, gNeg_int, gEq_int, gNe_int, gI2C_int, gInt_int, gAbs_int, gLen_lst, gLen_tup, List.getElem?_cons_zero, List.getElem?_cons_succ, List.set_cons_zero, List.set_cons_succ, List.append_nil, if_true, if_false, decide_true, decide_false, Int.reduceEq, Int.reduceLT, Int.reduceLE, Int.reduceNeg, Int.reduceAdd, Int.reduceSub, Bool.not_true, Bool.not_false, reduceIte, Bool.false_eq_true, Option.map_some, Option.bind_some, Nat.reduceAdd, gTupF, gsCons, gsNil, seqOf, lisOf, lstOf, List.length_cons, List.length_nil])]
    by_cases h1 : badB (kPlc p) = true
    · rw [if_pos h1]
      simp only [if_pos h1]
      rfl
    · rw [if_neg h1]
      simp only [if_neg h1]
      rw [st_within (k := kFit l p) (by simp only [sSeq, sNext, sDrop, sRet, sRetN, sIf, sAsg, gN, fVar, fC, fBin, fUn, fBu, fNil, fCons, fTup, fLst, fB, fIf, fNot, fAnd, fOr, fV, fNotV, fAndV, fOrV, fCall, R.bind, R.bindS, R.of, RS.out, gAdd_int, gSub_int, gLt_int, gLe_int, gGt_int, gGe_int, gNeg_int, gEq_int, gNe_int, gI2C_int, gInt_int, gAbs_int, gLen_lst, gLen_tup, List.getElem?_cons_zero, List.getElem?_cons_succ, List.set_cons_zero, List.set_cons_succ, List.append_nil, if_true, if_false, decide_true, decide_false, Int.reduceEq, Int.reduceLT, Int.reduceLE, Int.reduceNeg, Int.reduceAdd, Int.reduceSub, Bool.not_true, Bool.not_false, reduceIte, Bool.false_eq_true, Option.map_some, Option.bind_some, Nat.reduceAdd, gTupF, gsCons, gsNil, seqOf, lisOf, lstOf, List.length_cons, List.length_nil, List.length_map])]
      by_cases h4 : badB (kFit l p) = true
      · rw [if_pos h4]
        simp only [if_pos h4]
        rfl
      · rw [if_neg h4]
        simp only [if_neg h4]
        have hp : 0 < p := plc_pos (by simpa using h1)
        have hr := e_least (S := S) (l := l) hp (by omega)
        simp only [sSeq, sNext, sDrop, sRet, sRetN, sIf, sAsg, gN, fVar, fC, fBin, fUn, fBu, fNil, fCons, fTup, fLst, fB, fIf, fNot, fAnd, fOr, fV, fNotV, fAndV, fOrV, fCall, R.bind, R.bindS, R.of, RS.out, gAdd_int, gSub_int, gLt_int, gLe_int, gGt_int, gGe_int, gNeg_int, gEq_int, gNe_int, gI2C_int, gInt_int, gAbs_int, gLen_lst, gLen_tup, List.getElem?_cons_zero, List.getElem?_cons_succ, List.set_cons_zero, List.set_cons_succ, List.append_nil, if_true, if_false, decide_true, decide_false, Int.reduceEq, Int.reduceLT, Int.reduceLE, Int.reduceNeg, Int.reduceAdd, Int.reduceSub, Bool.not_true, Bool.not_false, reduceIte, Bool.false_eq_true, Option.map_some, Option.bind_some, Nat.reduceAdd, gTupF, gsCons, gsNil, seqOf, lisOf, lstOf, List.length_cons, List.length_nil, hr]
theorem e_amount_of {S : Sto} {b1 b2 : Bool} {l : List (Int × Int)} {s : Int} (hn : l.length ≤ 900) : f_amount_of c [gvD b1 b2 l, .int s] S = match w2 l s with
    | some r => excR c r S
    | none => .ok (.int (amtV l s)) S := by
  rw [show f_amount_of c [gvD b1 b2 l, .int s] S = (g_amount_of c [some (gvD b1 b2 l), some (.int s), none] S).out from rfl]
  unfold g_amount_of
  have hl := e_look (c := c) (S := S) (b1 := b1) (b2 := b2) hn
  unfold w2
  rw [fv_snoc]
  cases hf : firstV (lkV l) with
  | some r =>
    rw [hf] at hl
    rw [seqX (env' := [some (gvD b1 b2 l), some (.int s), none]) (C := c "OutOfRange") (fs := excF r) (S' := S) (by simp only [sSeq, sNext, sDrop, sRet, sRetN, sIf, sAsg, gN, fVar, fC, fBin, fUn, fBu, fNil, fCons, fTup, fLst, fB, fIf, fNot, fAnd, fOr, fV, fNotV, fAndV, fOrV, fCall, R.bind, R.bindS, R.of, RS.out, gAdd_int, gSub_int, gLt_int, gLe_int, gGt_int, gGe_int, gNeg_int, gEq_int, gNe_int, gI2C_int, gInt_int, gAbs_int, gLen_lst, gLen_tup, List.getElem?_cons_zero, List.getElem?_cons_succ, List.set_cons_zero, List.set_cons_succ, List.append_nil, if_true, if_false, decide_true, decide_false, Int.reduceEq, Int.reduceLT, Int.reduceLE, Int.reduceNeg, Int.reduceAdd, Int.reduceSub, Bool.not_true, Bool.not_false, reduceIte, Bool.false_eq_true, Option.map_some, Option.bind_some, Nat.reduceAdd, gTupF, gsCons, gsNil, seqOf, lisOf, lstOf, List.length_cons, List.length_nil, hl])]
    rfl
  | none =>
    rw [hf] at hl
    rw [seq1 (env' := [some (gvD b1 b2 l), some (.int s), some (.tup (entsD l))]) (S' := S) (by simp only [sSeq, sNext, sDrop, sRet, sRetN, sIf, sAsg, gN, fVar, fC, fBin, fUn, fBu, fNil, fCons, fTup, fLst, fB, fIf, fNot, fAnd, fOr, fV, fNotV, fAndV, fOrV, fCall, R.bind, R.bindS, R.of, RS.out, gAdd_int, gSub_int, gLt_int, gLe_int, gGt_int, gGe_int, gNeg_int, gEq_int, gNe_int, gI2C_int, gInt_int, gAbs_int, gLen_lst, gLen_tup, List.getElem?_cons_zero, List.getElem?_cons_succ, List.set_cons_zero, List.set_cons_succ, List.append_nil, if_true, if_false, decide_true, decide_false, Int.reduceEq, Int.reduceLT, Int.reduceLE, Int.reduceNeg, Int.reduceAdd, Int.reduceSub, Bool.not_true, Bool.not_false, reduceIte, Bool.false_eq_true, Option.map_some, Option.bind_some, Nat.reduceAdd, gTupF, gsCons, gsNil, seqOf, lisOf, lstOf, List.length_cons, List.length_nil, hl])]
    rw [st_within (k := kSeek s) (by simp only [sSeq, sNext, sDrop, sRet, sRetN, sIf, sAsg, gN, fVar, fC, fBin, fUn, fBu, fNil, fCons, fTup, fLst, fB, fIf, fNot, fAnd, fOr, fV, fNotV, fAndV, fOrV, fCall, R.bind, R.bindS, R.of, RS.out, gAdd_int, gSub_int, gLt_int, gLe_int, gGt_int, gGe_int, gNeg_int, gEq_int, gNe_int, gI2C_int, gInt_int, gAbs_int, gLen_lst, gLen_tup, List.getElem?_cons_zero, List.getElem?_cons_succ, List.set_cons_zero, List.set_cons_succ, List.append_nil, if_true, if_false, decide_true, decide_false, Int.reduceEq, Int.reduceLT, Int.reduceLE, Int.reduceNeg, Int.reduceAdd, Int.reduceSub, Bool.not_true, Bool.not_false, reduceIte, Bool.false_eq_true, Option.map_some, Option.bind_some, Nat.reduceAdd, gTupF, gsCons, gsNil, seqOf, lisOf, lstOf, List.length_cons, List.length_nil])]
    by_cases h1 : badB (kSeek s) = true
    · rw [if_pos h1]
      simp only [if_pos h1]
      rfl
    · rw [if_neg h1]
      simp only [if_neg h1]
      have hr := e_amount (S := S) (l := l) (s := s)
      simp only [sSeq, sNext, sDrop, sRet, sRetN, sIf, sAsg, gN, fVar, fC, fBin, fUn, fBu, fNil, fCons, fTup, fLst, fB, fIf, fNot, fAnd, fOr, fV, fNotV, fAndV, fOrV, fCall, R.bind, R.bindS, R.of, RS.out, gAdd_int, gSub_int, gLt_int, gLe_int, gGt_int, gGe_int, gNeg_int, gEq_int, gNe_int, gI2C_int, gInt_int, gAbs_int, gLen_lst, gLen_tup, List.getElem?_cons_zero, List.getElem?_cons_succ, List.set_cons_zero, List.set_cons_succ, List.append_nil, if_true, if_false, decide_true, decide_false, Int.reduceEq, Int.reduceLT, Int.reduceLE, Int.reduceNeg, Int.reduceAdd, Int.reduceSub, Bool.not_true, Bool.not_false, reduceIte, Bool.false_eq_true, Option.map_some, Option.bind_some, Nat.reduceAdd, gTupF, gsCons, gsNil, seqOf, lisOf, lstOf, List.length_cons, List.length_nil, hr]
end K19
set_option maxRecDepth 100000
set_option maxHeartbeats 2000000
namespace K19
open FL
/-! ### what the looks say -/
theorem looks_good : ∀ (b : Int) (l : List (Int × Int)), firstV (looksV b l) = none → (∀ e ∈ l, b < e.1 ∧ e.1 ≤ 29 ∧ 0 ≤ e.2 ∧ e.2 ≤ 9999) ∧ l.Pairwise fun x y => x.1 < y.1
  | _, [], _ => ⟨(fun e h => by cases h), List.Pairwise.nil⟩
  | b, e :: l, h => by
    have un : firstV (looksV b (e :: l)) = if badB ("seeker", e.1, b + 1, 29) = true then some ("seeker", e.1) else if badB ("amount", e.2, 0, 9999) = true then some ("amount", e.2) else firstV (looksV e.1 l) := rfl
    rw [un] at h
    by_cases h1 : badB ("seeker", e.1, b + 1, 29) = true
    · rw [if_pos h1] at h; cases h
    · rw [if_neg h1] at h
      by_cases h2 : badB ("amount", e.2, 0, 9999) = true
      · rw [if_pos h2] at h; cases h
      · rw [if_neg h2] at h
        obtain ⟨ih, ip⟩ := looks_good e.1 l h
        have h1 : badB ("seeker", e.1, b + 1, 29) = false := by simpa using h1
        have h2 : badB ("amount", e.2, 0, 9999) = false := by simpa using h2
        unfold badB at h1 h2
        obtain ⟨a1, a2⟩ := Bool.or_eq_false_iff.mp h1
        obtain ⟨a3, a4⟩ := Bool.or_eq_false_iff.mp h2
        have a1 : ¬ e.1 < b + 1 := of_decide_eq_false a1
        have a2 : ¬ 29 < e.1 := of_decide_eq_false a2
        have a3 : ¬ e.2 < 0 := of_decide_eq_false a3
        have a4 : ¬ 9999 < e.2 := of_decide_eq_false a4
        refine ⟨fun x hx => ?_, List.pairwise_cons.mpr ⟨fun y hy => (ih y hy).1, ip⟩⟩
        rcases List.mem_cons.mp hx with rfl | hx
        · exact ⟨by omega, by omega, by omega, by omega⟩
        · have := ih x hx
          exact ⟨by omega, this.2.1, this.2.2.1, this.2.2.2⟩
theorem good_of {l : List (Int × Int)} (h : firstV (lkV l) = none) : Good l := by
  have un : firstV (lkV l) = if badB (kEnt l) = true then some ("entries", (l.length : Int)) else firstV (looksV (-1) l) := rfl
  rw [un] at h
  by_cases h1 : badB (kEnt l) = true
  · rw [if_pos h1] at h; cases h
  · rw [if_neg h1] at h
    obtain ⟨a, b⟩ := looks_good _ _ h
    have h1 : badB (kEnt l) = false := by simpa using h1
    unfold badB at h1
    have a2 : ¬ (9 : Int) < l.length := of_decide_eq_false (Bool.or_eq_false_iff.mp h1).2
    exact ⟨fun e he => by have := a e he; exact ⟨by omega, this.2.1, this.2.2.1, this.2.2.2⟩, by omega, b⟩
/-! ### who is put out -/
def minF (m : Int) : List Int → Int
  | [] => m
  | n :: r => minF (if n < m then n else m) r
theorem po_min : ∀ (l : List (Int × Int)) (o m : Int), 0 ≤ o → o ≤ 29 → (∀ e ∈ l, o < e.1 ∧ e.1 ≤ 29) → (l.Pairwise fun x y => x.1 < y.1) →
    0 ≤ poV o m l ∧ poV o m l ≤ 29 ∧ ∃ m', minF (30 * m - o) (l.map fun e => 30 * e.2 - e.1) = 30 * m' - poV o m l
  | [], o, m, h0, h1, _, _ => ⟨h0, h1, m, rfl⟩
  | e :: l, o, m, h0, h1, hr, hp => by
    obtain ⟨p1, p2⟩ := List.pairwise_cons.mp hp
    have he := hr e List.mem_cons_self
    show 0 ≤ (if e.2 ≤ m then poV e.1 e.2 l else poV o m l) ∧ (if e.2 ≤ m then poV e.1 e.2 l else poV o m l) ≤ 29 ∧ ∃ m', minF (if 30 * e.2 - e.1 < 30 * m - o then 30 * e.2 - e.1 else 30 * m - o) (l.map fun e => 30 * e.2 - e.1) = 30 * m' - (if e.2 ≤ m then poV e.1 e.2 l else poV o m l)
    by_cases h : e.2 ≤ m
    · rw [if_pos h, if_pos (by omega)]
      exact po_min l e.1 e.2 (by omega) he.2 (fun x hx => ⟨p1 x hx, (hr x (List.mem_cons_of_mem _ hx)).2⟩) p2
    · rw [if_neg h, if_neg (by omega)]
      exact po_min l o m h0 h1 (fun x hx => hr x (List.mem_cons_of_mem _ hx)) p2
theorem po_mem : ∀ (l : List (Int × Int)) (o m : Int), poV o m l = o ∨ ∃ e ∈ l, e.1 = poV o m l
  | [], o, m => .inl rfl
  | e :: l, o, m => by
    show (if e.2 ≤ m then poV e.1 e.2 l else poV o m l) = o ∨ ∃ x ∈ e :: l, x.1 = (if e.2 ≤ m then poV e.1 e.2 l else poV o m l)
    by_cases h : e.2 ≤ m
    · rw [if_pos h]
      rcases po_mem l e.1 e.2 with q | ⟨x, hx, q⟩
      · exact .inr ⟨e, List.mem_cons_self, q.symm⟩
      · exact .inr ⟨x, List.mem_cons_of_mem _ hx, q⟩
    · rw [if_neg h]
      rcases po_mem l o m with q | ⟨x, hx, q⟩
      · exact .inl q
      · exact .inr ⟨x, List.mem_cons_of_mem _ hx, q⟩
theorem foldl_minF : ∀ (r : List Int) (n : Int), r.foldl min n = minF n r
  | [], _ => rfl
  | x :: r, n => by
    show r.foldl min (min n x) = minF (if x < n then x else n) r
    have e : min n x = if x < n then x else n := by split <;> omega
    rw [e]
    exact foldl_minF r _
theorem minI_fold (r : List Int) (n : Int) : minI (n :: r) = some (minF n r) := by
  show some (r.foldl min n) = _
  rw [foldl_minF]
theorem out_eq {l : List (Int × Int)} (G : Good l) (hne : l ≠ []) : outV l = outP l ∧ 0 ≤ outP l ∧ ∃ e ∈ l, e.1 = outP l := by
  cases l with
  | nil => exact absurd rfl hne
  | cons e l =>
    obtain ⟨p1, p2⟩ := List.pairwise_cons.mp G.srt
    have he := G.rng e List.mem_cons_self
    have eo : outP (e :: l) = poV e.1 e.2 l := by
      show (if e.2 ≤ e.2 then poV e.1 e.2 l else poV e.1 e.2 l) = _
      rw [if_pos (Int.le_refl _)]
    obtain ⟨q1, q2, m', q3⟩ := po_min l e.1 e.2 he.1 he.2.1 (fun x hx => ⟨p1 x hx, (G.rng x (List.mem_cons_of_mem _ hx)).2.1⟩) p2
    rw [eo]
    refine ⟨?_, q1, ?_⟩
    · unfold outV
      rw [List.map_cons, minI_fold, q3]
      show (-(30 * m' - poV e.1 e.2 l)) % 30 = _
      omega
    · rcases po_mem l e.1 e.2 with q | ⟨x, hx, q⟩
      · exact ⟨e, List.mem_cons_self, q.symm⟩
      · exact ⟨x, List.mem_cons_of_mem _ hx, q⟩
theorem take_taken {l : List (Int × Int)} {p s a : Int} (h : w0 l p s a = none) : takeV l p s a = takenV l p s a := by
  unfold w0 at h
  rw [fv_snoc, fv_snoc, fv_snoc, fv_snoc] at h
  cases hf : firstV (lkV l) with
  | some r => rw [hf] at h; cases h
  | none =>
    have G := good_of hf
    have hb : ∀ k ∈ lkV l ++ [kPlc p] ++ [kSeek s] ++ [kAmt a] ++ [kFit l p], badB k = false := firstV_none (by rw [fv_snoc, fv_snoc, fv_snoc, fv_snoc]; exact h)
    have hp : 0 < p := plc_pos (hb (kPlc p) (by simp))
    have hfit := hb (kFit l p) (by simp)
    unfold badB at hfit
    have hfit : ¬ p < (l.length : Int) := of_decide_eq_false (Bool.or_eq_false_iff.mp hfit).2
    unfold takeV takenV
    have rest : (if a ≤ priceV l p then ("low", l, (-1 : Int)) else if (l.length : Int) < p then ("taken", putV l s a, -1) else ("taken", putV (l.filter fun e => !decide (e.1 = outP l)) s a, outP l)) =
        (if a ≤ priceV l p then ("low", l, -1) else if (l.length : Int) = p then ("taken", putV (l.filter fun e => !decide (e.1 = outV l)) s a, outV l) else ("taken", putV (l.filter fun e => !decide (e.1 = -1)) s a, -1)) := by
      by_cases h2 : a ≤ priceV l p
      · rw [if_pos h2, if_pos h2]
      · rw [if_neg h2, if_neg h2]
        by_cases h3 : (l.length : Int) < p
        · rw [if_pos h3, if_neg (by omega)]
          have : (l.filter fun e => !decide (e.1 = -1)) = l := List.filter_eq_self.mpr fun e he => by
            have := G.rng e he
            rw [decide_eq_false (by omega)]
            rfl
          rw [this]
        · rw [if_neg h3, if_pos (by omega)]
          have hne : l ≠ [] := fun z => by
            rw [z] at h3
            have h3 : ¬ ((0 : Nat) : Int) < p := h3
            omega
          rw [(out_eq G hne).1]
    rcases amt_loop (S := []) (x := .non) (s := s) l none none with ⟨_, q2, q3⟩ | ⟨_, ⟨e, he, _, q2⟩, q3⟩
    · rw [if_neg (by simp [q2]), q3, if_neg Bool.false_ne_true]
      exact rest
    · have := G.rng e he
      rw [if_pos (by omega), q3, if_pos rfl]
/-! ### comparing what was told -/
theorem same_int {S : Sto} {k : Nat} {i : Int} : f_l_same (k + 1) [.int i, .int i] S = .ok (.bl true) S := by
  rw [show f_l_same (k + 1) [.int i, .int i] S = (g_l_same (f_l_same k) [some (.int i), some (.int i), none] S).out from rfl]
  unfold g_l_same
  have t1 : gIsi [] S [.int i, .ty "tuple"] = some (.bl false) := by rfl
  have t2 : gIsi [] S [.int i, .ty "str"] = some (.bl false) := by rfl
  have t3 : gIsi [] S [.int i, .ty "bool"] = some (.bl false) := by rfl
  have t4 : gIsi [] S [.int i, .ty "int"] = some (.bl true) := by rfl
  have t5 : gIsN false S (.int i) .non = some (.bl false) := by rfl
  simp only [sSeq, sNext, sDrop, sRet, sRetN, sIf, sAsg, gN, fVar, fC, fBin, fUn, fBu, fNil, fCons, fTup, fLst, fB, fIf, fNot, fAnd, fOr, fV, fNotV, fAndV, fOrV, fCall, R.bind, R.bindS, R.of, RS.out, gAdd_int, gSub_int, gLt_int, gLe_int, gGt_int, gGe_int, gNeg_int, gEq_int, gNe_int, gI2C_int, gInt_int, gAbs_int, gLen_lst, gLen_tup, List.getElem?_cons_zero, List.getElem?_cons_succ, List.set_cons_zero, List.set_cons_succ, List.append_nil, if_true, if_false, decide_true, decide_false, Int.reduceEq, Int.reduceLT, Int.reduceLE, Int.reduceNeg, Int.reduceAdd, Int.reduceSub, Bool.not_true, Bool.not_false, reduceIte, Bool.false_eq_true, Option.map_some, Option.bind_some, Nat.reduceAdd, gTupF, gsCons, gsNil, seqOf, lisOf, lstOf, List.length_cons, List.length_nil, t1, t2, t3, t4, t5]
end K19
set_option maxRecDepth 100000
set_option maxHeartbeats 2000000
namespace K19
open FL
abbrev iSame : Fi := iRng gRng1 (fCons (fBu gLen (fCons (fVar 1) fNil)) fNil)
abbrev bSame (k : Nat) : SF := sIf (fNot (fB (fCall (f_l_same k) [] (fCons (fBin gIx (fVar 0) (fVar 2)) (fCons (fBin gIx (fVar 1) (fVar 2)) fNil))))) (sRet (fC (.bl false))) sNext
theorem same_rng {S : Sto} {ds : List FL.D} (hl : ds.length ≤ 1000) : iSame [some (.tup ds), some (.tup ds), none] S = .ok (.fix (rngD 0 ds.length)) S := by
  have e := gRng1_j (small_nat hl)
  rw [Int.toNat_natCast] at e
  exact iRng_of (ds := [.int (ds.length : Int)]) (by simp only [sSeq, sNext, sDrop, sRet, sRetN, sIf, sAsg, gN, fVar, fC, fBin, fUn, fBu, fNil, fCons, fTup, fLst, fB, fIf, fNot, fAnd, fOr, fV, fNotV, fAndV, fOrV, fCall, R.bind, R.bindS, R.of, RS.out, gAdd_int, gSub_int, gLt_int, gLe_int, gGt_int, gGe_int, gNeg_int, gEq_int, gNe_int, gI2C_int, gInt_int, gAbs_int, gLen_lst, gLen_tup, List.getElem?_cons_zero, List.getElem?_cons_succ, List.set_cons_zero, List.set_cons_succ, List.append_nil, if_true, if_false, decide_true, decide_false, Int.reduceEq, Int.reduceLT, Int.reduceLE, Int.reduceNeg, Int.reduceAdd, Int.reduceSub, Bool.not_true, Bool.not_false, reduceIte, Bool.false_eq_true, Option.map_some, Option.bind_some, Nat.reduceAdd, gTupF, gsCons, gsNil, seqOf, lisOf, lstOf, List.length_cons, List.length_nil]) e
theorem is_tup {S : Sto} {ds : List FL.D} : gIsi [] S [.tup ds, .ty "tuple"] = some (.bl true) := by rfl
theorem same_loop {S : Sto} {k : Nat} {ds : List FL.D} (h : ∀ d ∈ ds, f_l_same k [d, d] S = .ok (.bl true) S) : ∃ o, forL (fun d env S => match gN 2 d env S with
      | some env' => bSame k env' S
      | none => .bad) (rngD 0 ds.length) [some (.tup ds), some (.tup ds), none] S = .fl (.nx [some (.tup ds), some (.tup ds), o]) S := by
  obtain ⟨env', S', q, ⟨o, rfl⟩, rfl, _⟩ := forL_run (body := fun d env S => match gN 2 d env S with
      | some env' => bSame k env' S
      | none => .bad) (fun r env S' => (∃ o, env = [some (.tup ds), some (.tup ds), o]) ∧ S' = S ∧ ∀ d ∈ r, ∃ j : Nat, j < ds.length ∧ d = .int j) (fun d r env S' ⟨⟨o, e1⟩, e2, hd⟩ => by
        subst e1 e2
        obtain ⟨j, hj, rfl⟩ := hd d List.mem_cons_self
        refine ⟨[some (.tup ds), some (.tup ds), some (.int j)], S', ?_, ⟨_, rfl⟩, rfl, fun d hd' => hd d (List.mem_cons_of_mem _ hd')⟩
        have ix : gIx S' (.tup ds) (.int (j : Int)) = some ds[j] := gIx_tup (List.getElem?_eq_getElem hj)
        have hj' := h ds[j] (List.getElem_mem hj)
        unfold bSame
        simp only [sSeq, sNext, sDrop, sRet, sRetN, sIf, sAsg, gN, fVar, fC, fBin, fUn, fBu, fNil, fCons, fTup, fLst, fB, fIf, fNot, fAnd, fOr, fV, fNotV, fAndV, fOrV, fCall, R.bind, R.bindS, R.of, RS.out, gAdd_int, gSub_int, gLt_int, gLe_int, gGt_int, gGe_int, gNeg_int, gEq_int, gNe_int, gI2C_int, gInt_int, gAbs_int, gLen_lst, gLen_tup, List.getElem?_cons_zero, List.getElem?_cons_succ, List.set_cons_zero, List.set_cons_succ, List.append_nil, if_true, if_false, decide_true, decide_false, Int.reduceEq, Int.reduceLT, Int.reduceLE, Int.reduceNeg, Int.reduceAdd, Int.reduceSub, Bool.not_true, Bool.not_false, reduceIte, Bool.false_eq_true, Option.map_some, Option.bind_some, Nat.reduceAdd, gTupF, gsCons, gsNil, seqOf, lisOf, lstOf, List.length_cons, List.length_nil, ix, hj']) (rngD 0 ds.length) [some (.tup ds), some (.tup ds), none] S ⟨⟨none, rfl⟩, rfl, fun d hd => by
        obtain ⟨i, hi⟩ := List.mem_iff_getElem?.mp hd
        obtain ⟨h1, h2⟩ := rngD_get hi
        exact ⟨i, h1, by rw [h2, Int.zero_add]⟩⟩
  exact ⟨o, q⟩
theorem same_tup {S : Sto} {k : Nat} {ds : List FL.D} (hl : ds.length ≤ 1000) (h : ∀ d ∈ ds, f_l_same k [d, d] S = .ok (.bl true) S) : f_l_same (k + 1) [.tup ds, .tup ds] S = .ok (.bl true) S := by
  rw [show f_l_same (k + 1) [.tup ds, .tup ds] S = (g_l_same (f_l_same k) [some (.tup ds), some (.tup ds), none] S).out from rfl]
  unfold g_l_same
  have t1 := is_tup (S := S) (ds := ds)
  obtain ⟨o, q⟩ := same_loop (S := S) (k := k) h
  have hs := (sFor_fix (g := gN 2) (b := bSame k) (same_rng (S := S) hl)).trans q
  rw [seqR (d := .bl true) (S' := S) (by
    rw [sIf_t (S1 := S) (by simp only [sSeq, sNext, sDrop, sRet, sRetN, sIf, sAsg, gN, fVar, fC, fBin, fUn, fBu, fNil, fCons, fTup, fLst, fB, fIf, fNot, fAnd, fOr, fV, fNotV, fAndV, fOrV, fCall, R.bind, R.bindS, R.of, RS.out, gAdd_int, gSub_int, gLt_int, gLe_int, gGt_int, gGe_int, gNeg_int, gEq_int, gNe_int, gI2C_int, gInt_int, gAbs_int, gLen_lst, gLen_tup, List.getElem?_cons_zero, List.getElem?_cons_succ, List.set_cons_zero, List.set_cons_succ, List.append_nil, if_true, if_false, decide_true, decide_false, Int.reduceEq, Int.reduceLT, Int.reduceLE, Int.reduceNeg, Int.reduceAdd, Int.reduceSub, Bool.not_true, Bool.not_false, reduceIte, Bool.false_eq_true, Option.map_some, Option.bind_some, Nat.reduceAdd, gTupF, gsCons, gsNil, seqOf, lisOf, lstOf, List.length_cons, List.length_nil, t1])]
    rw [seq1 (env' := [some (.tup ds), some (.tup ds), none]) (S' := S) (by simp only [sSeq, sNext, sDrop, sRet, sRetN, sIf, sAsg, gN, fVar, fC, fBin, fUn, fBu, fNil, fCons, fTup, fLst, fB, fIf, fNot, fAnd, fOr, fV, fNotV, fAndV, fOrV, fCall, R.bind, R.bindS, R.of, RS.out, gAdd_int, gSub_int, gLt_int, gLe_int, gGt_int, gGe_int, gNeg_int, gEq_int, gNe_int, gI2C_int, gInt_int, gAbs_int, gLen_lst, gLen_tup, List.getElem?_cons_zero, List.getElem?_cons_succ, List.set_cons_zero, List.set_cons_succ, List.append_nil, if_true, if_false, decide_true, decide_false, Int.reduceEq, Int.reduceLT, Int.reduceLE, Int.reduceNeg, Int.reduceAdd, Int.reduceSub, Bool.not_true, Bool.not_false, reduceIte, Bool.false_eq_true, Option.map_some, Option.bind_some, Nat.reduceAdd, gTupF, gsCons, gsNil, seqOf, lisOf, lstOf, List.length_cons, List.length_nil, t1])]
    rw [seq1 hs]
    rfl)]
  rfl
theorem is_str {S : Sto} {x : PySem.Str} : gIsi [] S [.str x, .ty "str"] = some (.bl true) := by rfl
theorem is_str0 {S : Sto} {x : PySem.Str} : gIsi [] S [.str x, .ty "tuple"] = some (.bl false) := by rfl
theorem gEq_str {S : Sto} {x : PySem.Str} (h : PySem.PyData.strOk x = true) : gEq false S (.str x) (.str x) = some (.bl true) := by
  have hs : PySem.SeqAt.shaped (.str x) = true := by
    show (PySem.PyData.strOk x && decide ((0 : Nat) ≤ 64)) = true
    rw [h]
    rfl
  show (if (PySem.SeqAt.shaped (PySem.PyData.str x) && PySem.SeqAt.shaped (PySem.PyData.str x)) = true then some (FL.D.bl (PySem.PyData.eqv (.str x) (.str x))) else none) = _
  rw [hs, if_pos (by rfl)]
  show some (FL.D.bl (x == x)) = _
  rw [beq_self_eq_true]
theorem same_word {S : Sto} {k : Nat} {x : String} (h : PySem.PyData.strOk (PySem.Str.ofString x) = true) : f_l_same (k + 1) [wordD x, wordD x] S = .ok (.bl true) S := by
  rw [show f_l_same (k + 1) [wordD x, wordD x] S = (g_l_same (f_l_same k) [some (wordD x), some (wordD x), none] S).out from rfl]
  unfold g_l_same
  have t1 := is_str0 (S := S) (x := PySem.Str.ofString x)
  have t2 := is_str (S := S) (x := PySem.Str.ofString x)
  have t3 := gEq_str (S := S) h
  have t5 : gIsN false S (wordD x) .non = some (.bl false) := by rfl
  simp only [sSeq, sNext, sDrop, sRet, sRetN, sIf, sAsg, gN, fVar, fC, fBin, fUn, fBu, fNil, fCons, fTup, fLst, fB, fIf, fNot, fAnd, fOr, fV, fNotV, fAndV, fOrV, fCall, R.bind, R.bindS, R.of, RS.out, gAdd_int, gSub_int, gLt_int, gLe_int, gGt_int, gGe_int, gNeg_int, gEq_int, gNe_int, gI2C_int, gInt_int, gAbs_int, gLen_lst, gLen_tup, List.getElem?_cons_zero, List.getElem?_cons_succ, List.set_cons_zero, List.set_cons_succ, List.append_nil, if_true, if_false, decide_true, decide_false, Int.reduceEq, Int.reduceLT, Int.reduceLE, Int.reduceNeg, Int.reduceAdd, Int.reduceSub, Bool.not_true, Bool.not_false, reduceIte, Bool.false_eq_true, Option.map_some, Option.bind_some, Nat.reduceAdd, gTupF, gsCons, gsNil, seqOf, lisOf, lstOf, List.length_cons, List.length_nil, t1, t2, t3, t5]
end K19
set_option maxRecDepth 100000
set_option maxHeartbeats 2000000
namespace K19
open FL
variable {c : String → PySem.Addr}
/-! ### refused -/
theorem isi_x {S : Sto} {C : PySem.Addr} {fs : List (PySem.Str × FL.D)} {t : PySem.Addr} {b : Bool} : gIsi [(C, .inr t, b)] S [.exn C fs, .ref t] = some (.bl b) := by
  show (lookT C (.inr t) [(C, .inr t, b)]).map FL.D.bl = _
  unfold lookT
  rw [if_pos rfl, if_pos rfl]
  rfl
theorem isi_y {S : Sto} {C : PySem.Addr} {fs : List (PySem.Str × FL.D)} {t : String} {b : Bool} : gIsi [(C, .inl t, b)] S [.exn C fs, .ty t] = some (.bl b) := by
  show (lookT C (.inl t) [(C, .inl t, b)]).map FL.D.bl = _
  unfold lookT
  rw [if_pos rfl, if_pos rfl]
  rfl
theorem e_refused {S : Sto} {r : String × Int} : f_l_refused c [.exn (c "OutOfRange") (excF r)] S = .ok (firstD (some r)) S := by
  rw [show f_l_refused c [.exn (c "OutOfRange") (excF r)] S = (g_l_refused c [some (.exn (c "OutOfRange") (excF r)), none] S).out from rfl]
  unfold g_l_refused
  have cn : gCount S (.lst [(FL.D.bl true), (FL.D.bl false), (FL.D.bl false), (FL.D.bl false), (FL.D.bl false), (FL.D.bl false), (FL.D.bl false), (FL.D.bl false), (FL.D.bl false), (FL.D.bl false), (FL.D.bl false), (FL.D.bl false), (FL.D.bl false), (FL.D.bl false), (FL.D.bl false), (FL.D.bl false), (FL.D.bl false), (FL.D.bl false), (FL.D.bl false), (FL.D.bl false)]) [(FL.D.bl true)] = some (.int 1) := by rfl
  have fe : ∀ (x : PySem.Str) (d : FL.D), (excF r).lookup x = some d → fExf [c "OutOfRange"] x (fVar 0) [some (.exn (c "OutOfRange") (excF r)), some (.lst [(FL.D.bl true), (FL.D.bl false), (FL.D.bl false), (FL.D.bl false), (FL.D.bl false), (FL.D.bl false), (FL.D.bl false), (FL.D.bl false), (FL.D.bl false), (FL.D.bl false), (FL.D.bl false), (FL.D.bl false), (FL.D.bl false), (FL.D.bl false), (FL.D.bl false), (FL.D.bl false), (FL.D.bl false), (FL.D.bl false), (FL.D.bl false), (FL.D.bl false)])] S = .ok d S := fun x d h => by
    unfold fExf
    simp only [sSeq, sNext, sDrop, sRet, sRetN, sIf, sAsg, gN, fVar, fC, fBin, fUn, fBu, fNil, fCons, fTup, fLst, fB, fIf, fNot, fAnd, fOr, fV, fNotV, fAndV, fOrV, fCall, R.bind, R.bindS, R.of, RS.out, gAdd_int, gSub_int, gLt_int, gLe_int, gGt_int, gGe_int, gNeg_int, gEq_int, gNe_int, gI2C_int, gInt_int, gAbs_int, gLen_lst, gLen_tup, List.getElem?_cons_zero, List.getElem?_cons_succ, List.set_cons_zero, List.set_cons_succ, List.append_nil, if_true, if_false, decide_true, decide_false, Int.reduceEq, Int.reduceLT, Int.reduceLE, Int.reduceNeg, Int.reduceAdd, Int.reduceSub, Bool.not_true, Bool.not_false, reduceIte, Bool.false_eq_true, Option.map_some, Option.bind_some, Nat.reduceAdd, gTupF, gsCons, gsNil, seqOf, lisOf, lstOf, List.length_cons, List.length_nil, List.mem_singleton, h]
  have f1 := fe (PySem.Str.ofString "what") (wordD r.1) (by rfl)
  have f2 := fe (PySem.Str.ofString "value") (.int r.2) (by rfl)
  rw [seq1 (env' := [some (.exn (c "OutOfRange") (excF r)), some (.lst [(FL.D.bl true), (FL.D.bl false), (FL.D.bl false)])]) (S' := S) (by simp only [sSeq, sNext, sDrop, sRet, sRetN, sIf, sAsg, gN, fVar, fC, fBin, fUn, fBu, fNil, fCons, fTup, fLst, fB, fIf, fNot, fAnd, fOr, fV, fNotV, fAndV, fOrV, fCall, R.bind, R.bindS, R.of, RS.out, gAdd_int, gSub_int, gLt_int, gLe_int, gGt_int, gGe_int, gNeg_int, gEq_int, gNe_int, gI2C_int, gInt_int, gAbs_int, gLen_lst, gLen_tup, List.getElem?_cons_zero, List.getElem?_cons_succ, List.set_cons_zero, List.set_cons_succ, List.append_nil, if_true, if_false, decide_true, decide_false, Int.reduceEq, Int.reduceLT, Int.reduceLE, Int.reduceNeg, Int.reduceAdd, Int.reduceSub, Bool.not_true, Bool.not_false, reduceIte, Bool.false_eq_true, Option.map_some, Option.bind_some, Nat.reduceAdd, gTupF, gsCons, gsNil, seqOf, lisOf, lstOf, List.length_cons, List.length_nil, isi_x])]
  have a3 : gAdd S (.lst [(FL.D.bl true), (FL.D.bl false), (FL.D.bl false)]) (.lst [(FL.D.bl false), (FL.D.bl false), (FL.D.bl false)]) = some (.lst [(FL.D.bl true), (FL.D.bl false), (FL.D.bl false), (FL.D.bl false), (FL.D.bl false), (FL.D.bl false)]) := gCat_lst (by decide)
  rw [seq1 (env' := [some (.exn (c "OutOfRange") (excF r)), some (.lst [(FL.D.bl true), (FL.D.bl false), (FL.D.bl false), (FL.D.bl false), (FL.D.bl false), (FL.D.bl false)])]) (S' := S) (by simp only [sSeq, sNext, sDrop, sRet, sRetN, sIf, sAsg, gN, fVar, fC, fBin, fUn, fBu, fNil, fCons, fTup, fLst, fB, fIf, fNot, fAnd, fOr, fV, fNotV, fAndV, fOrV, fCall, R.bind, R.bindS, R.of, RS.out, gAdd_int, gSub_int, gLt_int, gLe_int, gGt_int, gGe_int, gNeg_int, gEq_int, gNe_int, gI2C_int, gInt_int, gAbs_int, gLen_lst, gLen_tup, List.getElem?_cons_zero, List.getElem?_cons_succ, List.set_cons_zero, List.set_cons_succ, List.append_nil, if_true, if_false, decide_true, decide_false, Int.reduceEq, Int.reduceLT, Int.reduceLE, Int.reduceNeg, Int.reduceAdd, Int.reduceSub, Bool.not_true, Bool.not_false, reduceIte, Bool.false_eq_true, Option.map_some, Option.bind_some, Nat.reduceAdd, gTupF, gsCons, gsNil, seqOf, lisOf, lstOf, List.length_cons, List.length_nil, isi_x, a3])]
  have a6 : gAdd S (.lst [(FL.D.bl true), (FL.D.bl false), (FL.D.bl false), (FL.D.bl false), (FL.D.bl false), (FL.D.bl false)]) (.lst [(FL.D.bl false), (FL.D.bl false), (FL.D.bl false)]) = some (.lst [(FL.D.bl true), (FL.D.bl false), (FL.D.bl false), (FL.D.bl false), (FL.D.bl false), (FL.D.bl false), (FL.D.bl false), (FL.D.bl false), (FL.D.bl false)]) := gCat_lst (by decide)
  rw [seq1 (env' := [some (.exn (c "OutOfRange") (excF r)), some (.lst [(FL.D.bl true), (FL.D.bl false), (FL.D.bl false), (FL.D.bl false), (FL.D.bl false), (FL.D.bl false), (FL.D.bl false), (FL.D.bl false), (FL.D.bl false)])]) (S' := S) (by simp only [sSeq, sNext, sDrop, sRet, sRetN, sIf, sAsg, gN, fVar, fC, fBin, fUn, fBu, fNil, fCons, fTup, fLst, fB, fIf, fNot, fAnd, fOr, fV, fNotV, fAndV, fOrV, fCall, R.bind, R.bindS, R.of, RS.out, gAdd_int, gSub_int, gLt_int, gLe_int, gGt_int, gGe_int, gNeg_int, gEq_int, gNe_int, gI2C_int, gInt_int, gAbs_int, gLen_lst, gLen_tup, List.getElem?_cons_zero, List.getElem?_cons_succ, List.set_cons_zero, List.set_cons_succ, List.append_nil, if_true, if_false, decide_true, decide_false, Int.reduceEq, Int.reduceLT, Int.reduceLE, Int.reduceNeg, Int.reduceAdd, Int.reduceSub, Bool.not_true, Bool.not_false, reduceIte, Bool.false_eq_true, Option.map_some, Option.bind_some, Nat.reduceAdd, gTupF, gsCons, gsNil, seqOf, lisOf, lstOf, List.length_cons, List.length_nil, isi_x, a6])]
  have a9 : gAdd S (.lst [(FL.D.bl true), (FL.D.bl false), (FL.D.bl false), (FL.D.bl false), (FL.D.bl false), (FL.D.bl false), (FL.D.bl false), (FL.D.bl false), (FL.D.bl false)]) (.lst [(FL.D.bl false), (FL.D.bl false), (FL.D.bl false)]) = some (.lst [(FL.D.bl true), (FL.D.bl false), (FL.D.bl false), (FL.D.bl false), (FL.D.bl false), (FL.D.bl false), (FL.D.bl false), (FL.D.bl false), (FL.D.bl false), (FL.D.bl false), (FL.D.bl false), (FL.D.bl false)]) := gCat_lst (by decide)
  rw [seq1 (env' := [some (.exn (c "OutOfRange") (excF r)), some (.lst [(FL.D.bl true), (FL.D.bl false), (FL.D.bl false), (FL.D.bl false), (FL.D.bl false), (FL.D.bl false), (FL.D.bl false), (FL.D.bl false), (FL.D.bl false), (FL.D.bl false), (FL.D.bl false), (FL.D.bl false)])]) (S' := S) (by simp only [sSeq, sNext, sDrop, sRet, sRetN, sIf, sAsg, gN, fVar, fC, fBin, fUn, fBu, fNil, fCons, fTup, fLst, fB, fIf, fNot, fAnd, fOr, fV, fNotV, fAndV, fOrV, fCall, R.bind, R.bindS, R.of, RS.out, gAdd_int, gSub_int, gLt_int, gLe_int, gGt_int, gGe_int, gNeg_int, gEq_int, gNe_int, gI2C_int, gInt_int, gAbs_int, gLen_lst, gLen_tup, List.getElem?_cons_zero, List.getElem?_cons_succ, List.set_cons_zero, List.set_cons_succ, List.append_nil, if_true, if_false, decide_true, decide_false, Int.reduceEq, Int.reduceLT, Int.reduceLE, Int.reduceNeg, Int.reduceAdd, Int.reduceSub, Bool.not_true, Bool.not_false, reduceIte, Bool.false_eq_true, Option.map_some, Option.bind_some, Nat.reduceAdd, gTupF, gsCons, gsNil, seqOf, lisOf, lstOf, List.length_cons, List.length_nil, isi_x, a9])]
  have a12 : gAdd S (.lst [(FL.D.bl true), (FL.D.bl false), (FL.D.bl false), (FL.D.bl false), (FL.D.bl false), (FL.D.bl false), (FL.D.bl false), (FL.D.bl false), (FL.D.bl false), (FL.D.bl false), (FL.D.bl false), (FL.D.bl false)]) (.lst [(FL.D.bl false), (FL.D.bl false)]) = some (.lst [(FL.D.bl true), (FL.D.bl false), (FL.D.bl false), (FL.D.bl false), (FL.D.bl false), (FL.D.bl false), (FL.D.bl false), (FL.D.bl false), (FL.D.bl false), (FL.D.bl false), (FL.D.bl false), (FL.D.bl false), (FL.D.bl false), (FL.D.bl false)]) := gCat_lst (by decide)
  rw [seq1 (env' := [some (.exn (c "OutOfRange") (excF r)), some (.lst [(FL.D.bl true), (FL.D.bl false), (FL.D.bl false), (FL.D.bl false), (FL.D.bl false), (FL.D.bl false), (FL.D.bl false), (FL.D.bl false), (FL.D.bl false), (FL.D.bl false), (FL.D.bl false), (FL.D.bl false), (FL.D.bl false), (FL.D.bl false)])]) (S' := S) (by simp only [sSeq, sNext, sDrop, sRet, sRetN, sIf, sAsg, gN, fVar, fC, fBin, fUn, fBu, fNil, fCons, fTup, fLst, fB, fIf, fNot, fAnd, fOr, fV, fNotV, fAndV, fOrV, fCall, R.bind, R.bindS, R.of, RS.out, gAdd_int, gSub_int, gLt_int, gLe_int, gGt_int, gGe_int, gNeg_int, gEq_int, gNe_int, gI2C_int, gInt_int, gAbs_int, gLen_lst, gLen_tup, List.getElem?_cons_zero, List.getElem?_cons_succ, List.set_cons_zero, List.set_cons_succ, List.append_nil, if_true, if_false, decide_true, decide_false, Int.reduceEq, Int.reduceLT, Int.reduceLE, Int.reduceNeg, Int.reduceAdd, Int.reduceSub, Bool.not_true, Bool.not_false, reduceIte, Bool.false_eq_true, Option.map_some, Option.bind_some, Nat.reduceAdd, gTupF, gsCons, gsNil, seqOf, lisOf, lstOf, List.length_cons, List.length_nil, isi_x, a12])]
  have a14 : gAdd S (.lst [(FL.D.bl true), (FL.D.bl false), (FL.D.bl false), (FL.D.bl false), (FL.D.bl false), (FL.D.bl false), (FL.D.bl false), (FL.D.bl false), (FL.D.bl false), (FL.D.bl false), (FL.D.bl false), (FL.D.bl false), (FL.D.bl false), (FL.D.bl false)]) (.lst [(FL.D.bl false), (FL.D.bl false), (FL.D.bl false)]) = some (.lst [(FL.D.bl true), (FL.D.bl false), (FL.D.bl false), (FL.D.bl false), (FL.D.bl false), (FL.D.bl false), (FL.D.bl false), (FL.D.bl false), (FL.D.bl false), (FL.D.bl false), (FL.D.bl false), (FL.D.bl false), (FL.D.bl false), (FL.D.bl false), (FL.D.bl false), (FL.D.bl false), (FL.D.bl false)]) := gCat_lst (by decide)
  rw [seq1 (env' := [some (.exn (c "OutOfRange") (excF r)), some (.lst [(FL.D.bl true), (FL.D.bl false), (FL.D.bl false), (FL.D.bl false), (FL.D.bl false), (FL.D.bl false), (FL.D.bl false), (FL.D.bl false), (FL.D.bl false), (FL.D.bl false), (FL.D.bl false), (FL.D.bl false), (FL.D.bl false), (FL.D.bl false), (FL.D.bl false), (FL.D.bl false), (FL.D.bl false)])]) (S' := S) (by simp only [sSeq, sNext, sDrop, sRet, sRetN, sIf, sAsg, gN, fVar, fC, fBin, fUn, fBu, fNil, fCons, fTup, fLst, fB, fIf, fNot, fAnd, fOr, fV, fNotV, fAndV, fOrV, fCall, R.bind, R.bindS, R.of, RS.out, gAdd_int, gSub_int, gLt_int, gLe_int, gGt_int, gGe_int, gNeg_int, gEq_int, gNe_int, gI2C_int, gInt_int, gAbs_int, gLen_lst, gLen_tup, List.getElem?_cons_zero, List.getElem?_cons_succ, List.set_cons_zero, List.set_cons_succ, List.append_nil, if_true, if_false, decide_true, decide_false, Int.reduceEq, Int.reduceLT, Int.reduceLE, Int.reduceNeg, Int.reduceAdd, Int.reduceSub, Bool.not_true, Bool.not_false, reduceIte, Bool.false_eq_true, Option.map_some, Option.bind_some, Nat.reduceAdd, gTupF, gsCons, gsNil, seqOf, lisOf, lstOf, List.length_cons, List.length_nil, isi_x, a14])]
  have a17 : gAdd S (.lst [(FL.D.bl true), (FL.D.bl false), (FL.D.bl false), (FL.D.bl false), (FL.D.bl false), (FL.D.bl false), (FL.D.bl false), (FL.D.bl false), (FL.D.bl false), (FL.D.bl false), (FL.D.bl false), (FL.D.bl false), (FL.D.bl false), (FL.D.bl false), (FL.D.bl false), (FL.D.bl false), (FL.D.bl false)]) (.lst [(FL.D.bl false), (FL.D.bl false), (FL.D.bl false)]) = some (.lst [(FL.D.bl true), (FL.D.bl false), (FL.D.bl false), (FL.D.bl false), (FL.D.bl false), (FL.D.bl false), (FL.D.bl false), (FL.D.bl false), (FL.D.bl false), (FL.D.bl false), (FL.D.bl false), (FL.D.bl false), (FL.D.bl false), (FL.D.bl false), (FL.D.bl false), (FL.D.bl false), (FL.D.bl false), (FL.D.bl false), (FL.D.bl false), (FL.D.bl false)]) := gCat_lst (by decide)
  rw [seq1 (env' := [some (.exn (c "OutOfRange") (excF r)), some (.lst [(FL.D.bl true), (FL.D.bl false), (FL.D.bl false), (FL.D.bl false), (FL.D.bl false), (FL.D.bl false), (FL.D.bl false), (FL.D.bl false), (FL.D.bl false), (FL.D.bl false), (FL.D.bl false), (FL.D.bl false), (FL.D.bl false), (FL.D.bl false), (FL.D.bl false), (FL.D.bl false), (FL.D.bl false), (FL.D.bl false), (FL.D.bl false), (FL.D.bl false)])]) (S' := S) (by simp only [sSeq, sNext, sDrop, sRet, sRetN, sIf, sAsg, gN, fVar, fC, fBin, fUn, fBu, fNil, fCons, fTup, fLst, fB, fIf, fNot, fAnd, fOr, fV, fNotV, fAndV, fOrV, fCall, R.bind, R.bindS, R.of, RS.out, gAdd_int, gSub_int, gLt_int, gLe_int, gGt_int, gGe_int, gNeg_int, gEq_int, gNe_int, gI2C_int, gInt_int, gAbs_int, gLen_lst, gLen_tup, List.getElem?_cons_zero, List.getElem?_cons_succ, List.set_cons_zero, List.set_cons_succ, List.append_nil, if_true, if_false, decide_true, decide_false, Int.reduceEq, Int.reduceLT, Int.reduceLE, Int.reduceNeg, Int.reduceAdd, Int.reduceSub, Bool.not_true, Bool.not_false, reduceIte, Bool.false_eq_true, Option.map_some, Option.bind_some, Nat.reduceAdd, gTupF, gsCons, gsNil, seqOf, lisOf, lstOf, List.length_cons, List.length_nil, isi_x, a17])]
  rw [seq1 (env' := [some (.exn (c "OutOfRange") (excF r)), some (.lst [(FL.D.bl true), (FL.D.bl false), (FL.D.bl false), (FL.D.bl false), (FL.D.bl false), (FL.D.bl false), (FL.D.bl false), (FL.D.bl false), (FL.D.bl false), (FL.D.bl false), (FL.D.bl false), (FL.D.bl false), (FL.D.bl false), (FL.D.bl false), (FL.D.bl false), (FL.D.bl false), (FL.D.bl false), (FL.D.bl false), (FL.D.bl false), (FL.D.bl false)])]) (S' := S) (by simp only [sSeq, sNext, sDrop, sRet, sRetN, sIf, sAsg, gN, fVar, fC, fBin, fUn, fBu, fNil, fCons, fTup, fLst, fB, fIf, fNot, fAnd, fOr, fV, fNotV, fAndV, fOrV, fCall, R.bind, R.bindS, R.of, RS.out, gAdd_int, gSub_int, gLt_int, gLe_int, gGt_int, gGe_int, gNeg_int, gEq_int, gNe_int, gI2C_int, gInt_int, gAbs_int, gLen_lst, gLen_tup, List.getElem?_cons_zero, List.getElem?_cons_succ, List.set_cons_zero, List.set_cons_succ, List.append_nil, if_true, if_false, decide_true, decide_false, Int.reduceEq, Int.reduceLT, Int.reduceLE, Int.reduceNeg, Int.reduceAdd, Int.reduceSub, Bool.not_true, Bool.not_false, reduceIte, Bool.false_eq_true, Option.map_some, Option.bind_some, Nat.reduceAdd, gTupF, gsCons, gsNil, seqOf, lisOf, lstOf, List.length_cons, List.length_nil, isi_y, fMethL, cn])]
  rw [seqR (d := firstD (some r)) (S' := S) (by simp only [sSeq, sNext, sDrop, sRet, sRetN, sIf, sAsg, gN, fVar, fC, fBin, fUn, fBu, fNil, fCons, fTup, fLst, fB, fIf, fNot, fAnd, fOr, fV, fNotV, fAndV, fOrV, fCall, R.bind, R.bindS, R.of, RS.out, gAdd_int, gSub_int, gLt_int, gLe_int, gGt_int, gGe_int, gNeg_int, gEq_int, gNe_int, gI2C_int, gInt_int, gAbs_int, gLen_lst, gLen_tup, List.getElem?_cons_zero, List.getElem?_cons_succ, List.set_cons_zero, List.set_cons_succ, List.append_nil, if_true, if_false, decide_true, decide_false, Int.reduceEq, Int.reduceLT, Int.reduceLE, Int.reduceNeg, Int.reduceAdd, Int.reduceSub, Bool.not_true, Bool.not_false, reduceIte, Bool.false_eq_true, Option.map_some, Option.bind_some, Nat.reduceAdd, gTupF, gsCons, gsNil, seqOf, lisOf, lstOf, List.length_cons, List.length_nil, isi_x, f1, f2] <;> rfl)]
  rfl
/-! ### asked, compared -/
theorem e_ltake {S : Sto} {b1 b2 : Bool} {l : List (Int × Int)} {p s a : Int} (hn : l.length ≤ 900) : f_l_take c [gvD b1 b2 l, .int p, .int s, .int a] S = .ok (due0 l p s a) S := by
  rw [show f_l_take c [gvD b1 b2 l, .int p, .int s, .int a] S = (g_l_take c [some (gvD b1 b2 l), some (.int p), some (.int s), some (.int a), none] S).out from rfl]
  unfold g_l_take due0 toldD
  have ht := e_take (c := c) (S := S) (b1 := b1) (b2 := b2) (l := l) (p := p) (s := s) (a := a) hn
  cases hw : w0 l p s a with
  | none =>
    rw [hw] at ht
    rw [take_taken hw] at ht
    unfold sTry
    simp only [sSeq, sNext, sDrop, sRet, sRetN, sIf, sAsg, gN, fVar, fC, fBin, fUn, fBu, fNil, fCons, fTup, fLst, fB, fIf, fNot, fAnd, fOr, fV, fNotV, fAndV, fOrV, fCall, R.bind, R.bindS, R.of, RS.out, gAdd_int, gSub_int, gLt_int, gLe_int, gGt_int, gGe_int, gNeg_int, gEq_int, gNe_int, gI2C_int, gInt_int, gAbs_int, gLen_lst, gLen_tup, List.getElem?_cons_zero, List.getElem?_cons_succ, List.set_cons_zero, List.set_cons_succ, List.append_nil, if_true, if_false, decide_true, decide_false, Int.reduceEq, Int.reduceLT, Int.reduceLE, Int.reduceNeg, Int.reduceAdd, Int.reduceSub, Bool.not_true, Bool.not_false, reduceIte, Bool.false_eq_true, Option.map_some, Option.bind_some, Nat.reduceAdd, gTupF, gsCons, gsNil, seqOf, lisOf, lstOf, List.length_cons, List.length_nil, ht]
  | some r =>
    rw [hw] at ht
    have hr := e_refused (c := c) (S := S) (r := r)
    have nx : (firstD (some r)).nox = true := by rfl
    unfold sTry sSuite
    simp only [sSeq, sNext, sDrop, sRet, sRetN, sIf, sAsg, gN, fVar, fC, fBin, fUn, fBu, fNil, fCons, fTup, fLst, fB, fIf, fNot, fAnd, fOr, fV, fNotV, fAndV, fOrV, fCall, R.bind, R.bindS, R.of, RS.out, gAdd_int, gSub_int, gLt_int, gLe_int, gGt_int, gGe_int, gNeg_int, gEq_int, gNe_int, gI2C_int, gInt_int, gAbs_int, gLen_lst, gLen_tup, List.getElem?_cons_zero, List.getElem?_cons_succ, List.set_cons_zero, List.set_cons_succ, List.append_nil, if_true, if_false, decide_true, decide_false, Int.reduceEq, Int.reduceLT, Int.reduceLE, Int.reduceNeg, Int.reduceAdd, Int.reduceSub, Bool.not_true, Bool.not_false, reduceIte, Bool.false_eq_true, Option.map_some, Option.bind_some, Nat.reduceAdd, gTupF, gsCons, gsNil, seqOf, lisOf, lstOf, List.length_cons, List.length_nil, ht, List.lookup, beq_self_eq_true, fCallH, hr, R.noX, nx]
theorem e_lprice {S : Sto} {b1 b2 : Bool} {l : List (Int × Int)} {p : Int} (hn : l.length ≤ 900) : f_l_price_of c [gvD b1 b2 l, .int p] S = .ok (due1 l p) S := by
  rw [show f_l_price_of c [gvD b1 b2 l, .int p] S = (g_l_price_of c [some (gvD b1 b2 l), some (.int p), none] S).out from rfl]
  unfold g_l_price_of due1 toldD
  have ht := e_price_of (c := c) (S := S) (b1 := b1) (b2 := b2) (l := l) (p := p) hn
  cases hw : w1 l p with
  | none =>
    rw [hw] at ht
    unfold sTry
    simp only [sSeq, sNext, sDrop, sRet, sRetN, sIf, sAsg, gN, fVar, fC, fBin, fUn, fBu, fNil, fCons, fTup, fLst, fB, fIf, fNot, fAnd, fOr, fV, fNotV, fAndV, fOrV, fCall, R.bind, R.bindS, R.of, RS.out, gAdd_int, gSub_int, gLt_int, gLe_int, gGt_int, gGe_int, gNeg_int, gEq_int, gNe_int, gI2C_int, gInt_int, gAbs_int, gLen_lst, gLen_tup, List.getElem?_cons_zero, List.getElem?_cons_succ, List.set_cons_zero, List.set_cons_succ, List.append_nil, if_true, if_false, decide_true, decide_false, Int.reduceEq, Int.reduceLT, Int.reduceLE, Int.reduceNeg, Int.reduceAdd, Int.reduceSub, Bool.not_true, Bool.not_false, reduceIte, Bool.false_eq_true, Option.map_some, Option.bind_some, Nat.reduceAdd, gTupF, gsCons, gsNil, seqOf, lisOf, lstOf, List.length_cons, List.length_nil, ht]
  | some r =>
    rw [hw] at ht
    have hr := e_refused (c := c) (S := S) (r := r)
    have nx : (firstD (some r)).nox = true := by rfl
    unfold sTry sSuite
    simp only [sSeq, sNext, sDrop, sRet, sRetN, sIf, sAsg, gN, fVar, fC, fBin, fUn, fBu, fNil, fCons, fTup, fLst, fB, fIf, fNot, fAnd, fOr, fV, fNotV, fAndV, fOrV, fCall, R.bind, R.bindS, R.of, RS.out, gAdd_int, gSub_int, gLt_int, gLe_int, gGt_int, gGe_int, gNeg_int, gEq_int, gNe_int, gI2C_int, gInt_int, gAbs_int, gLen_lst, gLen_tup, List.getElem?_cons_zero, List.getElem?_cons_succ, List.set_cons_zero, List.set_cons_succ, List.append_nil, if_true, if_false, decide_true, decide_false, Int.reduceEq, Int.reduceLT, Int.reduceLE, Int.reduceNeg, Int.reduceAdd, Int.reduceSub, Bool.not_true, Bool.not_false, reduceIte, Bool.false_eq_true, Option.map_some, Option.bind_some, Nat.reduceAdd, gTupF, gsCons, gsNil, seqOf, lisOf, lstOf, List.length_cons, List.length_nil, ht, List.lookup, beq_self_eq_true, fCallH, hr, R.noX, nx]
theorem e_lamount {S : Sto} {b1 b2 : Bool} {l : List (Int × Int)} {s : Int} (hn : l.length ≤ 900) : f_l_amount_of c [gvD b1 b2 l, .int s] S = .ok (due2 l s) S := by
  rw [show f_l_amount_of c [gvD b1 b2 l, .int s] S = (g_l_amount_of c [some (gvD b1 b2 l), some (.int s), none] S).out from rfl]
  unfold g_l_amount_of due2 toldD
  have ht := e_amount_of (c := c) (S := S) (b1 := b1) (b2 := b2) (l := l) (s := s) hn
  cases hw : w2 l s with
  | none =>
    rw [hw] at ht
    unfold sTry
    simp only [sSeq, sNext, sDrop, sRet, sRetN, sIf, sAsg, gN, fVar, fC, fBin, fUn, fBu, fNil, fCons, fTup, fLst, fB, fIf, fNot, fAnd, fOr, fV, fNotV, fAndV, fOrV, fCall, R.bind, R.bindS, R.of, RS.out, gAdd_int, gSub_int, gLt_int, gLe_int, gGt_int, gGe_int, gNeg_int, gEq_int, gNe_int, gI2C_int, gInt_int, gAbs_int, gLen_lst, gLen_tup, List.getElem?_cons_zero, List.getElem?_cons_succ, List.set_cons_zero, List.set_cons_succ, List.append_nil, if_true, if_false, decide_true, decide_false, Int.reduceEq, Int.reduceLT, Int.reduceLE, Int.reduceNeg, Int.reduceAdd, Int.reduceSub, Bool.not_true, Bool.not_false, reduceIte, Bool.false_eq_true, Option.map_some, Option.bind_some, Nat.reduceAdd, gTupF, gsCons, gsNil, seqOf, lisOf, lstOf, List.length_cons, List.length_nil, ht]
  | some r =>
    rw [hw] at ht
    have hr := e_refused (c := c) (S := S) (r := r)
    have nx : (firstD (some r)).nox = true := by rfl
    unfold sTry sSuite
    simp only [sSeq, sNext, sDrop, sRet, sRetN, sIf, sAsg, gN, fVar, fC, fBin, fUn, fBu, fNil, fCons, fTup, fLst, fB, fIf, fNot, fAnd, fOr, fV, fNotV, fAndV, fOrV, fCall, R.bind, R.bindS, R.of, RS.out, gAdd_int, gSub_int, gLt_int, gLe_int, gGt_int, gGe_int, gNeg_int, gEq_int, gNe_int, gI2C_int, gInt_int, gAbs_int, gLen_lst, gLen_tup, List.getElem?_cons_zero, List.getElem?_cons_succ, List.set_cons_zero, List.set_cons_succ, List.append_nil, if_true, if_false, decide_true, decide_false, Int.reduceEq, Int.reduceLT, Int.reduceLE, Int.reduceNeg, Int.reduceAdd, Int.reduceSub, Bool.not_true, Bool.not_false, reduceIte, Bool.false_eq_true, Option.map_some, Option.bind_some, Nat.reduceAdd, gTupF, gsCons, gsNil, seqOf, lisOf, lstOf, List.length_cons, List.length_nil, ht, List.lookup, beq_self_eq_true, fCallH, hr, R.noX, nx]
theorem ok_words {x : String} (h : PySem.PyData.strOk (PySem.Str.ofString x) = true) {S : Sto} {k : Nat} : f_l_same (k + 1) [wordD x, wordD x] S = .ok (.bl true) S := same_word h
theorem same2 {S : Sto} {k : Nat} {x y : FL.D} (h1 : f_l_same k [x, x] S = .ok (.bl true) S) (h2 : f_l_same k [y, y] S = .ok (.bl true) S) : f_l_same (k + 1) [.tup [x, y], .tup [x, y]] S = .ok (.bl true) S :=
  same_tup (by show 2 ≤ 1000; decide) fun d hd => by
    rcases List.mem_cons.mp hd with rfl | hd
    · exact h1
    · rw [List.mem_singleton.mp hd]; exact h2
theorem same3 {S : Sto} {k : Nat} {x y z : FL.D} (h1 : f_l_same k [x, x] S = .ok (.bl true) S) (h2 : f_l_same k [y, y] S = .ok (.bl true) S) (h3 : f_l_same k [z, z] S = .ok (.bl true) S) : f_l_same (k + 1) [.tup [x, y, z], .tup [x, y, z]] S = .ok (.bl true) S :=
  same_tup (by show 3 ≤ 1000; decide) fun d hd => by
    rcases List.mem_cons.mp hd with rfl | hd
    · exact h1
    · rcases List.mem_cons.mp hd with rfl | hd
      · exact h2
      · rw [List.mem_singleton.mp hd]; exact h3
def goodW (x : String) : Prop := PySem.PyData.strOk (PySem.Str.ofString x) = true
theorem same_told {S : Sto} {k : Nat} {x : FL.D} {w : Option (String × Int)} (hw : ∀ r, w = some r → goodW r.1) (h : f_l_same (k + 1) [x, x] S = .ok (.bl true) S) : f_l_same (k + 2) [toldD x w, toldD x w] S = .ok (.bl true) S := by
  unfold toldD
  cases w with
  | none => exact same2 (same_word (by decide +kernel)) h
  | some r => exact same3 (same_word (by decide +kernel)) (same_word (hw r rfl)) same_int
theorem firstV_mem : ∀ {ls : List Look} {r : String × Int}, firstV ls = some r → ∃ k ∈ ls, k.1 = r.1
  | [], r, h => by cases h
  | x :: ls, r, h => by
    unfold firstV at h
    by_cases hb : badB x = true
    · rw [if_pos hb] at h
      cases h
      exact ⟨x, List.mem_cons_self, rfl⟩
    · rw [if_neg hb] at h
      obtain ⟨k, hk, e⟩ := firstV_mem h
      exact ⟨k, List.mem_cons_of_mem _ hk, e⟩
theorem looksV_word : ∀ (b : Int) (l : List (Int × Int)), ∀ k ∈ looksV b l, k.1 = "seeker" ∨ k.1 = "amount"
  | _, [], k, h => by cases h
  | b, e :: l, k, h => by
    unfold looksV at h
    rcases List.mem_cons.mp h with rfl | h
    · exact .inl rfl
    · rcases List.mem_cons.mp h with rfl | h
      · exact .inr rfl
      · exact looksV_word e.1 l k h
theorem g_entries : goodW "entries" := by unfold goodW; decide +kernel
theorem g_seeker : goodW "seeker" := by unfold goodW; decide +kernel
theorem g_amount : goodW "amount" := by unfold goodW; decide +kernel
theorem g_places : goodW "places" := by unfold goodW; decide +kernel
theorem lk_word {l : List (Int × Int)} {k : Look} (h : k ∈ lkV l) : goodW k.1 := by
  rcases List.mem_append.mp h with h | h
  · rw [List.mem_singleton.mp h]; exact g_entries
  · rcases looksV_word _ _ _ h with e | e
    · rw [e]; exact g_seeker
    · rw [e]; exact g_amount
theorem w0_word {l : List (Int × Int)} {p s a : Int} {r : String × Int} (h : w0 l p s a = some r) : goodW r.1 := by
  obtain ⟨k, hk, e⟩ := firstV_mem h
  rw [← e]
  simp only [List.mem_append, List.mem_singleton] at hk
  rcases hk with (((hk | hk) | hk) | hk) | hk
  · exact lk_word (List.mem_append.mpr (hk.imp (fun z => by rw [z]; exact List.mem_cons_self) id))
  · rw [hk]; exact g_places
  · rw [hk]; exact g_seeker
  · rw [hk]; exact g_amount
  · rw [hk]; exact g_entries
theorem w1_word {l : List (Int × Int)} {p : Int} {r : String × Int} (h : w1 l p = some r) : goodW r.1 := by
  obtain ⟨k, hk, e⟩ := firstV_mem h
  rw [← e]
  simp only [List.mem_append, List.mem_singleton] at hk
  rcases hk with (hk | hk) | hk
  · exact lk_word (List.mem_append.mpr (hk.imp (fun z => by rw [z]; exact List.mem_cons_self) id))
  · rw [hk]; exact g_places
  · rw [hk]; exact g_entries
theorem w2_word {l : List (Int × Int)} {s : Int} {r : String × Int} (h : w2 l s = some r) : goodW r.1 := by
  obtain ⟨k, hk, e⟩ := firstV_mem h
  rw [← e]
  simp only [List.mem_append, List.mem_singleton] at hk
  rcases hk with hk | hk
  · exact lk_word (List.mem_append.mpr (hk.imp (fun z => by rw [z]; exact List.mem_cons_self) id))
  · rw [hk]; exact g_seeker
theorem takenV_word (l : List (Int × Int)) (p s a : Int) : goodW (takenV l p s a).1 := by
  unfold takenV
  split
  · show goodW "held"; unfold goodW; decide +kernel
  · split
    · show goodW "low"; unfold goodW; decide +kernel
    · split
      · show goodW "taken"; unfold goodW; decide +kernel
      · show goodW "taken"; unfold goodW; decide +kernel
theorem takenV_len (l : List (Int × Int)) (p s a : Int) : (takenV l p s a).2.1.length ≤ 2 * l.length + 1 := by
  have pl : ∀ x : List (Int × Int), x.length ≤ l.length → (putV x s a).length ≤ 2 * l.length + 1 := fun x h => by
    unfold putV
    have := List.length_filter_le (fun e : Int × Int => decide (e.1 < s)) x
    have := List.length_filter_le (fun e : Int × Int => decide (s < e.1)) x
    simp only [List.length_append, List.length_cons, List.length_nil]
    omega
  unfold takenV
  split
  · show l.length ≤ _; omega
  · split
    · show l.length ≤ _; omega
    · split
      · exact pl _ (List.length_filter_le _ _)
      · exact pl _ (List.length_filter_le _ _)
theorem same_due0 {S : Sto} {l : List (Int × Int)} {p s a : Int} (hn : l.length ≤ 400) : f_l_same 6 [due0 l p s a, due0 l p s a] S = .ok (.bl true) S := by
  refine same_told (k := 4) (fun r h => w0_word h) (same3 (k := 4) (same_word (takenV_word l p s a)) ?_ same_int)
  refine same_tup (k := 3) (by rw [List.length_map]; have := takenV_len l p s a; omega) fun d hd => ?_
  obtain ⟨e, _, rfl⟩ := List.mem_map.mp hd
  exact same2 same_int same_int
theorem same_due1 {S : Sto} {l : List (Int × Int)} {p : Int} : f_l_same 6 [due1 l p, due1 l p] S = .ok (.bl true) S := same_told (k := 4) (fun r h => w1_word h) same_int
theorem same_due2 {S : Sto} {l : List (Int × Int)} {s : Int} : f_l_same 6 [due2 l s, due2 l s] S = .ok (.bl true) S := same_told (k := 4) (fun r h => w2_word h) same_int
end K19
set_option maxRecDepth 100000
set_option maxHeartbeats 2000000
namespace K19
open FL
variable {c : String → PySem.Addr}
/-! ### one question -/
theorem e_right {S : Sto} {l : List (Int × Int)} {p s a form : Int} (hn : l.length ≤ 400) (hS : S.all (Cell.plain S.length) = true) : f_l_right c [askD l p s a, .int form] S = .ok (.bl true) S := by
  rw [show f_l_right c [askD l p s a, .int form] S = (g_l_right c [some (askD l p s a), some (.int form), none, none, none, none, none, none, none] S).out from rfl]
  unfold g_l_right
  rw [seq1 (env' := [some (askD l p s a), some (.int form), some (.lst (entsD l)), some (.int p), some (.int s), some (.int a), none, none, none]) (S' := S) (by simp only [sSeq, sNext, sDrop, sRet, sRetN, sIf, sAsg, gN, fVar, fC, fBin, fUn, fBu, fNil, fCons, fTup, fLst, fB, fIf, fNot, fAnd, fOr, fV, fNotV, fAndV, fOrV, fCall, R.bind, R.bindS, R.of, RS.out, gAdd_int, gSub_int, gLt_int, gLe_int, gGt_int, gGe_int, gNeg_int, gEq_int, gNe_int, gI2C_int, gInt_int, gAbs_int, gLen_lst, gLen_tup, List.getElem?_cons_zero, List.getElem?_cons_succ, List.set_cons_zero, List.set_cons_succ, List.append_nil, if_true, if_false, decide_true, decide_false, Int.reduceEq, Int.reduceLT, Int.reduceLE, Int.reduceNeg, Int.reduceAdd, Int.reduceSub, Bool.not_true, Bool.not_false, reduceIte, Bool.false_eq_true, Option.map_some, Option.bind_some, Nat.reduceAdd, gTupF, gsCons, gsNil, seqOf, lisOf, lstOf, List.length_cons, List.length_nil])]
  have r1 := lc_ents (fi := iSeq (fVar 2)) (g := gN 8) (ft := fYes) (fe := fBu (fun S ds => (gList S ds).map .lst) (fCons (fVar 8) fNil)) (vs := [8]) (env := [some (askD l p s a), some (.int form), some (.lst (entsD l)), some (.int p), some (.int s), some (.int a), none, none, none]) (S := S) (l := l) (fun e => some (entF true e)) rfl (by omega) fun e => rfl
  rw [fm_some] at r1
  rw [seq1 (env' := [some (askD l p s a), some (.int form), some (.lst (entsD l)), some (.int p), some (.int s), some (.int a), some (gvD false true l), none, none]) (S' := S) (by simp only [sSeq, sNext, sDrop, sRet, sRetN, sIf, sAsg, gN, fVar, fC, fBin, fUn, fBu, fNil, fCons, fTup, fLst, fB, fIf, fNot, fAnd, fOr, fV, fNotV, fAndV, fOrV, fCall, R.bind, R.bindS, R.of, RS.out, gAdd_int, gSub_int, gLt_int, gLe_int, gGt_int, gGe_int, gNeg_int, gEq_int, gNe_int, gI2C_int, gInt_int, gAbs_int, gLen_lst, gLen_tup, List.getElem?_cons_zero, List.getElem?_cons_succ, List.set_cons_zero, List.set_cons_succ, List.append_nil, if_true, if_false, decide_true, decide_false, Int.reduceEq, Int.reduceLT, Int.reduceLE, Int.reduceNeg, Int.reduceAdd, Int.reduceSub, Bool.not_true, Bool.not_false, reduceIte, Bool.false_eq_true, Option.map_some, Option.bind_some, Nat.reduceAdd, gTupF, gsCons, gsNil, seqOf, lisOf, lstOf, List.length_cons, List.length_nil, r1]; rfl)]
  have tl : ∀ (x : List FL.D), gTuple S [.lst x] = some (.tup x) := fun x => rfl
  have given : ∃ b1 b2, sSeq (sIf (fB (fBin (gEq false) (fVar 1) (fC (.int 1)))) (sAsg (fBu gTuple (fCons (fVar 2) fNil)) (gN 6)) sNext)
      (sIf (fB (fBin (gEq false) (fVar 1) (fC (.int 2)))) (sAsg (fBu gTuple (fCons (fVar 6) fNil)) (gN 6)) sNext) [some (askD l p s a), some (.int form), some (.lst (entsD l)), some (.int p), some (.int s), some (.int a), some (gvD false true l), none, none] S =
      .fl (.nx [some (askD l p s a), some (.int form), some (.lst (entsD l)), some (.int p), some (.int s), some (.int a), some (gvD b1 b2 l), none, none]) S := by
    by_cases h1 : form = 1
    · subst h1
      refine ⟨true, false, ?_⟩
      rw [seq1 (env' := [some (askD l p s a), some (.int 1), some (.lst (entsD l)), some (.int p), some (.int s), some (.int a), some (gvD true false l), none, none]) (S' := S) (by simp only [sSeq, sNext, sDrop, sRet, sRetN, sIf, sAsg, gN, fVar, fC, fBin, fUn, fBu, fNil, fCons, fTup, fLst, fB, fIf, fNot, fAnd, fOr, fV, fNotV, fAndV, fOrV, fCall, R.bind, R.bindS, R.of, RS.out, gAdd_int, gSub_int, gLt_int, gLe_int, gGt_int, gGe_int, gNeg_int, gEq_int, gNe_int, gI2C_int, gInt_int, gAbs_int, gLen_lst, gLen_tup, List.getElem?_cons_zero, List.getElem?_cons_succ, List.set_cons_zero, List.set_cons_succ, List.append_nil, if_true, if_false, decide_true, decide_false, Int.reduceEq, Int.reduceLT, Int.reduceLE, Int.reduceNeg, Int.reduceAdd, Int.reduceSub, Bool.not_true, Bool.not_false, reduceIte, Bool.false_eq_true, Option.map_some, Option.bind_some, Nat.reduceAdd, gTupF, gsCons, gsNil, seqOf, lisOf, lstOf, List.length_cons, List.length_nil, tl]; rfl)]
      simp only [sSeq, sNext, sDrop, sRet, sRetN, sIf, sAsg, gN, fVar, fC, fBin, fUn, fBu, fNil, fCons, fTup, fLst, fB, fIf, fNot, fAnd, fOr, fV, fNotV, fAndV, fOrV, fCall, R.bind, R.bindS, R.of, RS.out, gAdd_int, gSub_int, gLt_int, gLe_int, gGt_int, gGe_int, gNeg_int, gEq_int, gNe_int, gI2C_int, gInt_int, gAbs_int, gLen_lst, gLen_tup, List.getElem?_cons_zero, List.getElem?_cons_succ, List.set_cons_zero, List.set_cons_succ, List.append_nil, if_true, if_false, decide_true, decide_false, Int.reduceEq, Int.reduceLT, Int.reduceLE, Int.reduceNeg, Int.reduceAdd, Int.reduceSub, Bool.not_true, Bool.not_false, reduceIte, Bool.false_eq_true, Option.map_some, Option.bind_some, Nat.reduceAdd, gTupF, gsCons, gsNil, seqOf, lisOf, lstOf, List.length_cons, List.length_nil]
    · rw [seq1 (env' := [some (askD l p s a), some (.int form), some (.lst (entsD l)), some (.int p), some (.int s), some (.int a), some (gvD false true l), none, none]) (S' := S) (by simp only [sSeq, sNext, sDrop, sRet, sRetN, sIf, sAsg, gN, fVar, fC, fBin, fUn, fBu, fNil, fCons, fTup, fLst, fB, fIf, fNot, fAnd, fOr, fV, fNotV, fAndV, fOrV, fCall, R.bind, R.bindS, R.of, RS.out, gAdd_int, gSub_int, gLt_int, gLe_int, gGt_int, gGe_int, gNeg_int, gEq_int, gNe_int, gI2C_int, gInt_int, gAbs_int, gLen_lst, gLen_tup, List.getElem?_cons_zero, List.getElem?_cons_succ, List.set_cons_zero, List.set_cons_succ, List.append_nil, if_true, if_false, decide_true, decide_false, Int.reduceEq, Int.reduceLT, Int.reduceLE, Int.reduceNeg, Int.reduceAdd, Int.reduceSub, Bool.not_true, Bool.not_false, reduceIte, Bool.false_eq_true, Option.map_some, Option.bind_some, Nat.reduceAdd, gTupF, gsCons, gsNil, seqOf, lisOf, lstOf, List.length_cons, List.length_nil, decide_eq_false h1])]
      by_cases h2 : form = 2
      · subst h2
        refine ⟨true, true, ?_⟩
        have tg : gTuple S [gvD false true l] = some (gvD true true l) := rfl
        simp only [sSeq, sNext, sDrop, sRet, sRetN, sIf, sAsg, gN, fVar, fC, fBin, fUn, fBu, fNil, fCons, fTup, fLst, fB, fIf, fNot, fAnd, fOr, fV, fNotV, fAndV, fOrV, fCall, R.bind, R.bindS, R.of, RS.out, gAdd_int, gSub_int, gLt_int, gLe_int, gGt_int, gGe_int, gNeg_int, gEq_int, gNe_int, gI2C_int, gInt_int, gAbs_int, gLen_lst, gLen_tup, List.getElem?_cons_zero, List.getElem?_cons_succ, List.set_cons_zero, List.set_cons_succ, List.append_nil, if_true, if_false, decide_true, decide_false, Int.reduceEq, Int.reduceLT, Int.reduceLE, Int.reduceNeg, Int.reduceAdd, Int.reduceSub, Bool.not_true, Bool.not_false, reduceIte, Bool.false_eq_true, Option.map_some, Option.bind_some, Nat.reduceAdd, gTupF, gsCons, gsNil, seqOf, lisOf, lstOf, List.length_cons, List.length_nil, tg]
      · exact ⟨false, true, by simp only [sSeq, sNext, sDrop, sRet, sRetN, sIf, sAsg, gN, fVar, fC, fBin, fUn, fBu, fNil, fCons, fTup, fLst, fB, fIf, fNot, fAnd, fOr, fV, fNotV, fAndV, fOrV, fCall, R.bind, R.bindS, R.of, RS.out, gAdd_int, gSub_int, gLt_int, gLe_int, gGt_int, gGe_int, gNeg_int, gEq_int, gNe_int, gI2C_int, gInt_int, gAbs_int, gLen_lst, gLen_tup, List.getElem?_cons_zero, List.getElem?_cons_succ, List.set_cons_zero, List.set_cons_succ, List.append_nil, if_true, if_false, decide_true, decide_false, Int.reduceEq, Int.reduceLT, Int.reduceLE, Int.reduceNeg, Int.reduceAdd, Int.reduceSub, Bool.not_true, Bool.not_false, reduceIte, Bool.false_eq_true, Option.map_some, Option.bind_some, Nat.reduceAdd, gTupF, gsCons, gsNil, seqOf, lisOf, lstOf, List.length_cons, List.length_nil, decide_eq_false h2]⟩
  obtain ⟨b1, b2, hg⟩ := given
  rw [seq2 hg]
  have hd := e_dues (S := S) (l := l) (p := p) (s := s) (a := a) (by omega) hS
  rw [seq1 (env' := [some (askD l p s a), some (.int form), some (.lst (entsD l)), some (.int p), some (.int s), some (.int a), some (gvD b1 b2 l), some (.lst [due0 l p s a, due1 l p, due2 l s]), none]) (S' := S) (by simp only [sSeq, sNext, sDrop, sRet, sRetN, sIf, sAsg, gN, fVar, fC, fBin, fUn, fBu, fNil, fCons, fTup, fLst, fB, fIf, fNot, fAnd, fOr, fV, fNotV, fAndV, fOrV, fCall, R.bind, R.bindS, R.of, RS.out, gAdd_int, gSub_int, gLt_int, gLe_int, gGt_int, gGe_int, gNeg_int, gEq_int, gNe_int, gI2C_int, gInt_int, gAbs_int, gLen_lst, gLen_tup, List.getElem?_cons_zero, List.getElem?_cons_succ, List.set_cons_zero, List.set_cons_succ, List.append_nil, if_true, if_false, decide_true, decide_false, Int.reduceEq, Int.reduceLT, Int.reduceLE, Int.reduceNeg, Int.reduceAdd, Int.reduceSub, Bool.not_true, Bool.not_false, reduceIte, Bool.false_eq_true, Option.map_some, Option.bind_some, Nat.reduceAdd, gTupF, gsCons, gsNil, seqOf, lisOf, lstOf, List.length_cons, List.length_nil, hd])]
  have t0 := e_ltake (c := c) (S := S) (b1 := b1) (b2 := b2) (l := l) (p := p) (s := s) (a := a) (by omega)
  have t1 := e_lprice (c := c) (S := S) (b1 := b1) (b2 := b2) (l := l) (p := p) (by omega)
  have t2 := e_lamount (c := c) (S := S) (b1 := b1) (b2 := b2) (l := l) (s := s) (by omega)
  have i0 : gIx S (.lst [due0 l p s a, due1 l p, due2 l s]) (.int 0) = some (due0 l p s a) := gIx_lst (k := 0) rfl
  have i1 : gIx S (.lst [due0 l p s a, due1 l p, due2 l s]) (.int 1) = some (due1 l p) := gIx_lst (k := 1) rfl
  have i2 : gIx S (.lst [due0 l p s a, due1 l p, due2 l s]) (.int 2) = some (due2 l s) := gIx_lst (k := 2) rfl
  have s0 := same_due0 (S := S) (l := l) (p := p) (s := s) (a := a) hn
  have s1 := same_due1 (S := S) (l := l) (p := p)
  have s2 := same_due2 (S := S) (l := l) (s := s)
  rw [seq1 (env' := [some (askD l p s a), some (.int form), some (.lst (entsD l)), some (.int p), some (.int s), some (.int a), some (gvD b1 b2 l), some (.lst [due0 l p s a, due1 l p, due2 l s]), none]) (S' := S) (by simp only [sSeq, sNext, sDrop, sRet, sRetN, sIf, sAsg, gN, fVar, fC, fBin, fUn, fBu, fNil, fCons, fTup, fLst, fB, fIf, fNot, fAnd, fOr, fV, fNotV, fAndV, fOrV, fCall, R.bind, R.bindS, R.of, RS.out, gAdd_int, gSub_int, gLt_int, gLe_int, gGt_int, gGe_int, gNeg_int, gEq_int, gNe_int, gI2C_int, gInt_int, gAbs_int, gLen_lst, gLen_tup, List.getElem?_cons_zero, List.getElem?_cons_succ, List.set_cons_zero, List.set_cons_succ, List.append_nil, if_true, if_false, decide_true, decide_false, Int.reduceEq, Int.reduceLT, Int.reduceLE, Int.reduceNeg, Int.reduceAdd, Int.reduceSub, Bool.not_true, Bool.not_false, reduceIte, Bool.false_eq_true, Option.map_some, Option.bind_some, Nat.reduceAdd, gTupF, gsCons, gsNil, seqOf, lisOf, lstOf, List.length_cons, List.length_nil, t0, i0, s0])]
  rw [seq1 (env' := [some (askD l p s a), some (.int form), some (.lst (entsD l)), some (.int p), some (.int s), some (.int a), some (gvD b1 b2 l), some (.lst [due0 l p s a, due1 l p, due2 l s]), none]) (S' := S) (by simp only [sSeq, sNext, sDrop, sRet, sRetN, sIf, sAsg, gN, fVar, fC, fBin, fUn, fBu, fNil, fCons, fTup, fLst, fB, fIf, fNot, fAnd, fOr, fV, fNotV, fAndV, fOrV, fCall, R.bind, R.bindS, R.of, RS.out, gAdd_int, gSub_int, gLt_int, gLe_int, gGt_int, gGe_int, gNeg_int, gEq_int, gNe_int, gI2C_int, gInt_int, gAbs_int, gLen_lst, gLen_tup, List.getElem?_cons_zero, List.getElem?_cons_succ, List.set_cons_zero, List.set_cons_succ, List.append_nil, if_true, if_false, decide_true, decide_false, Int.reduceEq, Int.reduceLT, Int.reduceLE, Int.reduceNeg, Int.reduceAdd, Int.reduceSub, Bool.not_true, Bool.not_false, reduceIte, Bool.false_eq_true, Option.map_some, Option.bind_some, Nat.reduceAdd, gTupF, gsCons, gsNil, seqOf, lisOf, lstOf, List.length_cons, List.length_nil, t1, i1, s1])]
  rw [seq1 (env' := [some (askD l p s a), some (.int form), some (.lst (entsD l)), some (.int p), some (.int s), some (.int a), some (gvD b1 b2 l), some (.lst [due0 l p s a, due1 l p, due2 l s]), none]) (S' := S) (by simp only [sSeq, sNext, sDrop, sRet, sRetN, sIf, sAsg, gN, fVar, fC, fBin, fUn, fBu, fNil, fCons, fTup, fLst, fB, fIf, fNot, fAnd, fOr, fV, fNotV, fAndV, fOrV, fCall, R.bind, R.bindS, R.of, RS.out, gAdd_int, gSub_int, gLt_int, gLe_int, gGt_int, gGe_int, gNeg_int, gEq_int, gNe_int, gI2C_int, gInt_int, gAbs_int, gLen_lst, gLen_tup, List.getElem?_cons_zero, List.getElem?_cons_succ, List.set_cons_zero, List.set_cons_succ, List.append_nil, if_true, if_false, decide_true, decide_false, Int.reduceEq, Int.reduceLT, Int.reduceLE, Int.reduceNeg, Int.reduceAdd, Int.reduceSub, Bool.not_true, Bool.not_false, reduceIte, Bool.false_eq_true, Option.map_some, Option.bind_some, Nat.reduceAdd, gTupF, gsCons, gsNil, seqOf, lisOf, lstOf, List.length_cons, List.length_nil, t2, i2, s2])]
  have r2 := fLc_pure (fi := iSeq (fVar 6)) (g := gN 8) (ft := fYes) (fe := fBu gTuple (fCons (fVar 8) fNil)) (vs := [8]) (env := [some (askD l p s a), some (.int form), some (.lst (entsD l)), some (.int p), some (.int s), some (.int a), some (gvD b1 b2 l), some (.lst [due0 l p s a, due1 l p, due2 l s]), none]) (S := S) (S1 := S) (ds := l.map (entF b2)) (fun d => match d with
        | .tup [.int s, .int a] => some (entD (s, a))
        | .lst [.int s, .int a] => some (entD (s, a))
        | _ => none) (by unfold iSeq; simp only [sSeq, sNext, sDrop, sRet, sRetN, sIf, sAsg, gN, fVar, fC, fBin, fUn, fBu, fNil, fCons, fTup, fLst, fB, fIf, fNot, fAnd, fOr, fV, fNotV, fAndV, fOrV, fCall, R.bind, R.bindS, R.of, RS.out, gAdd_int, gSub_int, gLt_int, gLe_int, gGt_int, gGe_int, gNeg_int, gEq_int, gNe_int, gI2C_int, gInt_int, gAbs_int, gLen_lst, gLen_tup, List.getElem?_cons_zero, List.getElem?_cons_succ, List.set_cons_zero, List.set_cons_succ, List.append_nil, if_true, if_false, decide_true, decide_false, Int.reduceEq, Int.reduceLT, Int.reduceLE, Int.reduceNeg, Int.reduceAdd, Int.reduceSub, Bool.not_true, Bool.not_false, reduceIte, Bool.false_eq_true, Option.map_some, Option.bind_some, Nat.reduceAdd, gTupF, gsCons, gsNil, seqOf, lisOf, lstOf, List.length_cons, List.length_nil, src_gvD]) (by rw [List.length_map]; omega) fun d hd => by
          obtain ⟨e, _, rfl⟩ := List.mem_map.mp hd
          cases b2 <;> rfl
  have r3 : (l.map (entF b2)).filterMap (fun d => match d with
        | .tup [.int s, .int a] => some (entD (s, a))
        | .lst [.int s, .int a] => some (entD (s, a))
        | _ => none) = entsD l := by
        rw [List.filterMap_map]
        refine Eq.trans ?_ (fm_some entD l)
        congr 1
        funext e
        cases b2 <;> rfl
  rw [r3] at r2
  have eq := gEq_ents (S := S) (l := l)
  simp only [sSeq, sNext, sDrop, sRet, sRetN, sIf, sAsg, gN, fVar, fC, fBin, fUn, fBu, fNil, fCons, fTup, fLst, fB, fIf, fNot, fAnd, fOr, fV, fNotV, fAndV, fOrV, fCall, R.bind, R.bindS, R.of, RS.out, gAdd_int, gSub_int, gLt_int, gLe_int, gGt_int, gGe_int, gNeg_int, gEq_int, gNe_int, gI2C_int, gInt_int, gAbs_int, gLen_lst, gLen_tup, List.getElem?_cons_zero, List.getElem?_cons_succ, List.set_cons_zero, List.set_cons_succ, List.append_nil, if_true, if_false, decide_true, decide_false, Int.reduceEq, Int.reduceLT, Int.reduceLE, Int.reduceNeg, Int.reduceAdd, Int.reduceSub, Bool.not_true, Bool.not_false, reduceIte, Bool.false_eq_true, Option.map_some, Option.bind_some, Nat.reduceAdd, gTupF, gsCons, gsNil, seqOf, lisOf, lstOf, List.length_cons, List.length_nil, r2, eq]
/-! ### the table goes on -/
theorem put_good {l : List (Int × Int)} {s a : Int} (G : Good l) (hs : 0 ≤ s ∧ s ≤ 29 ∧ 0 ≤ a ∧ a ≤ 9999) (hl : (putV l s a).length ≤ 9) : Good (putV l s a) := by
  refine ⟨fun e he => ?_, hl, ?_⟩
  · unfold putV at he
    rcases List.mem_append.mp he with he | he
    · rcases List.mem_append.mp he with he | he
      · exact G.rng e (List.mem_filter.mp he).1
      · rw [List.mem_singleton.mp he]
        exact hs
    · exact G.rng e (List.mem_filter.mp he).1
  · unfold putV
    rw [List.append_assoc]
    refine List.pairwise_append.mpr ⟨G.srt.filter _, List.pairwise_append.mpr ⟨List.pairwise_singleton _ _, G.srt.filter _, fun x hx y hy => ?_⟩, fun x hx y hy => ?_⟩
    · rw [List.mem_singleton.mp hx]
      exact of_decide_eq_true (List.mem_filter.mp hy).2
    · have h1 : x.1 < s := of_decide_eq_true (List.mem_filter.mp hx).2
      rcases List.mem_append.mp hy with hy | hy
      · rw [List.mem_singleton.mp hy]
        exact h1
      · have h2 : s < y.1 := of_decide_eq_true (List.mem_filter.mp hy).2
        omega
theorem put_len (s a : Int) : ∀ l : List (Int × Int), (putV l s a).length ≤ l.length + 1 := fun l => by
  have h : ∀ l : List (Int × Int), (l.filter fun e => decide (e.1 < s)).length + (l.filter fun e => decide (s < e.1)).length ≤ l.length := fun l => by
    induction l with
    | nil => exact Nat.le_refl _
    | cons e l ih =>
      rw [List.filter_cons, List.filter_cons, List.length_cons]
      by_cases h1 : e.1 < s
      · rw [if_pos (decide_eq_true h1), if_neg (by simp; omega), List.length_cons]
        omega
      · rw [if_neg (by simpa using h1)]
        by_cases h2 : s < e.1
        · rw [if_pos (decide_eq_true h2), List.length_cons]
          omega
        · rw [if_neg (by simpa using h2)]
          omega
  unfold putV
  simp only [List.length_append, List.length_cons, List.length_nil]
  have := h l
  omega
theorem Good.filter {l : List (Int × Int)} (G : Good l) (q : Int × Int → Bool) : Good (l.filter q) :=
  ⟨fun e he => G.rng e (List.mem_filter.mp he).1, Nat.le_trans (List.length_filter_le _ _) G.len, G.srt.filter _⟩
theorem taken_good {l : List (Int × Int)} {p s a : Int} (G : Good l) (hp : 1 ≤ p ∧ p ≤ 9) (hl : (l.length : Int) ≤ p) (hs : 0 ≤ s ∧ s ≤ 29 ∧ 0 ≤ a ∧ a ≤ 9999) :
    Good (takenV l p s a).2.1 ∧ ((takenV l p s a).2.1.length : Int) ≤ p ∧ (takenV l p s a).2.2 ≤ 29 := by
  unfold takenV
  split
  · exact ⟨G, hl, by show (-1 : Int) ≤ 29; decide⟩
  · split
    · exact ⟨G, hl, by show (-1 : Int) ≤ 29; decide⟩
    · split
      · rename_i h3
        have hne : l ≠ [] := fun z => by
          rw [z] at h3
          have h3 : ((0 : Nat) : Int) = p := h3
          omega
        obtain ⟨e1, e2, e, he, e3⟩ := out_eq G hne
        have lt : (l.filter fun e => !decide (e.1 = outV l)).length < l.length := by
          refine Nat.lt_of_le_of_ne (List.length_filter_le _ _) fun z => ?_
          have := List.length_filter_eq_length_iff.mp z e he
          rw [e1, decide_eq_true e3] at this
          cases this
        have pl := put_len s a (l.filter fun e => !decide (e.1 = outV l))
        refine ⟨put_good (G.filter _) hs (by omega), ?_, ?_⟩
        · show ((putV (l.filter fun e => !decide (e.1 = outV l)) s a).length : Int) ≤ p
          omega
        · show outV l ≤ 29
          rw [e1, ← e3]
          exact (G.rng e he).2.1
      · rename_i h3
        have fl := List.length_filter_le (fun e : Int × Int => !decide (e.1 = -1)) l
        have pl := put_len s a (l.filter fun e => !decide (e.1 = -1))
        refine ⟨put_good (G.filter _) hs (by omega), ?_, by show (-1 : Int) ≤ 29; decide⟩
        show ((putV (l.filter fun e => !decide (e.1 = -1)) s a).length : Int) ≤ p
        omega
end K19
set_option maxRecDepth 100000
set_option maxHeartbeats 2000000
namespace K19
open FL
/-! ### a table is drawn -/
theorem erase_iD : ∀ (l : List Int) (j : Nat), (iD l).eraseIdx j = iD (l.eraseIdx j)
  | [], j => by cases j <;> rfl
  | x :: l, 0 => rfl
  | x :: l, j + 1 => congrArg (FL.D.int x :: ·) (erase_iD l j)
theorem cat_iD (l : List Int) (x : Int) : iD l ++ [.int x] = iD (l ++ [x]) := by
  show l.map FL.D.int ++ [FL.D.int x] = (l ++ [x]).map FL.D.int
  rw [List.map_append]
  rfl
abbrev left0 : List Int := (List.range 30).map fun i : Nat => (i : Int)
theorem rng30 {S : Sto} : gLRg lo1 S [.int 30] = some (iD left0) := by
  have e : gLRg lo1 S [.int 30] = some (rngD 0 30) := by
    unfold gLRg lo1
    simp only [Option.bind_some]
    rw [if_pos (by decide)]
    rfl
  rw [e]
  unfold rngD
  show some _ = some (((List.range 30).map fun i : Nat => (i : Int)).map FL.D.int)
  rw [List.map_map]
  congr 1
theorem erase_perm : ∀ (l : List Int) (j : Nat) (h : j < l.length), (l[j] :: l.eraseIdx j).Perm l
  | [], j, h => absurd h (Nat.not_lt_zero j)
  | x :: l, 0, h => List.Perm.refl _
  | x :: l, j + 1, h => (List.Perm.swap x (l[j]'(Nat.lt_of_succ_lt_succ h)) (l.eraseIdx j)).trans ((erase_perm l j (Nat.lt_of_succ_lt_succ h)).cons x)
structure Who (lf wh : List Int) : Prop where
  nd : (lf ++ wh).Nodup
  rng : ∀ x ∈ lf ++ wh, 0 ≤ x ∧ x ≤ 29
  len : lf.length + wh.length = 30
theorem who0 : Who left0 [] := ⟨by decide, by decide, by decide⟩
theorem Who.pop {lf wh : List Int} (h : Who lf wh) {j : Nat} (hj : j < lf.length) : Who (lf.eraseIdx j) (wh ++ [lf[j]]) := by
  have p1 : (lf[j] :: lf.eraseIdx j).Perm lf := erase_perm lf j hj
  have p : (lf.eraseIdx j ++ (wh ++ [lf[j]])).Perm (lf ++ wh) := by
    rw [← List.append_assoc]
    refine List.perm_append_comm.trans ?_
    show (lf[j] :: (lf.eraseIdx j ++ wh)).Perm (lf ++ wh)
    exact List.Perm.append_right wh p1
  refine ⟨p.nodup_iff.mpr h.nd, fun x hx => h.rng x (p.mem_iff.mp hx), ?_⟩
  have := p.length_eq
  rw [List.length_append] at this
  rw [this, List.length_append]
  exact h.len
abbrev eE (p : Int) (o2 o3 o4 o5 o6 o7 o8 o9 o10 o11 : Option FL.D) : FL.Env := [some (.loc 0), some (.int p), o2, o3, o4, o5, o6, o7, o8, o9, o10, o11]
abbrev bPick : SF := (sDrop (fMut gAppend (fVar 4) (fCons (fMut gPopAt (fVar 3) (fCons (fBin gMod (fBin gAdd (fCall f_l_draw [] (fCons (fVar 0) (fCons (fBu gLen (fCons (fVar 3) fNil)) fNil))) (fC (.int 7))) (fBu gLen (fCons (fVar 3) fNil))) fNil)) fNil)))
theorem pick {xs lf wh : List Int} {p m : Int} {o : Option FL.D} (hx : xs.length ≤ 63) (W : Who lf wh) (hw : wh.length ≤ 20) :
    ∃ ys lf' wh', ys.length ≤ 63 ∧ Who lf' wh' ∧ wh'.length = wh.length + 1 ∧ bPick (eE p (some (.int m)) (some (.loc 1)) (some (.loc 2)) o none none none none none none) [.lst (iD xs), .lst (iD lf), .lst (iD wh)] =
      .fl (.nx (eE p (some (.int m)) (some (.loc 1)) (some (.loc 2)) o none none none none none none)) [.lst (iD ys), .lst (iD lf'), .lst (iD wh')] := by
  have hl := W.len
  have hpos : (0 : Int) < (iD lf).length := by rw [List.length_map]; omega
  have hlen : ((iD lf).length : Int) ≤ 30 := by rw [List.length_map]; omega
  obtain ⟨v, ys, hv, hy, e1⟩ := e_draw (T := [.lst (iD lf), .lst (iD wh)]) (k := (iD lf).length) hx hpos (by omega)
  have hj0 : 0 ≤ (v + 7) % (iD lf).length := Int.emod_nonneg _ (by omega)
  have hj1 : (v + 7) % (iD lf).length < (iD lf).length := Int.emod_lt_of_pos _ hpos
  obtain ⟨j, hj⟩ := Int.eq_ofNat_of_zero_le hj0
  have hjl : j < lf.length := by rw [hj, List.length_map] at hj1; omega
  have l1 : gLen [.lst (iD xs), .lst (iD lf), .lst (iD wh)] [.loc 1] = some (.int (iD lf).length) := gLen_loc rfl
  have l2 : gLen [.lst (iD ys), .lst (iD lf), .lst (iD wh)] [.loc 1] = some (.int (iD lf).length) := gLen_loc rfl
  have q1 : mutAt gPopAt (.loc 1) [.int ((v + 7) % (iD lf).length)] [.lst (iD ys), .lst (iD lf), .lst (iD wh)] = .ok (.int lf[j]) [.lst (iD ys), .lst (iD (lf.eraseIdx j)), .lst (iD wh)] := by
    have := mut_popAt (S := [.lst (iD ys), .lst (iD lf), .lst (iD wh)]) (m := 1) (k := j) (xs := iD lf) (z := .int lf[j]) ((v + 7) % (iD lf).length) hj rfl (by rw [List.getElem?_map, List.getElem?_eq_getElem hjl]; rfl) (by omega)
    rw [this, erase_iD]
    rfl
  have q2 : mutAt gAppend (.loc 2) [.int lf[j]] [.lst (iD ys), .lst (iD (lf.eraseIdx j)), .lst (iD wh)] = .ok .non [.lst (iD ys), .lst (iD (lf.eraseIdx j)), .lst (iD (wh ++ [lf[j]]))] := by
    have := mut_append (S := [.lst (iD ys), .lst (iD (lf.eraseIdx j)), .lst (iD wh)]) (m := 2) (xs := iD wh) (d := .int lf[j]) rfl (by rw [List.length_map]; omega)
    rw [this, cat_iD]
    rfl
  have lo1 : ∀ a b c, locL [.lst a, .lst b, .lst c] (.loc 1) = some (1, b) := fun a b c => rfl
  have lo2 : ∀ a b c, locL [.lst a, .lst b, .lst c] (.loc 2) = some (2, c) := fun a b c => rfl
  have md : ∀ S : Sto, gMod S (.int (v + 7)) (.int (iD lf).length) = some (.int ((v + 7) % (iD lf).length)) := fun S => gMod_int hpos
  refine ⟨ys, lf.eraseIdx j, wh ++ [lf[j]], hy, W.pop hjl, by rw [List.length_append]; rfl, ?_⟩
  unfold bPick
  simp only [sSeq, sNext, sDrop, sRet, sRetN, sIf, sAsg, gN, fVar, fC, fBin, fUn, fBu, fNil, fCons, fTup, fLst, fB, fIf, fNot, fAnd, fOr, fV, fNotV, fAndV, fOrV, fCall, R.bind, R.bindS, R.of, RS.out, gAdd_int, gSub_int, gLt_int, gLe_int, gGt_int, gGe_int, gNeg_int, gEq_int, gNe_int, gI2C_int, gInt_int, gAbs_int, gLen_lst, gLen_tup, List.getElem?_cons_zero, List.getElem?_cons_succ, List.set_cons_zero, List.set_cons_succ, List.append_nil, if_true, if_false, decide_true, decide_false, Int.reduceEq, Int.reduceLT, Int.reduceLE, Int.reduceNeg, Int.reduceAdd, Int.reduceSub, Bool.not_true, Bool.not_false, reduceIte, Bool.false_eq_true, Option.map_some, Option.bind_some, Nat.reduceAdd, gTupF, gsCons, gsNil, seqOf, lisOf, lstOf, List.length_cons, List.length_nil, fMut, lo1, lo2, l1, l2, e1, md, q1, q2]
abbrev bEnt : SF := (sSeq (sAsg (fBin gMod (fBin gAdd (fBin gAdd (fCall f_l_draw [] (fCons (fVar 0) (fCons (fVar 8) fNil))) (fBu gLen (fCons (fVar 9) fNil))) (fC (.int 1))) (fVar 8)) (gN 11))
  (sDrop (fMut gAppend (fVar 9) (fCons (fTup (fCons (fVar 10) (fCons (fBin gAdd (fVar 7) (fVar 11)) fNil))) fNil))))
theorem put_ent {xs lf wh : List Int} {es : List (Int × Int)} {p m base wide s : Int} {o5 o6 o11 : Option FL.D} (hx : xs.length ≤ 63) (hw : 0 < wide ∧ wide ≤ 10000) (he : es.length ≤ 100) :
    ∃ ys a, ys.length ≤ 63 ∧ base ≤ a ∧ a < base + wide ∧ ∃ o11', bEnt (eE p (some (.int m)) (some (.loc 1)) (some (.loc 2)) o5 o6 (some (.int base)) (some (.int wide)) (some (.loc 3)) (some (.int s)) o11) [.lst (iD xs), .lst (iD lf), .lst (iD wh), .lst (entsD es)] =
      .fl (.nx (eE p (some (.int m)) (some (.loc 1)) (some (.loc 2)) o5 o6 (some (.int base)) (some (.int wide)) (some (.loc 3)) (some (.int s)) o11')) [.lst (iD ys), .lst (iD lf), .lst (iD wh), .lst (entsD (es ++ [(s, a)]))] := by
  obtain ⟨v, ys, hv, hy, e1⟩ := e_draw (T := [.lst (iD lf), .lst (iD wh), .lst (entsD es)]) (k := wide) hx hw.1 (by omega)
  have l2 : gLen [.lst (iD ys), .lst (iD lf), .lst (iD wh), .lst (entsD es)] [.loc 3] = some (.int (entsD es).length) := gLen_loc rfl
  have md : ∀ S : Sto, gMod S (.int (v + (entsD es).length + 1)) (.int wide) = some (.int ((v + (entsD es).length + 1) % wide)) := fun S => gMod_int hw.1
  have h0 : 0 ≤ (v + (entsD es).length + 1) % wide := Int.emod_nonneg _ (by omega)
  have h1 : (v + (entsD es).length + 1) % wide < wide := Int.emod_lt_of_pos _ hw.1
  have lo3 : ∀ a b c d, locL [.lst a, .lst b, .lst c, .lst d] (.loc 3) = some (3, d) := fun a b c d => rfl
  have q2 : mutAt gAppend (.loc 3) [entD (s, base + (v + (entsD es).length + 1) % wide)] [.lst (iD ys), .lst (iD lf), .lst (iD wh), .lst (entsD es)] = .ok .non [.lst (iD ys), .lst (iD lf), .lst (iD wh), .lst (entsD (es ++ [(s, base + (v + (entsD es).length + 1) % wide)]))] := by
    have := mut_append (S := [.lst (iD ys), .lst (iD lf), .lst (iD wh), .lst (entsD es)]) (m := 3) (xs := entsD es) (d := entD (s, base + (v + (entsD es).length + 1) % wide)) rfl (by rw [List.length_map]; omega)
    rw [this, show entsD es ++ [entD (s, base + (v + (entsD es).length + 1) % wide)] = entsD (es ++ [(s, base + (v + (entsD es).length + 1) % wide)]) from by simp [entsD]]
    rfl
  refine ⟨ys, base + (v + (entsD es).length + 1) % wide, hy, by omega, by omega, some (.int ((v + (entsD es).length + 1) % wide)), ?_⟩
  unfold bEnt
  rw [seq1 (env' := eE p (some (.int m)) (some (.loc 1)) (some (.loc 2)) o5 o6 (some (.int base)) (some (.int wide)) (some (.loc 3)) (some (.int s)) (some (.int ((v + (entsD es).length + 1) % wide)))) (S' := [.lst (iD ys), .lst (iD lf), .lst (iD wh), .lst (entsD es)]) (by simp only [sSeq, sNext, sDrop, sRet, sRetN, sIf, sAsg, gN, fVar, fC, fBin, fUn, fBu, fNil, fCons, fTup, fLst, fB, fIf, fNot, fAnd, fOr, fV, fNotV, fAndV, fOrV, fCall, R.bind, R.bindS, R.of, RS.out, gAdd_int, gSub_int, gLt_int, gLe_int, gGt_int, gGe_int, gNeg_int, gEq_int, gNe_int, gI2C_int, gInt_int, gAbs_int, gLen_lst, gLen_tup, List.getElem?_cons_zero, List.getElem?_cons_succ, List.set_cons_zero, List.set_cons_succ, List.append_nil, if_true, if_false, decide_true, decide_false, Int.reduceEq, Int.reduceLT, Int.reduceLE, Int.reduceNeg, Int.reduceAdd, Int.reduceSub, Bool.not_true, Bool.not_false, reduceIte, Bool.false_eq_true, Option.map_some, Option.bind_some, Nat.reduceAdd, gTupF, gsCons, gsNil, seqOf, lisOf, lstOf, List.length_cons, List.length_nil, e1, l2, md])]
  simp only [sSeq, sNext, sDrop, sRet, sRetN, sIf, sAsg, gN, fVar, fC, fBin, fUn, fBu, fNil, fCons, fTup, fLst, fB, fIf, fNot, fAnd, fOr, fV, fNotV, fAndV, fOrV, fCall, R.bind, R.bindS, R.of, RS.out, gAdd_int, gSub_int, gLt_int, gLe_int, gGt_int, gGe_int, gNeg_int, gEq_int, gNe_int, gI2C_int, gInt_int, gAbs_int, gLen_lst, gLen_tup, List.getElem?_cons_zero, List.getElem?_cons_succ, List.set_cons_zero, List.set_cons_succ, List.append_nil, if_true, if_false, decide_true, decide_false, Int.reduceEq, Int.reduceLT, Int.reduceLE, Int.reduceNeg, Int.reduceAdd, Int.reduceSub, Bool.not_true, Bool.not_false, reduceIte, Bool.false_eq_true, Option.map_some, Option.bind_some, Nat.reduceAdd, gTupF, gsCons, gsNil, seqOf, lisOf, lstOf, List.length_cons, List.length_nil, fMut, lo3, q2]
theorem srt_lt {wh : List Int} (h : wh.Nodup) : (sortI wh).Pairwise (· < ·) := by
  have h1 := sortI_sorted wh
  have h2 : (sortI wh).Nodup := (sortI_perm wh).nodup_iff.mpr h
  have h3 := h1.and h2
  exact h3.imp fun {a b} q => by
    have := q.1
    have := q.2
    omega
theorem e_entries {xs : List Int} {p : Int} (hx : xs.length ≤ 63) (hp : 1 ≤ p ∧ p ≤ 9) : ∃ l ys, Good l ∧ (l.length : Int) ≤ p ∧ ys.length ≤ 63 ∧ m_l_entries [.loc 0, .int p] (pool xs []) = .ok (.lst (entsD l)) (pool ys []) := by
  obtain ⟨v, x1, hv, h1, e1⟩ := e_draw (T := []) (k := p + 1) hx (by omega) (by omega)
  have md : ∀ S : Sto, gMod S (.int (v + p)) (.int (p + 1)) = some (.int ((v + p) % (p + 1))) := fun S => gMod_int (by omega)
  have hm0 : 0 ≤ (v + p) % (p + 1) := Int.emod_nonneg _ (by omega)
  have hm1 : (v + p) % (p + 1) < p + 1 := Int.emod_lt_of_pos _ (by omega)
  obtain ⟨many, hmany⟩ : ∃ many, many = (v + p) % (p + 1) := ⟨_, rfl⟩
  rw [← hmany] at hm0 hm1 md
  have raw : ∃ l ys lf wh, Good l ∧ (l.length : Int) ≤ p ∧ ys.length ≤ 63 ∧ f_l_entries [.loc 0, .int p] (pool xs []) = .ok (.loc 3) [.lst (iD ys), .lst (iD lf), .lst (iD wh), .lst (entsD l)] := by
    rw [show f_l_entries [.loc 0, .int p] (pool xs []) = (g_l_entries (eE p none none none none none none none none none none) (pool xs [])).out from rfl]
    unfold g_l_entries
    rw [seq1 (env' := eE p (some (.int many)) none none none none none none none none none) (S' := pool x1 []) (by simp only [sSeq, sNext, sDrop, sRet, sRetN, sIf, sAsg, gN, fVar, fC, fBin, fUn, fBu, fNil, fCons, fTup, fLst, fB, fIf, fNot, fAnd, fOr, fV, fNotV, fAndV, fOrV, fCall, R.bind, R.bindS, R.of, RS.out, gAdd_int, gSub_int, gLt_int, gLe_int, gGt_int, gGe_int, gNeg_int, gEq_int, gNe_int, gI2C_int, gInt_int, gAbs_int, gLen_lst, gLen_tup, List.getElem?_cons_zero, List.getElem?_cons_succ, List.set_cons_zero, List.set_cons_succ, List.append_nil, if_true, if_false, decide_true, decide_false, Int.reduceEq, Int.reduceLT, Int.reduceLE, Int.reduceNeg, Int.reduceAdd, Int.reduceSub, Bool.not_true, Bool.not_false, reduceIte, Bool.false_eq_true, Option.map_some, Option.bind_some, Nat.reduceAdd, gTupF, gsCons, gsNil, seqOf, lisOf, lstOf, List.length_cons, List.length_nil, e1, md])]
    rw [seq1 (env' := eE p (some (.int many)) (some (.loc 1)) none none none none none none none none) (S' := [.lst (iD x1), .lst (iD left0)]) (by simp only [sSeq, sNext, sDrop, sRet, sRetN, sIf, sAsg, gN, fVar, fC, fBin, fUn, fBu, fNil, fCons, fTup, fLst, fB, fIf, fNot, fAnd, fOr, fV, fNotV, fAndV, fOrV, fCall, R.bind, R.bindS, R.of, RS.out, gAdd_int, gSub_int, gLt_int, gLe_int, gGt_int, gGe_int, gNeg_int, gEq_int, gNe_int, gI2C_int, gInt_int, gAbs_int, gLen_lst, gLen_tup, List.getElem?_cons_zero, List.getElem?_cons_succ, List.set_cons_zero, List.set_cons_succ, List.append_nil, if_true, if_false, decide_true, decide_false, Int.reduceEq, Int.reduceLT, Int.reduceLE, Int.reduceNeg, Int.reduceAdd, Int.reduceSub, Bool.not_true, Bool.not_false, reduceIte, Bool.false_eq_true, Option.map_some, Option.bind_some, Nat.reduceAdd, gTupF, gsCons, gsNil, seqOf, lisOf, lstOf, List.length_cons, List.length_nil, fBuL, rng30]; rfl)]
    rw [seq1 (env' := eE p (some (.int many)) (some (.loc 1)) (some (.loc 2)) none none none none none none none) (S' := [.lst (iD x1), .lst (iD left0), .lst (iD [])]) (by simp only [sSeq, sNext, sDrop, sRet, sRetN, sIf, sAsg, gN, fVar, fC, fBin, fUn, fBu, fNil, fCons, fTup, fLst, fB, fIf, fNot, fAnd, fOr, fV, fNotV, fAndV, fOrV, fCall, R.bind, R.bindS, R.of, RS.out, gAdd_int, gSub_int, gLt_int, gLe_int, gGt_int, gGe_int, gNeg_int, gEq_int, gNe_int, gI2C_int, gInt_int, gAbs_int, gLen_lst, gLen_tup, List.getElem?_cons_zero, List.getElem?_cons_succ, List.set_cons_zero, List.set_cons_succ, List.append_nil, if_true, if_false, decide_true, decide_false, Int.reduceEq, Int.reduceLT, Int.reduceLE, Int.reduceNeg, Int.reduceAdd, Int.reduceSub, Bool.not_true, Bool.not_false, reduceIte, Bool.false_eq_true, Option.map_some, Option.bind_some, Nat.reduceAdd, gTupF, gsCons, gsNil, seqOf, lisOf, lstOf, List.length_cons, List.length_nil, fLoc]; rfl)]
    have sm : smallI many = true := decide_eq_true ⟨by omega, by omega⟩
    have hr : iRng gRng1 (fCons (fVar 2) fNil) (eE p (some (.int many)) (some (.loc 1)) (some (.loc 2)) none none none none none none none) [.lst (iD x1), .lst (iD left0), .lst (iD [])] = .ok (.fix (rngD 0 many.toNat)) [.lst (iD x1), .lst (iD left0), .lst (iD [])] := iRng_of (ds := [.int many]) (by simp only [sSeq, sNext, sDrop, sRet, sRetN, sIf, sAsg, gN, fVar, fC, fBin, fUn, fBu, fNil, fCons, fTup, fLst, fB, fIf, fNot, fAnd, fOr, fV, fNotV, fAndV, fOrV, fCall, R.bind, R.bindS, R.of, RS.out, gAdd_int, gSub_int, gLt_int, gLe_int, gGt_int, gGe_int, gNeg_int, gEq_int, gNe_int, gI2C_int, gInt_int, gAbs_int, gLen_lst, gLen_tup, List.getElem?_cons_zero, List.getElem?_cons_succ, List.set_cons_zero, List.set_cons_succ, List.append_nil, if_true, if_false, decide_true, decide_false, Int.reduceEq, Int.reduceLT, Int.reduceLE, Int.reduceNeg, Int.reduceAdd, Int.reduceSub, Bool.not_true, Bool.not_false, reduceIte, Bool.false_eq_true, Option.map_some, Option.bind_some, Nat.reduceAdd, gTupF, gsCons, gsNil, seqOf, lisOf, lstOf, List.length_cons, List.length_nil]) (gRng1_j sm)
    obtain ⟨env', S', q, ⟨o, rfl⟩, x2, lf, wh, rfl, h2, W, hwl⟩ := forL_run (body := fun d env S => match gN 5 d env S with
        | some env' => bPick env' S
        | none => .bad) (fun r env S => (∃ o, env = eE p (some (.int many)) (some (.loc 1)) (some (.loc 2)) o none none none none none none) ∧ ∃ xs lf wh, S = [.lst (iD xs), .lst (iD lf), .lst (iD wh)] ∧ xs.length ≤ 63 ∧ Who lf wh ∧ wh.length + r.length = many.toNat)
      (fun d r env S ⟨⟨o, e⟩, xs, lf, wh, e2, hx, W, hl⟩ => by
        subst e e2
        have hl : wh.length + (r.length + 1) = many.toNat := hl
        obtain ⟨ys, lf', wh', hy, W', hw', eb⟩ := pick (p := p) (m := many) (o := some d) hx W (by omega)
        exact ⟨_, _, eb, ⟨_, rfl⟩, ys, lf', wh', rfl, hy, W', by omega⟩) (rngD 0 many.toNat) (eE p (some (.int many)) (some (.loc 1)) (some (.loc 2)) none none none none none none none) [.lst (iD x1), .lst (iD left0), .lst (iD [])]
      ⟨⟨none, rfl⟩, x1, left0, [], rfl, h1, who0, by simp [rngD]⟩
    rw [seq1 ((sFor_fix (g := gN 5) (b := bPick) hr).trans q)]
    have hwl : wh.length = many.toNat := hwl
    obtain ⟨k, x3, hk, h3, e3⟩ := e_draw (T := [.lst (iD lf), .lst (iD wh)]) (k := 3) h2 (by omega) (by omega)
    rw [seq1 (env' := eE p (some (.int many)) (some (.loc 1)) (some (.loc 2)) o (some (.int k)) none none none none none) (S' := [.lst (iD x3), .lst (iD lf), .lst (iD wh)]) (by simp only [sSeq, sNext, sDrop, sRet, sRetN, sIf, sAsg, gN, fVar, fC, fBin, fUn, fBu, fNil, fCons, fTup, fLst, fB, fIf, fNot, fAnd, fOr, fV, fNotV, fAndV, fOrV, fCall, R.bind, R.bindS, R.of, RS.out, gAdd_int, gSub_int, gLt_int, gLe_int, gGt_int, gGe_int, gNeg_int, gEq_int, gNe_int, gI2C_int, gInt_int, gAbs_int, gLen_lst, gLen_tup, List.getElem?_cons_zero, List.getElem?_cons_succ, List.set_cons_zero, List.set_cons_succ, List.append_nil, if_true, if_false, decide_true, decide_false, Int.reduceEq, Int.reduceLT, Int.reduceLE, Int.reduceNeg, Int.reduceAdd, Int.reduceSub, Bool.not_true, Bool.not_false, reduceIte, Bool.false_eq_true, Option.map_some, Option.bind_some, Nat.reduceAdd, gTupF, gsCons, gsNil, seqOf, lisOf, lstOf, List.length_cons, List.length_nil, e3])]
    rw [seq1 (env' := eE p (some (.int many)) (some (.loc 1)) (some (.loc 2)) o (some (.int k)) (some (.int 0)) none none none none) (S' := [.lst (iD x3), .lst (iD lf), .lst (iD wh)]) (by simp only [sSeq, sNext, sDrop, sRet, sRetN, sIf, sAsg, gN, fVar, fC, fBin, fUn, fBu, fNil, fCons, fTup, fLst, fB, fIf, fNot, fAnd, fOr, fV, fNotV, fAndV, fOrV, fCall, R.bind, R.bindS, R.of, RS.out, gAdd_int, gSub_int, gLt_int, gLe_int, gGt_int, gGe_int, gNeg_int, gEq_int, gNe_int, gI2C_int, gInt_int, gAbs_int, gLen_lst, gLen_tup, List.getElem?_cons_zero, List.getElem?_cons_succ, List.set_cons_zero, List.set_cons_succ, List.append_nil, if_true, if_false, decide_true, decide_false, Int.reduceEq, Int.reduceLT, Int.reduceLE, Int.reduceNeg, Int.reduceAdd, Int.reduceSub, Bool.not_true, Bool.not_false, reduceIte, Bool.false_eq_true, Option.map_some, Option.bind_some, Nat.reduceAdd, gTupF, gsCons, gsNil, seqOf, lisOf, lstOf, List.length_cons, List.length_nil])]
    obtain ⟨n, x4, hn, h4, e4⟩ := e_near (T := [.lst (iD lf), .lst (iD wh)]) (a := 0) (b := 9997) h3 (by omega) (by omega)
    have bw : ∃ base wide x5, 0 ≤ base ∧ 0 < wide ∧ base + wide ≤ 10000 ∧ x5.length ≤ 63 ∧ sSeq (sAsg (fBin gIx (fLst (fCons (fC (.int 3)) (fCons (fC (.int 10000)) (fCons (fC (.int 4)) fNil)))) (fVar 6)) (gN 8))
        (sIf (fB (fBin (gEq false) (fVar 6) (fC (.int 0)))) (sAsg (fCall f_l_near [] (fCons (fVar 0) (fCons (fC (.int 0)) (fCons (fC (.int 9997)) fNil)))) (gN 7)) sNext) (eE p (some (.int many)) (some (.loc 1)) (some (.loc 2)) o (some (.int k)) (some (.int 0)) none none none none) [.lst (iD x3), .lst (iD lf), .lst (iD wh)] =
        .fl (.nx (eE p (some (.int many)) (some (.loc 1)) (some (.loc 2)) o (some (.int k)) (some (.int base)) (some (.int wide)) none none none)) [.lst (iD x5), .lst (iD lf), .lst (iD wh)] := by
      have hk3 : k = 0 ∨ k = 1 ∨ k = 2 := by omega
      rcases hk3 with rfl | rfl | rfl
      · have ix : ∀ S, gIx S (.lst [.int 3, .int 10000, .int 4]) (.int 0) = some (.int 3) := fun S => rfl
        exact ⟨n, 3, x4, hn.1, by decide, by omega, h4, by simp only [sSeq, sNext, sDrop, sRet, sRetN, sIf, sAsg, gN, fVar, fC, fBin, fUn, fBu, fNil, fCons, fTup, fLst, fB, fIf, fNot, fAnd, fOr, fV, fNotV, fAndV, fOrV, fCall, R.bind, R.bindS, R.of, RS.out, gAdd_int, gSub_int, gLt_int, gLe_int, gGt_int, gGe_int, gNeg_int, gEq_int, gNe_int, gI2C_int, gInt_int, gAbs_int, gLen_lst, gLen_tup, List.getElem?_cons_zero, List.getElem?_cons_succ, List.set_cons_zero, List.set_cons_succ, List.append_nil, if_true, if_false, decide_true, decide_false, Int.reduceEq, Int.reduceLT, Int.reduceLE, Int.reduceNeg, Int.reduceAdd, Int.reduceSub, Bool.not_true, Bool.not_false, reduceIte, Bool.false_eq_true, Option.map_some, Option.bind_some, Nat.reduceAdd, gTupF, gsCons, gsNil, seqOf, lisOf, lstOf, List.length_cons, List.length_nil, ix, e4]⟩
      · have ix : ∀ S, gIx S (.lst [.int 3, .int 10000, .int 4]) (.int 1) = some (.int 10000) := fun S => rfl
        exact ⟨0, 10000, x3, by decide, by decide, by decide, h3, by simp only [sSeq, sNext, sDrop, sRet, sRetN, sIf, sAsg, gN, fVar, fC, fBin, fUn, fBu, fNil, fCons, fTup, fLst, fB, fIf, fNot, fAnd, fOr, fV, fNotV, fAndV, fOrV, fCall, R.bind, R.bindS, R.of, RS.out, gAdd_int, gSub_int, gLt_int, gLe_int, gGt_int, gGe_int, gNeg_int, gEq_int, gNe_int, gI2C_int, gInt_int, gAbs_int, gLen_lst, gLen_tup, List.getElem?_cons_zero, List.getElem?_cons_succ, List.set_cons_zero, List.set_cons_succ, List.append_nil, if_true, if_false, decide_true, decide_false, Int.reduceEq, Int.reduceLT, Int.reduceLE, Int.reduceNeg, Int.reduceAdd, Int.reduceSub, Bool.not_true, Bool.not_false, reduceIte, Bool.false_eq_true, Option.map_some, Option.bind_some, Nat.reduceAdd, gTupF, gsCons, gsNil, seqOf, lisOf, lstOf, List.length_cons, List.length_nil, ix]⟩
      · have ix : ∀ S, gIx S (.lst [.int 3, .int 10000, .int 4]) (.int 2) = some (.int 4) := fun S => rfl
        exact ⟨0, 4, x3, by decide, by decide, by decide, h3, by simp only [sSeq, sNext, sDrop, sRet, sRetN, sIf, sAsg, gN, fVar, fC, fBin, fUn, fBu, fNil, fCons, fTup, fLst, fB, fIf, fNot, fAnd, fOr, fV, fNotV, fAndV, fOrV, fCall, R.bind, R.bindS, R.of, RS.out, gAdd_int, gSub_int, gLt_int, gLe_int, gGt_int, gGe_int, gNeg_int, gEq_int, gNe_int, gI2C_int, gInt_int, gAbs_int, gLen_lst, gLen_tup, List.getElem?_cons_zero, List.getElem?_cons_succ, List.set_cons_zero, List.set_cons_succ, List.append_nil, if_true, if_false, decide_true, decide_false, Int.reduceEq, Int.reduceLT, Int.reduceLE, Int.reduceNeg, Int.reduceAdd, Int.reduceSub, Bool.not_true, Bool.not_false, reduceIte, Bool.false_eq_true, Option.map_some, Option.bind_some, Nat.reduceAdd, gTupF, gsCons, gsNil, seqOf, lisOf, lstOf, List.length_cons, List.length_nil, ix]⟩
    obtain ⟨base, wide, x5, b0, w0, bw, h5, eb⟩ := bw
    rw [seq2 eb]
    rw [seq1 (env' := eE p (some (.int many)) (some (.loc 1)) (some (.loc 2)) o (some (.int k)) (some (.int base)) (some (.int wide)) (some (.loc 3)) none none) (S' := [.lst (iD x5), .lst (iD lf), .lst (iD wh), .lst (entsD [])]) (by simp only [sSeq, sNext, sDrop, sRet, sRetN, sIf, sAsg, gN, fVar, fC, fBin, fUn, fBu, fNil, fCons, fTup, fLst, fB, fIf, fNot, fAnd, fOr, fV, fNotV, fAndV, fOrV, fCall, R.bind, R.bindS, R.of, RS.out, gAdd_int, gSub_int, gLt_int, gLe_int, gGt_int, gGe_int, gNeg_int, gEq_int, gNe_int, gI2C_int, gInt_int, gAbs_int, gLen_lst, gLen_tup, List.getElem?_cons_zero, List.getElem?_cons_succ, List.set_cons_zero, List.set_cons_succ, List.append_nil, if_true, if_false, decide_true, decide_false, Int.reduceEq, Int.reduceLT, Int.reduceLE, Int.reduceNeg, Int.reduceAdd, Int.reduceSub, Bool.not_true, Bool.not_false, reduceIte, Bool.false_eq_true, Option.map_some, Option.bind_some, Nat.reduceAdd, gTupF, gsCons, gsNil, seqOf, lisOf, lstOf, List.length_cons, List.length_nil, fLoc]; rfl)]
    have so : ∀ S : Sto, S[2]? = some (.lst (iD wh)) → gSorted S [.loc 2] = some (iD (sortI wh)) := fun S h => by
      show (((Cell.lst? S[2]?).bind intsOf).bind fun ns => if ns.length < 64 then some ((sortI ns).map FL.D.int) else none) = _
      rw [h]
      show ((intsOf (iD wh)).bind fun ns => if ns.length < 64 then some ((sortI ns).map FL.D.int) else none) = _
      rw [intsOf_iD]
      show (if wh.length < 64 then some ((sortI wh).map FL.D.int) else none) = _
      rw [if_pos (by have := W.len; omega)]
    have hi : iSeq (fBu (fun S ds => (gSorted S ds).map .lst) (fCons (fVar 4) fNil)) (eE p (some (.int many)) (some (.loc 1)) (some (.loc 2)) o (some (.int k)) (some (.int base)) (some (.int wide)) (some (.loc 3)) none none) [.lst (iD x5), .lst (iD lf), .lst (iD wh), .lst (entsD [])] = .ok (.fix (iD (sortI wh))) [.lst (iD x5), .lst (iD lf), .lst (iD wh), .lst (entsD [])] := by
      unfold iSeq
      simp only [sSeq, sNext, sDrop, sRet, sRetN, sIf, sAsg, gN, fVar, fC, fBin, fUn, fBu, fNil, fCons, fTup, fLst, fB, fIf, fNot, fAnd, fOr, fV, fNotV, fAndV, fOrV, fCall, R.bind, R.bindS, R.of, RS.out, gAdd_int, gSub_int, gLt_int, gLe_int, gGt_int, gGe_int, gNeg_int, gEq_int, gNe_int, gI2C_int, gInt_int, gAbs_int, gLen_lst, gLen_tup, List.getElem?_cons_zero, List.getElem?_cons_succ, List.set_cons_zero, List.set_cons_succ, List.append_nil, if_true, if_false, decide_true, decide_false, Int.reduceEq, Int.reduceLT, Int.reduceLE, Int.reduceNeg, Int.reduceAdd, Int.reduceSub, Bool.not_true, Bool.not_false, reduceIte, Bool.false_eq_true, Option.map_some, Option.bind_some, Nat.reduceAdd, gTupF, gsCons, gsNil, seqOf, lisOf, lstOf, List.length_cons, List.length_nil, so [.lst (iD x5), .lst (iD lf), .lst (iD wh), .lst (entsD [])] rfl]
      rfl
    have lt := srt_lt (List.nodup_append.mp W.nd).2.1
    have sl : (sortI wh).length = many.toNat := by rw [(sortI_perm wh).length_eq]; exact hwl
    obtain ⟨env', S', q, ⟨o10, o11, rfl⟩, x6, es, rest, hr0, rfl, h6, hf, ha⟩ := forL_run (body := fun d env S => match gN 10 d env S with
        | some env' => bEnt env' S
        | none => .bad) (fun r env S => (∃ o10 o11, env = eE p (some (.int many)) (some (.loc 1)) (some (.loc 2)) o (some (.int k)) (some (.int base)) (some (.int wide)) (some (.loc 3)) o10 o11) ∧ ∃ xs es rest, r = iD rest ∧ S = [.lst (iD xs), .lst (iD lf), .lst (iD wh), .lst (entsD es)] ∧ xs.length ≤ 63 ∧ es.map (·.1) ++ rest = sortI wh ∧ ∀ e ∈ es, base ≤ e.2 ∧ e.2 < base + wide)
      (fun d r env S ⟨⟨o10, o11, e⟩, xs, es, rest, er, e2, hx, hf, ha⟩ => by
        subst e e2
        cases rest with
        | nil => cases er
        | cons s rest =>
          cases er
          have hes : es.length ≤ 100 := by
            have := congrArg List.length hf
            rw [List.length_append, List.length_map, sl] at this
            omega
          obtain ⟨ys, a, hy, ha1, ha2, o11', eb⟩ := put_ent (lf := lf) (wh := wh) (p := p) (m := many) (base := base) (wide := wide) (s := s) (o5 := o) (o6 := some (.int k)) (o11 := o11) hx ⟨w0, by omega⟩ hes
          refine ⟨_, _, eb, ⟨_, _, rfl⟩, ys, es ++ [(s, a)], rest, rfl, rfl, hy, ?_, fun e he => ?_⟩
          · rw [List.map_append, List.append_assoc]
            exact hf
          · rcases List.mem_append.mp he with he | he
            · exact ha e he
            · rw [List.mem_singleton.mp he]
              exact ⟨ha1, ha2⟩) (iD (sortI wh)) (eE p (some (.int many)) (some (.loc 1)) (some (.loc 2)) o (some (.int k)) (some (.int base)) (some (.int wide)) (some (.loc 3)) none none) [.lst (iD x5), .lst (iD lf), .lst (iD wh), .lst (entsD [])]
      ⟨⟨none, none, rfl⟩, x5, [], sortI wh, rfl, rfl, h5, rfl, fun e h => by cases h⟩
    rw [seq1 ((sFor_fix (g := gN 10) (b := bEnt) hi).trans q)]
    have hrest : rest = [] := by
      cases rest with
      | nil => rfl
      | cons _ _ => cases hr0
    subst hrest
    rw [List.append_nil] at hf
    have el : es.length = many.toNat := by rw [← sl, ← hf, List.length_map]
    refine ⟨es, x6, lf, wh, ⟨fun e he => ?_, by omega, ?_⟩, by omega, h6, by simp only [sSeq, sNext, sDrop, sRet, sRetN, sIf, sAsg, gN, fVar, fC, fBin, fUn, fBu, fNil, fCons, fTup, fLst, fB, fIf, fNot, fAnd, fOr, fV, fNotV, fAndV, fOrV, fCall, R.bind, R.bindS, R.of, RS.out, gAdd_int, gSub_int, gLt_int, gLe_int, gGt_int, gGe_int, gNeg_int, gEq_int, gNe_int, gI2C_int, gInt_int, gAbs_int, gLen_lst, gLen_tup, List.getElem?_cons_zero, List.getElem?_cons_succ, List.set_cons_zero, List.set_cons_succ, List.append_nil, if_true, if_false, decide_true, decide_false, Int.reduceEq, Int.reduceLT, Int.reduceLE, Int.reduceNeg, Int.reduceAdd, Int.reduceSub, Bool.not_true, Bool.not_false, reduceIte, Bool.false_eq_true, Option.map_some, Option.bind_some, Nat.reduceAdd, gTupF, gsCons, gsNil, seqOf, lisOf, lstOf, List.length_cons, List.length_nil]⟩
    · have m1 : e.1 ∈ sortI wh := by rw [← hf]; exact List.mem_map_of_mem he
      have m2 := W.rng e.1 (List.mem_append_right _ ((sortI_perm wh).mem_iff.mp m1))
      have := ha e he
      exact ⟨m2.1, m2.2, by omega, by omega⟩
    · have : (es.map (·.1)).Pairwise (· < ·) := by rw [hf]; exact lt
      exact List.pairwise_map.mp this
  obtain ⟨l, ys, lf, wh, G, hl, hy, e⟩ := raw
  refine ⟨l, ys, G, hl, hy, ?_⟩
  unfold m_l_entries frz
  rw [e]
  unfold frzR
  have hk : keptB (pool xs []) [.lst (iD ys), .lst (iD lf), .lst (iD wh), .lst (entsD l)] = true := by
    show (decide (1 ≤ 4) && ([Cell.lst (iD ys)].all (Cell.plain 1))) = true
    show (true && (plains 1 (iD ys) && true)) = true
    rw [pl_iD]
    rfl
  have hp : ¬ (FL.D.loc 3).plain (pool xs []).length = true := fun z => by
    unfold FL.D.plain at z
    exact absurd (of_decide_eq_true z) (by show ¬ 3 < 1; decide)
  dsimp only
  rw [if_pos hk, if_neg hp]
  show frzC 1 [.lst (iD ys)] (some (.lst (entsD l))) = _
  unfold frzC
  dsimp only
  rw [if_pos (pl_ents 1 l)]
end K19
set_option maxRecDepth 100000
set_option maxHeartbeats 2000000
namespace K19
open FL
variable {c : String → PySem.Addr}
/-! ### the law -/
abbrev eW (sc : FL.D) (p : Int) (o3 o4 o5 o6 o7 o8 o9 o10 o11 o12 o13 : Option FL.D) : FL.Env := [some sc, some (.loc 0), some (.int p), o3, o4, o5, o6, o7, o8, o9, o10, o11, o12, o13, none]
theorem pool_plain (xs : List Int) : (pool xs []).all (Cell.plain (pool xs []).length) = true := by
  show (Cell.plain 1 (.lst (iD xs)) && true) = true
  show (plains 1 (iD xs) && true) = true
  rw [pl_iD]
  rfl
abbrev bBend : SF := sAsg (fCall f_l_bent [] (fCons (fVar 1) (fCons (fVar 10) fNil))) (gN 10)
theorem bends {sc : FL.D} {p : Int} {o3 o4 o5 o6 o7 o8 o9 o12 o13 : Option FL.D} : ∀ (r : List FL.D) (xs : List Int) (l : List (Int × Int)) (p' s' a' : Int) (o11 : Option FL.D), xs.length ≤ 63 → (r.length = 2 ∧ l.length ≤ 9 ∨ r.length = 1 ∧ l.length ≤ 31 ∨ r.length = 0 ∧ l.length ≤ 75) →
    ∃ ys l2 p2 s2 a2 o11', ys.length ≤ 63 ∧ l2.length ≤ 75 ∧ forL (fun d env S => match gN 11 d env S with
      | some env' => bBend env' S
      | none => .bad) r (eW sc p o3 o4 o5 o6 o7 o8 o9 (some (askD l p' s' a')) o11 o12 o13) (pool xs []) = .fl (.nx (eW sc p o3 o4 o5 o6 o7 o8 o9 (some (askD l2 p2 s2 a2)) o11' o12 o13)) (pool ys [])
  | [], xs, l, p', s', a', o11, hx, hl => ⟨xs, l, p', s', a', o11, hx, by simp only [List.length_nil] at hl; omega, rfl⟩
  | d :: r, xs, l, p', s', a', o11, hx, hl => by
    simp only [List.length_cons] at hl
    obtain ⟨l1, p1, s1, a1, ys, h1, hy, e1⟩ := e_bent (T := []) (l := l) (p := p') (s := s') (a := a') hx (by omega)
    obtain ⟨zs, l2, p2, s2, a2, o', hz, h2, e2⟩ := bends (sc := sc) (p := p) (o3 := o3) (o4 := o4) (o5 := o5) (o6 := o6) (o7 := o7) (o8 := o8) (o9 := o9) (o12 := o12) (o13 := o13) r ys l1 p1 s1 a1 (some d) hy (by omega)
    refine ⟨zs, l2, p2, s2, a2, o', hz, h2, ?_⟩
    unfold forL
    have eb : bBend (eW sc p o3 o4 o5 o6 o7 o8 o9 (some (askD l p' s' a')) (some d) o12 o13) (pool xs []) = .fl (.nx (eW sc p o3 o4 o5 o6 o7 o8 o9 (some (askD l1 p1 s1 a1)) (some d) o12 o13)) (pool ys []) := by
      unfold bBend
      simp only [sSeq, sNext, sDrop, sRet, sRetN, sIf, sAsg, gN, fVar, fC, fBin, fUn, fBu, fNil, fCons, fTup, fLst, fB, fIf, fNot, fAnd, fOr, fV, fNotV, fAndV, fOrV, fCall, R.bind, R.bindS, R.of, RS.out, gAdd_int, gSub_int, gLt_int, gLe_int, gGt_int, gGe_int, gNeg_int, gEq_int, gNe_int, gI2C_int, gInt_int, gAbs_int, gLen_lst, gLen_tup, List.getElem?_cons_zero, List.getElem?_cons_succ, List.set_cons_zero, List.set_cons_succ, List.append_nil, if_true, if_false, decide_true, decide_false, Int.reduceEq, Int.reduceLT, Int.reduceLE, Int.reduceNeg, Int.reduceAdd, Int.reduceSub, Bool.not_true, Bool.not_false, reduceIte, Bool.false_eq_true, Option.map_some, Option.bind_some, Nat.reduceAdd, gTupF, gsCons, gsNil, seqOf, lisOf, lstOf, List.length_cons, List.length_nil, e1]
    have hg : gN 11 d (eW sc p o3 o4 o5 o6 o7 o8 o9 (some (askD l p' s' a')) o11 o12 o13) (pool xs []) = some (eW sc p o3 o4 o5 o6 o7 o8 o9 (some (askD l p' s' a')) (some d) o12 o13) := rfl
    rw [hg]
    simp only [eb]
    exact e2
abbrev bTurn (c : String → PySem.Addr) : SF := (sSeq (sAsg (fCall f_l_draw [] (fCons (fVar 1) (fCons (fC (.int 3)) fNil))) (gN 6))
  (sSeq (sAsg (fCall f_l_bid [] (fCons (fVar 1) (fCons (fVar 3) (fCons (fVar 2) (fCons (fVar 4) fNil))))) (gTupF 2 (gsCons (gN 7) (gsCons (gN 8) gsNil))))
  (sSeq (sAsg (fLst (fCons (fVar 3) (fCons (fVar 2) (fCons (fVar 7) (fCons (fVar 8) fNil))))) (gN 9))
  (sSeq (sAsg (fVar 9) (gN 10))
  (sSeq (sFor (iRng gRng1 (fCons (fBu (gI2C max2) (fCons (fC (.int 0)) (fCons (fBin gSub (fCall f_l_draw [] (fCons (fVar 1) (fCons (fC (.int 4)) fNil))) (fC (.int 1))) fNil))) fNil)) (gN 11) (sAsg (fCall f_l_bent [] (fCons (fVar 1) (fCons (fVar 10) fNil))) (gN 10)))
  (sSeq (sIf (fNot (fB (fCall (f_l_right c) [] (fCons (fVar 10) (fCons (fVar 6) fNil))))) (sRet (fC (.bl false))) sNext)
  (sSeq (sIf (fNot (fB (fCall (f_l_right c) [] (fCons (fVar 9) (fCons (fVar 6) fNil))))) (sRet (fC (.bl false))) sNext)
  (sSeq (sAsg (fCall f_l_taken [] (fCons (fVar 3) (fCons (fVar 2) (fCons (fVar 7) (fCons (fVar 8) fNil))))) (gTupF 3 (gsCons (gN 12) (gsCons (gN 3) (gsCons (gN 13) gsNil)))))
  (sIf (fB (fBin gGe (fVar 13) (fC (.int 0)))) (sAsg (fVar 13) (gN 4)) sNext)))))))))
theorem turn {sc : FL.D} {p go : Int} {l : List (Int × Int)} {xs : List Int} {o5 o6 o7 o8 o9 o10 o11 o12 o13 : Option FL.D} (hx : xs.length ≤ 63) (hp : 1 ≤ p ∧ p ≤ 9) (G : Good l) (hl : (l.length : Int) ≤ p) (hg : go ≤ 29) :
    ∃ ys l' go' o6' o7' o8' o9' o10' o11' o12' o13', ys.length ≤ 63 ∧ Good l' ∧ (l'.length : Int) ≤ p ∧ go' ≤ 29 ∧ bTurn c (eW sc p (some (.lst (entsD l))) (some (.int go)) o5 o6 o7 o8 o9 o10 o11 o12 o13) (pool xs []) =
      .fl (.nx (eW sc p (some (.lst (entsD l'))) (some (.int go')) o5 o6' o7' o8' o9' o10' o11' o12' o13')) (pool ys []) := by
  obtain ⟨form, x1, b1, h1, e1⟩ := e_draw (T := []) (k := 3) hx (by omega) (by omega)
  obtain ⟨s, a, x2, hb, h2, e2⟩ := e_bid (T := []) (p := p) (go := go) h1 G (by omega) hg
  obtain ⟨v, x3, b3, h3, e3⟩ := e_draw (T := []) (k := 4) h2 (by omega) (by omega)
  have hm : 0 ≤ max2 0 (v - 1) ∧ max2 0 (v - 1) ≤ 2 := by unfold max2; split <;> omega
  have len := G.len
  obtain ⟨x4, l2, p2, s2, a2, o11', h4, hl2, e4⟩ := bends (sc := sc) (p := p) (o3 := some (.lst (entsD l))) (o4 := some (.int go)) (o5 := o5) (o6 := some (.int form)) (o7 := some (.int s)) (o8 := some (.int a)) (o9 := some (askD l p s a)) (o12 := o12) (o13 := o13) (rngD 0 (max2 0 (v - 1)).toNat) x3 l p s a o11 h3 (by simp only [rngD, List.length_map, List.length_range]; omega)
  have r1 := e_right (c := c) (S := pool x4 []) (l := l2) (p := p2) (s := s2) (a := a2) (form := form) (by omega) (pool_plain x4)
  have r2 := e_right (c := c) (S := pool x4 []) (l := l) (p := p) (s := s) (a := a) (form := form) (by omega) (pool_plain x4)
  have ht := e_taken (S := pool x4 []) (l := l) (p := p) (s := s) (a := a) (by omega) (by omega)
  obtain ⟨g1, g2, g3⟩ := taken_good G hp hl hb
  have hr : iRng gRng1 (fCons (fBu (gI2C max2) (fCons (fC (.int 0)) (fCons (fBin gSub (fCall f_l_draw [] (fCons (fVar 1) (fCons (fC (.int 4)) fNil))) (fC (.int 1))) fNil))) fNil) (eW sc p (some (.lst (entsD l))) (some (.int go)) o5 (some (.int form)) (some (.int s)) (some (.int a)) (some (askD l p s a)) (some (askD l p s a)) o11 o12 o13) (pool x2 []) = .ok (.fix (rngD 0 (max2 0 (v - 1)).toNat)) (pool x3 []) :=
    iRng_of (ds := [.int (max2 0 (v - 1))]) (by simp only [sSeq, sNext, sDrop, sRet, sRetN, sIf, sAsg, gN, fVar, fC, fBin, fUn, fBu, fNil, fCons, fTup, fLst, fB, fIf, fNot, fAnd, fOr, fV, fNotV, fAndV, fOrV, fCall, R.bind, R.bindS, R.of, RS.out, gAdd_int, gSub_int, gLt_int, gLe_int, gGt_int, gGe_int, gNeg_int, gEq_int, gNe_int, gI2C_int, gInt_int, gAbs_int, gLen_lst, gLen_tup, List.getElem?_cons_zero, List.getElem?_cons_succ, List.set_cons_zero, List.set_cons_succ, List.append_nil, if_true, if_false, decide_true, decide_false, Int.reduceEq, Int.reduceLT, Int.reduceLE, Int.reduceNeg, Int.reduceAdd, Int.reduceSub, Bool.not_true, Bool.not_false, reduceIte, Bool.false_eq_true, Option.map_some, Option.bind_some, Nat.reduceAdd, gTupF, gsCons, gsNil, seqOf, lisOf, lstOf, List.length_cons, List.length_nil, e3]) (gRng1_j (decide_eq_true ⟨by omega, by omega⟩))
  unfold bTurn
  rw [seq1 (env' := eW sc p (some (.lst (entsD l))) (some (.int go)) o5 (some (.int form)) o7 o8 o9 o10 o11 o12 o13) (S' := pool x1 []) (by simp only [sSeq, sNext, sDrop, sRet, sRetN, sIf, sAsg, gN, fVar, fC, fBin, fUn, fBu, fNil, fCons, fTup, fLst, fB, fIf, fNot, fAnd, fOr, fV, fNotV, fAndV, fOrV, fCall, R.bind, R.bindS, R.of, RS.out, gAdd_int, gSub_int, gLt_int, gLe_int, gGt_int, gGe_int, gNeg_int, gEq_int, gNe_int, gI2C_int, gInt_int, gAbs_int, gLen_lst, gLen_tup, List.getElem?_cons_zero, List.getElem?_cons_succ, List.set_cons_zero, List.set_cons_succ, List.append_nil, if_true, if_false, decide_true, decide_false, Int.reduceEq, Int.reduceLT, Int.reduceLE, Int.reduceNeg, Int.reduceAdd, Int.reduceSub, Bool.not_true, Bool.not_false, reduceIte, Bool.false_eq_true, Option.map_some, Option.bind_some, Nat.reduceAdd, gTupF, gsCons, gsNil, seqOf, lisOf, lstOf, List.length_cons, List.length_nil, e1])]
  rw [seq1 (env' := eW sc p (some (.lst (entsD l))) (some (.int go)) o5 (some (.int form)) (some (.int s)) (some (.int a)) o9 o10 o11 o12 o13) (S' := pool x2 []) (by simp only [sSeq, sNext, sDrop, sRet, sRetN, sIf, sAsg, gN, fVar, fC, fBin, fUn, fBu, fNil, fCons, fTup, fLst, fB, fIf, fNot, fAnd, fOr, fV, fNotV, fAndV, fOrV, fCall, R.bind, R.bindS, R.of, RS.out, gAdd_int, gSub_int, gLt_int, gLe_int, gGt_int, gGe_int, gNeg_int, gEq_int, gNe_int, gI2C_int, gInt_int, gAbs_int, gLen_lst, gLen_tup, List.getElem?_cons_zero, List.getElem?_cons_succ, List.set_cons_zero, List.set_cons_succ, List.append_nil, if_true, if_false, decide_true, decide_false, Int.reduceEq, Int.reduceLT, Int.reduceLE, Int.reduceNeg, Int.reduceAdd, Int.reduceSub, Bool.not_true, Bool.not_false, reduceIte, Bool.false_eq_true, Option.map_some, Option.bind_some, Nat.reduceAdd, gTupF, gsCons, gsNil, seqOf, lisOf, lstOf, List.length_cons, List.length_nil, e2])]
  rw [seq1 (env' := eW sc p (some (.lst (entsD l))) (some (.int go)) o5 (some (.int form)) (some (.int s)) (some (.int a)) (some (askD l p s a)) o10 o11 o12 o13) (S' := pool x2 []) (by simp only [sSeq, sNext, sDrop, sRet, sRetN, sIf, sAsg, gN, fVar, fC, fBin, fUn, fBu, fNil, fCons, fTup, fLst, fB, fIf, fNot, fAnd, fOr, fV, fNotV, fAndV, fOrV, fCall, R.bind, R.bindS, R.of, RS.out, gAdd_int, gSub_int, gLt_int, gLe_int, gGt_int, gGe_int, gNeg_int, gEq_int, gNe_int, gI2C_int, gInt_int, gAbs_int, gLen_lst, gLen_tup, List.getElem?_cons_zero, List.getElem?_cons_succ, List.set_cons_zero, List.set_cons_succ, List.append_nil, if_true, if_false, decide_true, decide_false, Int.reduceEq, Int.reduceLT, Int.reduceLE, Int.reduceNeg, Int.reduceAdd, Int.reduceSub, Bool.not_true, Bool.not_false, reduceIte, Bool.false_eq_true, Option.map_some, Option.bind_some, Nat.reduceAdd, gTupF, gsCons, gsNil, seqOf, lisOf, lstOf, List.length_cons, List.length_nil])]
  rw [seq1 (env' := eW sc p (some (.lst (entsD l))) (some (.int go)) o5 (some (.int form)) (some (.int s)) (some (.int a)) (some (askD l p s a)) (some (askD l p s a)) o11 o12 o13) (S' := pool x2 []) (by simp only [sSeq, sNext, sDrop, sRet, sRetN, sIf, sAsg, gN, fVar, fC, fBin, fUn, fBu, fNil, fCons, fTup, fLst, fB, fIf, fNot, fAnd, fOr, fV, fNotV, fAndV, fOrV, fCall, R.bind, R.bindS, R.of, RS.out, gAdd_int, gSub_int, gLt_int, gLe_int, gGt_int, gGe_int, gNeg_int, gEq_int, gNe_int, gI2C_int, gInt_int, gAbs_int, gLen_lst, gLen_tup, List.getElem?_cons_zero, List.getElem?_cons_succ, List.set_cons_zero, List.set_cons_succ, List.append_nil, if_true, if_false, decide_true, decide_false, Int.reduceEq, Int.reduceLT, Int.reduceLE, Int.reduceNeg, Int.reduceAdd, Int.reduceSub, Bool.not_true, Bool.not_false, reduceIte, Bool.false_eq_true, Option.map_some, Option.bind_some, Nat.reduceAdd, gTupF, gsCons, gsNil, seqOf, lisOf, lstOf, List.length_cons, List.length_nil])]
  rw [seq1 ((sFor_fix (g := gN 11) (b := bBend) hr).trans e4)]
  rw [seq1 (env' := eW sc p (some (.lst (entsD l))) (some (.int go)) o5 (some (.int form)) (some (.int s)) (some (.int a)) (some (askD l p s a)) (some (askD l2 p2 s2 a2)) o11' o12 o13) (S' := pool x4 []) (by simp only [sSeq, sNext, sDrop, sRet, sRetN, sIf, sAsg, gN, fVar, fC, fBin, fUn, fBu, fNil, fCons, fTup, fLst, fB, fIf, fNot, fAnd, fOr, fV, fNotV, fAndV, fOrV, fCall, R.bind, R.bindS, R.of, RS.out, gAdd_int, gSub_int, gLt_int, gLe_int, gGt_int, gGe_int, gNeg_int, gEq_int, gNe_int, gI2C_int, gInt_int, gAbs_int, gLen_lst, gLen_tup, List.getElem?_cons_zero, List.getElem?_cons_succ, List.set_cons_zero, List.set_cons_succ, List.append_nil, if_true, if_false, decide_true, decide_false, Int.reduceEq, Int.reduceLT, Int.reduceLE, Int.reduceNeg, Int.reduceAdd, Int.reduceSub, Bool.not_true, Bool.not_false, reduceIte, Bool.false_eq_true, Option.map_some, Option.bind_some, Nat.reduceAdd, gTupF, gsCons, gsNil, seqOf, lisOf, lstOf, List.length_cons, List.length_nil, r1])]
  rw [seq1 (env' := eW sc p (some (.lst (entsD l))) (some (.int go)) o5 (some (.int form)) (some (.int s)) (some (.int a)) (some (askD l p s a)) (some (askD l2 p2 s2 a2)) o11' o12 o13) (S' := pool x4 []) (by simp only [sSeq, sNext, sDrop, sRet, sRetN, sIf, sAsg, gN, fVar, fC, fBin, fUn, fBu, fNil, fCons, fTup, fLst, fB, fIf, fNot, fAnd, fOr, fV, fNotV, fAndV, fOrV, fCall, R.bind, R.bindS, R.of, RS.out, gAdd_int, gSub_int, gLt_int, gLe_int, gGt_int, gGe_int, gNeg_int, gEq_int, gNe_int, gI2C_int, gInt_int, gAbs_int, gLen_lst, gLen_tup, List.getElem?_cons_zero, List.getElem?_cons_succ, List.set_cons_zero, List.set_cons_succ, List.append_nil, if_true, if_false, decide_true, decide_false, Int.reduceEq, Int.reduceLT, Int.reduceLE, Int.reduceNeg, Int.reduceAdd, Int.reduceSub, Bool.not_true, Bool.not_false, reduceIte, Bool.false_eq_true, Option.map_some, Option.bind_some, Nat.reduceAdd, gTupF, gsCons, gsNil, seqOf, lisOf, lstOf, List.length_cons, List.length_nil, r2])]
  rw [seq1 (env' := eW sc p (some (.lst (entsD (takenV l p s a).2.1))) (some (.int go)) o5 (some (.int form)) (some (.int s)) (some (.int a)) (some (askD l p s a)) (some (askD l2 p2 s2 a2)) o11' (some (wordD (takenV l p s a).1)) (some (.int (takenV l p s a).2.2))) (S' := pool x4 []) (by simp only [sSeq, sNext, sDrop, sRet, sRetN, sIf, sAsg, gN, fVar, fC, fBin, fUn, fBu, fNil, fCons, fTup, fLst, fB, fIf, fNot, fAnd, fOr, fV, fNotV, fAndV, fOrV, fCall, R.bind, R.bindS, R.of, RS.out, gAdd_int, gSub_int, gLt_int, gLe_int, gGt_int, gGe_int, gNeg_int, gEq_int, gNe_int, gI2C_int, gInt_int, gAbs_int, gLen_lst, gLen_tup, List.getElem?_cons_zero, List.getElem?_cons_succ, List.set_cons_zero, List.set_cons_succ, List.append_nil, if_true, if_false, decide_true, decide_false, Int.reduceEq, Int.reduceLT, Int.reduceLE, Int.reduceNeg, Int.reduceAdd, Int.reduceSub, Bool.not_true, Bool.not_false, reduceIte, Bool.false_eq_true, Option.map_some, Option.bind_some, Nat.reduceAdd, gTupF, gsCons, gsNil, seqOf, lisOf, lstOf, List.length_cons, List.length_nil, ht])]
  by_cases hz : 0 ≤ (takenV l p s a).2.2
  · exact ⟨x4, (takenV l p s a).2.1, (takenV l p s a).2.2, _, _, _, _, _, _, _, _, h4, g1, g2, g3, by simp only [sSeq, sNext, sDrop, sRet, sRetN, sIf, sAsg, gN, fVar, fC, fBin, fUn, fBu, fNil, fCons, fTup, fLst, fB, fIf, fNot, fAnd, fOr, fV, fNotV, fAndV, fOrV, fCall, R.bind, R.bindS, R.of, RS.out, gAdd_int, gSub_int, gLt_int, gLe_int, gGt_int, gGe_int, gNeg_int, gEq_int, gNe_int, gI2C_int, gInt_int, gAbs_int, gLen_lst, gLen_tup, List.getElem?_cons_zero, List.getElem?_cons_succ, List.set_cons_zero, List.set_cons_succ, List.append_nil, if_true, if_false, decide_true, decide_false, Int.reduceEq, Int.reduceLT, Int.reduceLE, Int.reduceNeg, Int.reduceAdd, Int.reduceSub, Bool.not_true, Bool.not_false, reduceIte, Bool.false_eq_true, Option.map_some, Option.bind_some, Nat.reduceAdd, gTupF, gsCons, gsNil, seqOf, lisOf, lstOf, List.length_cons, List.length_nil, decide_eq_true hz] <;> rfl⟩
  · exact ⟨x4, (takenV l p s a).2.1, go, _, _, _, _, _, _, _, _, h4, g1, g2, hg, by simp only [sSeq, sNext, sDrop, sRet, sRetN, sIf, sAsg, gN, fVar, fC, fBin, fUn, fBu, fNil, fCons, fTup, fLst, fB, fIf, fNot, fAnd, fOr, fV, fNotV, fAndV, fOrV, fCall, R.bind, R.bindS, R.of, RS.out, gAdd_int, gSub_int, gLt_int, gLe_int, gGt_int, gGe_int, gNeg_int, gEq_int, gNe_int, gI2C_int, gInt_int, gAbs_int, gLen_lst, gLen_tup, List.getElem?_cons_zero, List.getElem?_cons_succ, List.set_cons_zero, List.set_cons_succ, List.append_nil, if_true, if_false, decide_true, decide_false, Int.reduceEq, Int.reduceLT, Int.reduceLE, Int.reduceNeg, Int.reduceAdd, Int.reduceSub, Bool.not_true, Bool.not_false, reduceIte, Bool.false_eq_true, Option.map_some, Option.bind_some, Nat.reduceAdd, gTupF, gsCons, gsNil, seqOf, lisOf, lstOf, List.length_cons, List.length_nil, decide_eq_false hz] <;> rfl⟩
theorem cut_iD (l : List Int) (lo hi : Option Int) : ∃ xs : List Int, cutD (iD l) lo hi = iD xs ∧ xs.length ≤ l.length := by
  refine ⟨(l.drop (HT.sIx l.length 0 lo)).take (HT.sIx l.length l.length hi - HT.sIx l.length 0 lo), ?_, ?_⟩
  · unfold cutD
    rw [List.length_map, ← List.map_drop, ← List.map_take]
  · rw [List.length_take, List.length_drop]
    omega
theorem e_law {ns : List Int} (hn : ns.length ≤ 63) : ∃ S', f_law c [.fls (iD ns)] [] = .ok (.bl true) S' := by
  rw [show f_law c [.fls (iD ns)] [] = (g_law c [some (.fls (iD ns)), none, none, none, none, none, none, none, none, none, none, none, none, none, none] []).out from rfl]
  unfold g_law
  obtain ⟨ms, em, hm⟩ := cut_iD ns none (some 63)
  have sl : gSl [] (.fls (iD ns)) none (some 63) = some (.lst (iD ms)) := by
    show some (FL.D.lst (cutD (iD ns) none (some 63))) = _
    rw [em]
  have ca := fLcA_pure (fi := iSeq (fSlG gSl (fVar 0) fNoP (fPart (fC (.int 63))))) (g := gN 14) (ft := fYes) (fe := fBu gAbs (fCons (fVar 14) fNil)) (vs := [14]) (env := [some (.fls (iD ns)), none, none, none, none, none, none, none, none, none, none, none, none, none, none]) (S := []) (S1 := []) (ds := iD ms) (fun d => match d with
    | .int i => some (.int (if i < 0 then -i else i))
    | _ => none) (by unfold iSeq; simp only [sSeq, sNext, sDrop, sRet, sRetN, sIf, sAsg, gN, fVar, fC, fBin, fUn, fBu, fNil, fCons, fTup, fLst, fB, fIf, fNot, fAnd, fOr, fV, fNotV, fAndV, fOrV, fCall, R.bind, R.bindS, R.of, RS.out, gAdd_int, gSub_int, gLt_int, gLe_int, gGt_int, gGe_int, gNeg_int, gEq_int, gNe_int, gI2C_int, gInt_int, gAbs_int, gLen_lst, gLen_tup, List.getElem?_cons_zero, List.getElem?_cons_succ, List.set_cons_zero, List.set_cons_succ, List.append_nil, if_true, if_false, decide_true, decide_false, Int.reduceEq, Int.reduceLT, Int.reduceLE, Int.reduceNeg, Int.reduceAdd, Int.reduceSub, Bool.not_true, Bool.not_false, reduceIte, Bool.false_eq_true, Option.map_some, Option.bind_some, Nat.reduceAdd, gTupF, gsCons, gsNil, seqOf, lisOf, lstOf, List.length_cons, List.length_nil, fSlG, fNoP, fPart, sl]; rfl) (by rw [List.length_map]; omega) fun d hd => by
      obtain ⟨i, _, rfl⟩ := List.mem_map.mp hd
      rfl
  have cb : (iD ms).filterMap (fun d => match d with
    | .int i => some (.int (if i < 0 then -i else i))
    | _ => none) = iD (ms.map fun i => if i < 0 then -i else i) := by
    rw [List.filterMap_map]
    refine Eq.trans (fm_some (fun i : Int => FL.D.int (if i < 0 then -i else i)) ms) ?_
    show _ = (ms.map fun i => if i < 0 then -i else i).map FL.D.int
    rw [List.map_map]
    rfl
  rw [cb] at ca
  have h0 : (ms.map fun i => if i < 0 then -i else i).length ≤ 63 := by rw [List.length_map]; omega
  generalize (ms.map fun i => if i < 0 then -i else i) = xs at ca h0
  rw [seq1 (env' := [some (.fls (iD ns)), some (.loc 0), none, none, none, none, none, none, none, none, none, none, none, none, none]) (S' := pool xs []) (by simp only [sSeq, sNext, sDrop, sRet, sRetN, sIf, sAsg, gN, fVar, fC, fBin, fUn, fBu, fNil, fCons, fTup, fLst, fB, fIf, fNot, fAnd, fOr, fV, fNotV, fAndV, fOrV, fCall, R.bind, R.bindS, R.of, RS.out, gAdd_int, gSub_int, gLt_int, gLe_int, gGt_int, gGe_int, gNeg_int, gEq_int, gNe_int, gI2C_int, gInt_int, gAbs_int, gLen_lst, gLen_tup, List.getElem?_cons_zero, List.getElem?_cons_succ, List.set_cons_zero, List.set_cons_succ, List.append_nil, if_true, if_false, decide_true, decide_false, Int.reduceEq, Int.reduceLT, Int.reduceLE, Int.reduceNeg, Int.reduceAdd, Int.reduceSub, Bool.not_true, Bool.not_false, reduceIte, Bool.false_eq_true, Option.map_some, Option.bind_some, Nat.reduceAdd, gTupF, gsCons, gsNil, seqOf, lisOf, lstOf, List.length_cons, List.length_nil, fLcL, ca]; rfl)]
  obtain ⟨v, x1, b1, h1, e1⟩ := e_draw (T := []) (k := 9) h0 (by omega) (by omega)
  have md : ∀ S : Sto, gMod S (.int (v + 1)) (.int 9) = some (.int ((v + 1) % 9)) := fun S => gMod_int (by decide)
  have hp : 1 ≤ 1 + (v + 1) % 9 ∧ 1 + (v + 1) % 9 ≤ 9 := ⟨by omega, by omega⟩
  rw [seq1 (env' := eW (.fls (iD ns)) (1 + (v + 1) % 9) none none none none none none none none none none none) (S' := pool x1 []) (by simp only [sSeq, sNext, sDrop, sRet, sRetN, sIf, sAsg, gN, fVar, fC, fBin, fUn, fBu, fNil, fCons, fTup, fLst, fB, fIf, fNot, fAnd, fOr, fV, fNotV, fAndV, fOrV, fCall, R.bind, R.bindS, R.of, RS.out, gAdd_int, gSub_int, gLt_int, gLe_int, gGt_int, gGe_int, gNeg_int, gEq_int, gNe_int, gI2C_int, gInt_int, gAbs_int, gLen_lst, gLen_tup, List.getElem?_cons_zero, List.getElem?_cons_succ, List.set_cons_zero, List.set_cons_succ, List.append_nil, if_true, if_false, decide_true, decide_false, Int.reduceEq, Int.reduceLT, Int.reduceLE, Int.reduceNeg, Int.reduceAdd, Int.reduceSub, Bool.not_true, Bool.not_false, reduceIte, Bool.false_eq_true, Option.map_some, Option.bind_some, Nat.reduceAdd, gTupF, gsCons, gsNil, seqOf, lisOf, lstOf, List.length_cons, List.length_nil, e1, md])]
  generalize 1 + (v + 1) % 9 = p at hp
  obtain ⟨l, x2, G, hl, h2, e2⟩ := e_entries h1 hp
  rw [seq1 (env' := eW (.fls (iD ns)) p (some (.lst (entsD l))) none none none none none none none none none none) (S' := pool x2 []) (by simp only [sSeq, sNext, sDrop, sRet, sRetN, sIf, sAsg, gN, fVar, fC, fBin, fUn, fBu, fNil, fCons, fTup, fLst, fB, fIf, fNot, fAnd, fOr, fV, fNotV, fAndV, fOrV, fCall, R.bind, R.bindS, R.of, RS.out, gAdd_int, gSub_int, gLt_int, gLe_int, gGt_int, gGe_int, gNeg_int, gEq_int, gNe_int, gI2C_int, gInt_int, gAbs_int, gLen_lst, gLen_tup, List.getElem?_cons_zero, List.getElem?_cons_succ, List.set_cons_zero, List.set_cons_succ, List.append_nil, if_true, if_false, decide_true, decide_false, Int.reduceEq, Int.reduceLT, Int.reduceLE, Int.reduceNeg, Int.reduceAdd, Int.reduceSub, Bool.not_true, Bool.not_false, reduceIte, Bool.false_eq_true, Option.map_some, Option.bind_some, Nat.reduceAdd, gTupF, gsCons, gsNil, seqOf, lisOf, lstOf, List.length_cons, List.length_nil, e2])]
  rw [seq1 (env' := eW (.fls (iD ns)) p (some (.lst (entsD l))) (some (.int (-1))) none none none none none none none none none) (S' := pool x2 []) (by simp only [sSeq, sNext, sDrop, sRet, sRetN, sIf, sAsg, gN, fVar, fC, fBin, fUn, fBu, fNil, fCons, fTup, fLst, fB, fIf, fNot, fAnd, fOr, fV, fNotV, fAndV, fOrV, fCall, R.bind, R.bindS, R.of, RS.out, gAdd_int, gSub_int, gLt_int, gLe_int, gGt_int, gGe_int, gNeg_int, gEq_int, gNe_int, gI2C_int, gInt_int, gAbs_int, gLen_lst, gLen_tup, List.getElem?_cons_zero, List.getElem?_cons_succ, List.set_cons_zero, List.set_cons_succ, List.append_nil, if_true, if_false, decide_true, decide_false, Int.reduceEq, Int.reduceLT, Int.reduceLE, Int.reduceNeg, Int.reduceAdd, Int.reduceSub, Bool.not_true, Bool.not_false, reduceIte, Bool.false_eq_true, Option.map_some, Option.bind_some, Nat.reduceAdd, gTupF, gsCons, gsNil, seqOf, lisOf, lstOf, List.length_cons, List.length_nil])]
  have hr : iRng gRng1 (fCons (fC (.int 8)) fNil) (eW (.fls (iD ns)) p (some (.lst (entsD l))) (some (.int (-1))) none none none none none none none none none) (pool x2 []) = .ok (.fix (rngD 0 8)) (pool x2 []) :=
    iRng_of (ds := [.int 8]) (by simp only [sSeq, sNext, sDrop, sRet, sRetN, sIf, sAsg, gN, fVar, fC, fBin, fUn, fBu, fNil, fCons, fTup, fLst, fB, fIf, fNot, fAnd, fOr, fV, fNotV, fAndV, fOrV, fCall, R.bind, R.bindS, R.of, RS.out, gAdd_int, gSub_int, gLt_int, gLe_int, gGt_int, gGe_int, gNeg_int, gEq_int, gNe_int, gI2C_int, gInt_int, gAbs_int, gLen_lst, gLen_tup, List.getElem?_cons_zero, List.getElem?_cons_succ, List.set_cons_zero, List.set_cons_succ, List.append_nil, if_true, if_false, decide_true, decide_false, Int.reduceEq, Int.reduceLT, Int.reduceLE, Int.reduceNeg, Int.reduceAdd, Int.reduceSub, Bool.not_true, Bool.not_false, reduceIte, Bool.false_eq_true, Option.map_some, Option.bind_some, Nat.reduceAdd, gTupF, gsCons, gsNil, seqOf, lisOf, lstOf, List.length_cons, List.length_nil]) (gRng1_j (by decide))
  obtain ⟨env', S', q, x3, l3, go, o5, o6, o7, o8, o9, o10, o11, o12, o13, rfl, rfl, _⟩ := forL_run (body := fun d env S => match gN 5 d env S with
      | some env' => bTurn c env' S
      | none => .bad) (fun r env S => ∃ xs l go o5 o6 o7 o8 o9 o10 o11 o12 o13, env = eW (.fls (iD ns)) p (some (.lst (entsD l))) (some (.int go)) o5 o6 o7 o8 o9 o10 o11 o12 o13 ∧ S = pool xs [] ∧ xs.length ≤ 63 ∧ Good l ∧ (l.length : Int) ≤ p ∧ go ≤ 29)
    (fun d r env S ⟨xs, l, go, o5, o6, o7, o8, o9, o10, o11, o12, o13, e, e', hx, G, hl, hg⟩ => by
      subst e e'
      obtain ⟨ys, l', go', o6', o7', o8', o9', o10', o11', o12', o13', hy, G', hl', hg', eb⟩ := turn (c := c) (sc := .fls (iD ns)) (o5 := some d) (o6 := o6) (o7 := o7) (o8 := o8) (o9 := o9) (o10 := o10) (o11 := o11) (o12 := o12) (o13 := o13) hx hp G hl hg
      exact ⟨_, _, eb, ys, l', go', some d, o6', o7', o8', o9', o10', o11', o12', o13', rfl, rfl, hy, G', hl', hg'⟩) (rngD 0 8) (eW (.fls (iD ns)) p (some (.lst (entsD l))) (some (.int (-1))) none none none none none none none none none) (pool x2 [])
    ⟨x2, l, -1, none, none, none, none, none, none, none, none, none, rfl, rfl, h2, G, hl, by decide⟩
  rw [seq1 ((sFor_fix (g := gN 5) (b := bTurn c) hr).trans q)]
  exact ⟨pool x3 [], by simp only [sSeq, sNext, sDrop, sRet, sRetN, sIf, sAsg, gN, fVar, fC, fBin, fUn, fBu, fNil, fCons, fTup, fLst, fB, fIf, fNot, fAnd, fOr, fV, fNotV, fAndV, fOrV, fCall, R.bind, R.bindS, R.of, RS.out, gAdd_int, gSub_int, gLt_int, gLe_int, gGt_int, gGe_int, gNeg_int, gEq_int, gNe_int, gI2C_int, gInt_int, gAbs_int, gLen_lst, gLen_tup, List.getElem?_cons_zero, List.getElem?_cons_succ, List.set_cons_zero, List.set_cons_succ, List.append_nil, if_true, if_false, decide_true, decide_false, Int.reduceEq, Int.reduceLT, Int.reduceLE, Int.reduceNeg, Int.reduceAdd, Int.reduceSub, Bool.not_true, Bool.not_false, reduceIte, Bool.false_eq_true, Option.map_some, Option.bind_some, Nat.reduceAdd, gTupF, gsCons, gsNil, seqOf, lisOf, lstOf, List.length_cons, List.length_nil]⟩
end K19
set_option maxRecDepth 100000
set_option maxHeartbeats 2000000
namespace K19
open PySem PySem.Spec PyProof.Rows L2 FL
abbrev FnP (K : PySem.W.Frag) (x : Str) (st : Stmt) (f : PySem.Addr) (fd : FuncData) : Prop := FunD K x x (defArgs st) (defBody st) (defScope st) [] [] f fd
structure Hs (P : Program) (w : World) (K : PySem.W.Frag) (mg : Str → Option Value) where
  c : String → PySem.Addr
  f_l_draw : PySem.Addr
  fd_l_draw : FuncData
  F_l_draw : FnP K "_law_draw" s_l_draw f_l_draw fd_l_draw
  g_l_draw : mg "_law_draw" = some (.ref f_l_draw)
  f_l_near : PySem.Addr
  fd_l_near : FuncData
  F_l_near : FnP K "_law_near" s_l_near f_l_near fd_l_near
  g_l_near : mg "_law_near" = some (.ref f_l_near)
  f_l_entries : PySem.Addr
  fd_l_entries : FuncData
  F_l_entries : FnP K "_law_entries" s_l_entries f_l_entries fd_l_entries
  g_l_entries : mg "_law_entries" = some (.ref f_l_entries)
  f_l_price : PySem.Addr
  fd_l_price : FuncData
  F_l_price : FnP K "_law_price" s_l_price f_l_price fd_l_price
  g_l_price : mg "_law_price" = some (.ref f_l_price)
  f_l_bid : PySem.Addr
  fd_l_bid : FuncData
  F_l_bid : FnP K "_law_bid" s_l_bid f_l_bid fd_l_bid
  g_l_bid : mg "_law_bid" = some (.ref f_l_bid)
  f_l_taken : PySem.Addr
  fd_l_taken : FuncData
  F_l_taken : FnP K "_law_taken" s_l_taken f_l_taken fd_l_taken
  g_l_taken : mg "_law_taken" = some (.ref f_l_taken)
  f_l_beyond : PySem.Addr
  fd_l_beyond : FuncData
  F_l_beyond : FnP K "_law_beyond" s_l_beyond f_l_beyond fd_l_beyond
  g_l_beyond : mg "_law_beyond" = some (.ref f_l_beyond)
  f_l_odd_entries : PySem.Addr
  fd_l_odd_entries : FuncData
  F_l_odd_entries : FnP K "_law_odd_entries" s_l_odd_entries f_l_odd_entries fd_l_odd_entries
  g_l_odd_entries : mg "_law_odd_entries" = some (.ref f_l_odd_entries)
  f_l_bent : PySem.Addr
  fd_l_bent : FuncData
  F_l_bent : FnP K "_law_bent" s_l_bent f_l_bent fd_l_bent
  g_l_bent : mg "_law_bent" = some (.ref f_l_bent)
  f_l_first : PySem.Addr
  fd_l_first : FuncData
  F_l_first : FnP K "_law_first" s_l_first f_l_first fd_l_first
  g_l_first : mg "_law_first" = some (.ref f_l_first)
  f_l_dues : PySem.Addr
  fd_l_dues : FuncData
  F_l_dues : FnP K "_law_dues" s_l_dues f_l_dues fd_l_dues
  g_l_dues : mg "_law_dues" = some (.ref f_l_dues)
  f_l_same : PySem.Addr
  fd_l_same : FuncData
  F_l_same : FnP K "_law_same" s_l_same f_l_same fd_l_same
  g_l_same : mg "_law_same" = some (.ref f_l_same)
  f_within : PySem.Addr
  fd_within : FuncData
  F_within : FnP K "within" s_within f_within fd_within
  g_within : mg "within" = some (.ref f_within)
  f_entries_look : PySem.Addr
  fd_entries_look : FuncData
  F_entries_look : FnP K "entries_look" s_entries_look f_entries_look fd_entries_look
  g_entries_look : mg "entries_look" = some (.ref f_entries_look)
  f_p_put_out : PySem.Addr
  fd_p_put_out : FuncData
  F_p_put_out : FnP K "_put_out" s_p_put_out f_p_put_out fd_p_put_out
  g_p_put_out : mg "_put_out" = some (.ref f_p_put_out)
  f_p_amount_in : PySem.Addr
  fd_p_amount_in : FuncData
  F_p_amount_in : FnP K "_amount_in" s_p_amount_in f_p_amount_in fd_p_amount_in
  g_p_amount_in : mg "_amount_in" = some (.ref f_p_amount_in)
  f_p_least_amount : PySem.Addr
  fd_p_least_amount : FuncData
  F_p_least_amount : FnP K "_least_amount" s_p_least_amount f_p_least_amount fd_p_least_amount
  g_p_least_amount : mg "_least_amount" = some (.ref f_p_least_amount)
  f_p_with_entry : PySem.Addr
  fd_p_with_entry : FuncData
  F_p_with_entry : FnP K "_with_entry" s_p_with_entry f_p_with_entry fd_p_with_entry
  g_p_with_entry : mg "_with_entry" = some (.ref f_p_with_entry)
  f_take : PySem.Addr
  fd_take : FuncData
  F_take : FnP K "take" s_take f_take fd_take
  g_take : mg "take" = some (.ref f_take)
  f_l_refused : PySem.Addr
  fd_l_refused : FuncData
  F_l_refused : FnP K "_law_refused" s_l_refused f_l_refused fd_l_refused
  g_l_refused : mg "_law_refused" = some (.ref f_l_refused)
  f_l_take : PySem.Addr
  fd_l_take : FuncData
  F_l_take : FnP K "_law_take" s_l_take f_l_take fd_l_take
  g_l_take : mg "_law_take" = some (.ref f_l_take)
  f_price_of : PySem.Addr
  fd_price_of : FuncData
  F_price_of : FnP K "price_of" s_price_of f_price_of fd_price_of
  g_price_of : mg "price_of" = some (.ref f_price_of)
  f_l_price_of : PySem.Addr
  fd_l_price_of : FuncData
  F_l_price_of : FnP K "_law_price_of" s_l_price_of f_l_price_of fd_l_price_of
  g_l_price_of : mg "_law_price_of" = some (.ref f_l_price_of)
  f_amount_of : PySem.Addr
  fd_amount_of : FuncData
  F_amount_of : FnP K "amount_of" s_amount_of f_amount_of fd_amount_of
  g_amount_of : mg "amount_of" = some (.ref f_amount_of)
  f_l_amount_of : PySem.Addr
  fd_l_amount_of : FuncData
  F_l_amount_of : FnP K "_law_amount_of" s_l_amount_of f_l_amount_of fd_l_amount_of
  g_l_amount_of : mg "_law_amount_of" = some (.ref f_l_amount_of)
  f_l_right : PySem.Addr
  fd_l_right : FuncData
  F_l_right : FnP K "_law_right" s_l_right f_l_right fd_l_right
  g_l_right : mg "_law_right" = some (.ref f_l_right)
  f_law : PySem.Addr
  fd_law : FuncData
  F_law : FnP K "law" s_law f_law fd_law
  g_law : mg "law" = some (.ref f_law)
  n_ValueError : mg "ValueError" = none
  n_abs : mg "abs" = none
  n_bool : mg "bool" = none
  n_int : mg "int" = none
  n_isinstance : mg "isinstance" = none
  n_len : mg "len" = none
  n_list : mg "list" = none
  n_max : mg "max" = none
  n_min : mg "min" = none
  n_range : mg "range" = none
  n_sorted : mg "sorted" = none
  n_str : mg "str" = none
  n_tuple : mg "tuple" = none
  i_MOST_SEEKERS : ∃ t, mg "MOST_SEEKERS" = some (.int 30 t)
  i_MOST_PLACES : ∃ t, mg "MOST_PLACES" = some (.int 9 t)
  i_MOST_PRICE : ∃ t, mg "MOST_PRICE" = some (.int 9999 t)
  gc_OutOfRange : mg "OutOfRange" = some (.ref (c "OutOfRange"))
  gc_Unread : mg "Unread" = some (.ref (c "Unread"))
  gc_Unfit : mg "Unfit" = some (.ref (c "Unfit"))
  gc_NotAccepted : mg "NotAccepted" = some (.ref (c "NotAccepted"))
  gc_BadStart : mg "BadStart" = some (.ref (c "BadStart"))
  gc_Up : mg "Up" = some (.ref (c "Up"))
  gc_NotOneChange : mg "NotOneChange" = some (.ref (c "NotOneChange"))
  gc_NotBest : mg "NotBest" = some (.ref (c "NotBest"))
  gc_Down : mg "Down" = some (.ref (c "Down"))
  gc_NothingToUndo : mg "NothingToUndo" = some (.ref (c "NothingToUndo"))
  gc_Busy : mg "Busy" = some (.ref (c "Busy"))
  gc_Warm : mg "Warm" = some (.ref (c "Warm"))
  gc_NothingToRedo : mg "NothingToRedo" = some (.ref (c "NothingToRedo"))
  gc_BadSlips : mg "BadSlips" = some (.ref (c "BadSlips"))
  gc_TooHeavy : mg "TooHeavy" = some (.ref (c "TooHeavy"))
  gc_BadWord : mg "BadWord" = some (.ref (c "BadWord"))
  gc_NoLetter : mg "NoLetter" = some (.ref (c "NoLetter"))
  gc_NotSynced : mg "NotSynced" = some (.ref (c "NotSynced"))
  gc_BadEvent : mg "BadEvent" = some (.ref (c "BadEvent"))
  gc_NotAtRest : mg "NotAtRest" = some (.ref (c "NotAtRest"))
  gc_HeldError : mg "HeldError" = some (.ref (c "HeldError"))
  j_OutOfRange : PySem.Addr
  jd_OutOfRange : FuncData
  J_OutOfRange : FunD K "__init__" "OutOfRange.__init__" (defArgs si_OutOfRange) (defBody si_OutOfRange) (defScope si_OutOfRange) [] [] j_OutOfRange jd_OutOfRange
  e_OutOfRange : ErrC K mg "OutOfRange" (c "OutOfRange") j_OutOfRange
  ex_OutOfRange : L2.ExcC K (c "OutOfRange")
  cl_OutOfRange : (PySem.W.clsIn K (c "OutOfRange")).isSome = true
  xf_OutOfRange : XfC K (c "OutOfRange")
  no_OutOfRange_what : PySem.W.findIn K (.ref (c "OutOfRange")) "what" = some none
  no_OutOfRange_value : PySem.W.findIn K (.ref (c "OutOfRange")) "value" = some none
  k_OutOfRange_BadEvent : PySem.W.kitOne K (.ref (c "OutOfRange")) (.ref (c "BadEvent")) = some false
  k_OutOfRange_BadSlips : PySem.W.kitOne K (.ref (c "OutOfRange")) (.ref (c "BadSlips")) = some false
  k_OutOfRange_BadStart : PySem.W.kitOne K (.ref (c "OutOfRange")) (.ref (c "BadStart")) = some false
  k_OutOfRange_BadWord : PySem.W.kitOne K (.ref (c "OutOfRange")) (.ref (c "BadWord")) = some false
  k_OutOfRange_Busy : PySem.W.kitOne K (.ref (c "OutOfRange")) (.ref (c "Busy")) = some false
  k_OutOfRange_Down : PySem.W.kitOne K (.ref (c "OutOfRange")) (.ref (c "Down")) = some false
  k_OutOfRange_NoLetter : PySem.W.kitOne K (.ref (c "OutOfRange")) (.ref (c "NoLetter")) = some false
  k_OutOfRange_NotAccepted : PySem.W.kitOne K (.ref (c "OutOfRange")) (.ref (c "NotAccepted")) = some false
  k_OutOfRange_NotAtRest : PySem.W.kitOne K (.ref (c "OutOfRange")) (.ref (c "NotAtRest")) = some false
  k_OutOfRange_NotBest : PySem.W.kitOne K (.ref (c "OutOfRange")) (.ref (c "NotBest")) = some false
  k_OutOfRange_NotOneChange : PySem.W.kitOne K (.ref (c "OutOfRange")) (.ref (c "NotOneChange")) = some false
  k_OutOfRange_NotSynced : PySem.W.kitOne K (.ref (c "OutOfRange")) (.ref (c "NotSynced")) = some false
  k_OutOfRange_NothingToRedo : PySem.W.kitOne K (.ref (c "OutOfRange")) (.ref (c "NothingToRedo")) = some false
  k_OutOfRange_NothingToUndo : PySem.W.kitOne K (.ref (c "OutOfRange")) (.ref (c "NothingToUndo")) = some false
  k_OutOfRange_OutOfRange : PySem.W.kitOne K (.ref (c "OutOfRange")) (.ref (c "OutOfRange")) = some true
  k_OutOfRange_TooHeavy : PySem.W.kitOne K (.ref (c "OutOfRange")) (.ref (c "TooHeavy")) = some false
  k_OutOfRange_Unfit : PySem.W.kitOne K (.ref (c "OutOfRange")) (.ref (c "Unfit")) = some false
  k_OutOfRange_Unread : PySem.W.kitOne K (.ref (c "OutOfRange")) (.ref (c "Unread")) = some false
  k_OutOfRange_Up : PySem.W.kitOne K (.ref (c "OutOfRange")) (.ref (c "Up")) = some false
  k_OutOfRange_ValueError : PySem.W.kitOne K (.ref (c "OutOfRange")) (.type "ValueError") = some true
  k_OutOfRange_Warm : PySem.W.kitOne K (.ref (c "OutOfRange")) (.ref (c "Warm")) = some false
  x_OutOfRange_HeldError : PySem.W.exmOne K (.ref (c "OutOfRange")) (.ref (c "HeldError")) = some true
section
variable {P : Program} {w : World} {K : PySem.W.Frag} {mg : Str → Option Value} {base : Heap}
theorem si_sc_OutOfRange : FnScope ["self", "what", "value"] ["self", "what", "value"] (defScope si_OutOfRange) := ⟨rfl, rfl, rfl, by decide +kernel, rfl, by decide +kernel, by decide +kernel⟩
theorem ini_OutOfRange (h : Hs P w K mg) : FnOk P w K mg base CX0 1 h.j_OutOfRange h.jd_OutOfRange ["self", "what", "value"] (spIni2 (h.c "OutOfRange") "what" "value") :=
  ok_ini2 h.J_OutOfRange si_sc_OutOfRange h.e_OutOfRange.oex h.no_OutOfRange_what h.no_OutOfRange_value (Or.inl rfl) (Or.inl rfl) (Or.inl rfl) (by decide) (by decide) (by decide) (by decide) (by decide) (by decide)
theorem bi_OutOfRange (h : Hs P w K mg) : Binds K h.jd_OutOfRange ["self", "what", "value"] [] := h.J_OutOfRange.bindsN fun _ _ _ _ _ _ us hl => match us, hl with | [_, _, _], _ => rfl
theorem nd_l_draw : N_l_draw.Nodup := by decide +kernel
theorem sc_l_draw : FnScope N_l_draw ["_law_pool", "_law_many"] (defScope s_l_draw) := ⟨rfl, rfl, rfl, by decide +kernel, rfl, by decide +kernel, by decide +kernel⟩
theorem b_l_draw (h : Hs P w K mg) : Binds K h.fd_l_draw ["_law_pool", "_law_many"] [] := h.F_l_draw.bindsN fun _ _ _ _ _ _ us hl => match us, hl with | [_, _], _ => rfl
theorem ok_l_draw (h : Hs P w K mg) : FnOk P w K mg base (L2.CX P w) 1 h.f_l_draw h.fd_l_draw ["_law_pool", "_law_many"] (spF K 2 (f_l_draw)) :=
  fn_okF h.F_l_draw sc_l_draw fun cdv A outer s H E hr => by
  have nd := nd_l_draw
  have hu := hr.units
  have tk := tk_cx (P := P) (w := w) (K := K) (mg := mg) (base := base) (N := N_l_draw) (qual := "_law_draw") (scope := defScope s_l_draw) (f := h.f_l_draw) (cd := cdv) (A := A) (outer := outer) (s := s) (H := H) (E := E)
  have own := own_cx (P := P) (w := w) (K := K) (mg := mg) (base := base) (N := N_l_draw) (qual := "_law_draw") (scope := defScope s_l_draw) (f := h.f_l_draw) (cd := cdv) (A := A) (outer := outer) (s := s) (H := H) (E := E)
  exact (fs_cons (fs_if (ft_cmp (op_eqD hu) (nomark _) sim_eq (fe_var (pv 0)) (fe_lst fa_nil)) (fs_one (fs_ret fe_int)) fs_nil)
      (fs_cons (fs_set (i := 2) nd rfl (Or.inl rfl) (fe_mut rfl mt_popAt sim_popAt PySem.F.slot_list_pop PySem.F.type_list_pop (fe_var (pv 0)) (fa_cons fe_int fa_nil)))
      (fs_cons (fs_if (ft_cmp op_ge (nomark _) sim_ge (fe_var (pv 2)) (fe_var (pv 1))) (fs_one (fs_expr (fe_mut rfl mt_append sim_append PySem.F.slot_list_append PySem.F.type_list_append (fe_var (pv 0)) (fa_cons (fe_op op_fdiv sim_div (fe_var (pv 2)) (fe_var (pv 1))) fa_nil)))) fs_nil)
      (fs_one (fs_ret (fe_op op_mod sim_mod (fe_ty call_int1 sim_int (by rfl) h.n_int PyProof.Rows.Boot.«int» (fa_cons (fe_var (pv 2)) fa_nil)) (fe_var (pv 1))))))))
theorem nd_l_near : N_l_near.Nodup := by decide +kernel
theorem sc_l_near : FnScope N_l_near ["_law_pool", "_law_least", "_law_most"] (defScope s_l_near) := ⟨rfl, rfl, rfl, by decide +kernel, rfl, by decide +kernel, by decide +kernel⟩
theorem b_l_near (h : Hs P w K mg) : Binds K h.fd_l_near ["_law_pool", "_law_least", "_law_most"] [] := h.F_l_near.bindsN fun _ _ _ _ _ _ us hl => match us, hl with | [_, _, _], _ => rfl
theorem ok_l_near (h : Hs P w K mg) : FnOk P w K mg base (L2.CX P w) 2 h.f_l_near h.fd_l_near ["_law_pool", "_law_least", "_law_most"] (spF K 3 (f_l_near)) :=
  fn_okF h.F_l_near sc_l_near fun cdv A outer s H E hr => by
  have nd := nd_l_near
  have hu := hr.units
  have tk := tk_cx (P := P) (w := w) (K := K) (mg := mg) (base := base) (N := N_l_near) (qual := "_law_near") (scope := defScope s_l_near) (f := h.f_l_near) (cd := cdv) (A := A) (outer := outer) (s := s) (H := H) (E := E)
  have own := own_cx (P := P) (w := w) (K := K) (mg := mg) (base := base) (N := N_l_near) (qual := "_law_near") (scope := defScope s_l_near) (f := h.f_l_near) (cd := cdv) (A := A) (outer := outer) (s := s) (H := H) (E := E)
  exact (fs_cons (fs_set (i := 3) nd rfl (Or.inl rfl) (fe_call rfl ((ok_l_draw h).mono (by decide)) hr (by rfl) h.g_l_draw h.F_l_draw.kp (b_l_draw h) .nil Dfl.nil tk (fa_cons (fe_var (pv 0)) (fa_cons fe_int fa_nil))))
      (fs_cons (fs_set (i := 4) nd rfl (Or.inl rfl) (fe_op op_addA sim_add (fe_op op_sub sim_sub (fe_var (pv 2)) (fe_var (pv 1))) fe_int))
      (fs_cons (fs_if (ft_cmp (op_eqD hu) (nomark _) sim_eq (fe_var (pv 3)) fe_int) (fs_one (fs_ret (fe_op op_addA sim_add (fe_var (pv 1)) (fe_call rfl ((ok_l_draw h).mono (by decide)) hr (by rfl) h.g_l_draw h.F_l_draw.kp (b_l_draw h) .nil Dfl.nil tk (fa_cons (fe_var (pv 0)) (fa_cons (fe_bu (call_min2 rfl) sim_i2 (by rfl) h.n_min PyProof.Rows.Boot.«min» (fa_cons fe_int (fa_cons (fe_var (pv 4)) fa_nil))) fa_nil)))))) fs_nil)
      (fs_cons (fs_if (ft_cmp (op_eqD hu) (nomark _) sim_eq (fe_var (pv 3)) fe_int) (fs_one (fs_ret (fe_op op_sub sim_sub (fe_var (pv 2)) (fe_call rfl ((ok_l_draw h).mono (by decide)) hr (by rfl) h.g_l_draw h.F_l_draw.kp (b_l_draw h) .nil Dfl.nil tk (fa_cons (fe_var (pv 0)) (fa_cons (fe_bu (call_min2 rfl) sim_i2 (by rfl) h.n_min PyProof.Rows.Boot.«min» (fa_cons fe_int (fa_cons (fe_var (pv 4)) fa_nil))) fa_nil)))))) fs_nil)
      (fs_one (fs_ret (fe_op op_addA sim_add (fe_var (pv 1)) (fe_call rfl ((ok_l_draw h).mono (by decide)) hr (by rfl) h.g_l_draw h.F_l_draw.kp (b_l_draw h) .nil Dfl.nil tk (fa_cons (fe_var (pv 0)) (fa_cons (fe_var (pv 4)) fa_nil))))))))))
theorem nd_l_entries : N_l_entries.Nodup := by decide +kernel
theorem sc_l_entries : FnScope N_l_entries ["_law_pool", "_law_places"] (defScope s_l_entries) := ⟨rfl, rfl, rfl, by decide +kernel, rfl, by decide +kernel, by decide +kernel⟩
theorem b_l_entries (h : Hs P w K mg) : Binds K h.fd_l_entries ["_law_pool", "_law_places"] [] := h.F_l_entries.bindsN fun _ _ _ _ _ _ us hl => match us, hl with | [_, _], _ => rfl
theorem raw_l_entries (h : Hs P w K mg) : FnOk P w K mg base (L2.CX P w) 3 h.f_l_entries h.fd_l_entries ["_law_pool", "_law_places"] (spF K 2 (f_l_entries)) :=
  fn_okF h.F_l_entries sc_l_entries fun cdv A outer s H E hr => by
  have nd := nd_l_entries
  have hu := hr.units
  have tk := tk_cx (P := P) (w := w) (K := K) (mg := mg) (base := base) (N := N_l_entries) (qual := "_law_entries") (scope := defScope s_l_entries) (f := h.f_l_entries) (cd := cdv) (A := A) (outer := outer) (s := s) (H := H) (E := E)
  have own := own_cx (P := P) (w := w) (K := K) (mg := mg) (base := base) (N := N_l_entries) (qual := "_law_entries") (scope := defScope s_l_entries) (f := h.f_l_entries) (cd := cdv) (A := A) (outer := outer) (s := s) (H := H) (E := E)
  exact (fs_cons (fs_set (i := 2) nd rfl (Or.inl rfl) (fe_op op_mod sim_mod (fe_op op_addA sim_add (fe_call rfl ((ok_l_draw h).mono (by decide)) hr (by rfl) h.g_l_draw h.F_l_draw.kp (b_l_draw h) .nil Dfl.nil tk (fa_cons (fe_var (pv 0)) (fa_cons (fe_op op_addA sim_add (fe_var (pv 1)) fe_int) fa_nil))) (fe_var (pv 1))) (fe_op op_addA sim_add (fe_var (pv 1)) fe_int)))
      (fs_cons (fs_set (i := 3) nd rfl (Or.inl rfl) (fe_listRgL rfl rfl (by rfl) h.n_list (by rfl) h.n_range fe_int))
      (fs_cons (fs_set (i := 4) nd rfl (Or.inl rfl) (fe_loc rfl fa_nil))
      (fs_cons (fs_for own rfl (fi_range1 (by rfl) h.n_range (fa_cons (fe_var (pv 2)) fa_nil)) (fg_name (i := 5) nd rfl (Or.inl rfl)) (fs_one (fs_expr (fe_mut rfl mt_append sim_append PySem.F.slot_list_append PySem.F.type_list_append (fe_var (pv 4)) (fa_cons (fe_mut rfl mt_popAt sim_popAt PySem.F.slot_list_pop PySem.F.type_list_pop (fe_var (pv 3)) (fa_cons (fe_op op_mod sim_mod (fe_op op_addA sim_add (fe_call rfl ((ok_l_draw h).mono (by decide)) hr (by rfl) h.g_l_draw h.F_l_draw.kp (b_l_draw h) .nil Dfl.nil tk (fa_cons (fe_var (pv 0)) (fa_cons (fe_bu call_len sim_len (by rfl) h.n_len PyProof.Rows.Boot.«len» (fa_cons (fe_var (pv 3)) fa_nil)) fa_nil))) fe_int) (fe_bu call_len sim_len (by rfl) h.n_len PyProof.Rows.Boot.«len» (fa_cons (fe_var (pv 3)) fa_nil))) fa_nil)) fa_nil)))))
      (fs_cons (fs_set (i := 6) nd rfl (Or.inl rfl) (fe_call rfl ((ok_l_draw h).mono (by decide)) hr (by rfl) h.g_l_draw h.F_l_draw.kp (b_l_draw h) .nil Dfl.nil tk (fa_cons (fe_var (pv 0)) (fa_cons fe_int fa_nil))))
      (fs_cons (fs_set (i := 7) nd rfl (Or.inl rfl) fe_int)
      (fs_cons (fs_set (i := 8) nd rfl (Or.inl rfl) (fe_ix (fe_lst (fa_cons fe_int (fa_cons fe_int (fa_cons fe_int fa_nil)))) (fe_var (pv 6))))
      (fs_cons (fs_if (ft_cmp (op_eqD hu) (nomark _) sim_eq (fe_var (pv 6)) fe_int) (fs_one (fs_set (i := 7) nd rfl (Or.inl rfl) (fe_call rfl ((ok_l_near h).mono (by decide)) hr (by rfl) h.g_l_near h.F_l_near.kp (b_l_near h) .nil Dfl.nil tk (fa_cons (fe_var (pv 0)) (fa_cons fe_int (fa_cons fe_int fa_nil)))))) fs_nil)
      (fs_cons (fs_set (i := 9) nd rfl (Or.inl rfl) (fe_loc rfl fa_nil))
      (fs_cons (fs_for own rfl (fi_seq (fe_bu cr_sorted (SimL.val sim_sorted) (by rfl) h.n_sorted PyProof.Rows.Boot.«sorted» (fa_cons (fe_var (pv 4)) fa_nil))) (fg_name (i := 10) nd rfl (Or.inl rfl)) (fs_cons (fs_set (i := 11) nd rfl (Or.inl rfl) (fe_op op_mod sim_mod (fe_op op_addA sim_add (fe_op op_addA sim_add (fe_call rfl ((ok_l_draw h).mono (by decide)) hr (by rfl) h.g_l_draw h.F_l_draw.kp (b_l_draw h) .nil Dfl.nil tk (fa_cons (fe_var (pv 0)) (fa_cons (fe_var (pv 8)) fa_nil))) (fe_bu call_len sim_len (by rfl) h.n_len PyProof.Rows.Boot.«len» (fa_cons (fe_var (pv 9)) fa_nil))) fe_int) (fe_var (pv 8))))
      (fs_one (fs_expr (fe_mut rfl mt_append sim_append PySem.F.slot_list_append PySem.F.type_list_append (fe_var (pv 9)) (fa_cons (fe_tup (fa_cons (fe_var (pv 10)) (fa_cons (fe_op op_addA sim_add (fe_var (pv 7)) (fe_var (pv 11))) fa_nil))) fa_nil))))))
      (fs_one (fs_ret (fe_var (pv 9))))))))))))))
theorem ok_l_entries (h : Hs P w K mg) : FnOk P w K mg base (L2.CX P w) 3 h.f_l_entries h.fd_l_entries ["_law_pool", "_law_places"] (spF K 2 (m_l_entries)) := (raw_l_entries h).nice fun ds S _ => frz_nice _ ds S
theorem nd_l_price : N_l_price.Nodup := by decide +kernel
theorem sc_l_price : FnScope N_l_price ["_law_entries_here", "_law_places"] (defScope s_l_price) := ⟨rfl, rfl, rfl, by decide +kernel, rfl, by decide +kernel, by decide +kernel⟩
theorem b_l_price (h : Hs P w K mg) : Binds K h.fd_l_price ["_law_entries_here", "_law_places"] [] := h.F_l_price.bindsN fun _ _ _ _ _ _ us hl => match us, hl with | [_, _], _ => rfl
theorem ok_l_price (h : Hs P w K mg) : FnOk P w K mg base (L2.CX P w) 1 h.f_l_price h.fd_l_price ["_law_entries_here", "_law_places"] (spF K 2 (f_l_price)) :=
  fn_okF h.F_l_price sc_l_price fun cdv A outer s H E hr => by
  have nd := nd_l_price
  have hu := hr.units
  have tk := tk_cx (P := P) (w := w) (K := K) (mg := mg) (base := base) (N := N_l_price) (qual := "_law_price") (scope := defScope s_l_price) (f := h.f_l_price) (cd := cdv) (A := A) (outer := outer) (s := s) (H := H) (E := E)
  have own := own_cx (P := P) (w := w) (K := K) (mg := mg) (base := base) (N := N_l_price) (qual := "_law_price") (scope := defScope s_l_price) (f := h.f_l_price) (cd := cdv) (A := A) (outer := outer) (s := s) (H := H) (E := E)
  exact (fs_cons (fs_if (ft_cmp op_lt (nomark _) sim_lt (fe_bu call_len sim_len (by rfl) h.n_len PyProof.Rows.Boot.«len» (fa_cons (fe_var (pv 0)) fa_nil)) (fe_var (pv 1))) (fs_one (fs_ret fe_int)) fs_nil)
      (fs_one (fs_ret (fe_bu (cr_min rfl) sim_min1 (by rfl) h.n_min PyProof.Rows.Boot.«min» (fa_cons (fe_lc (own := [("_law_entry", 2)]) rfl nd (fi_seq (fe_var (pv 0))) (blkOk_by (N := N_l_price) (sc := defScope s_l_price) (by decide +kernel)) (fun _ _ _ _ _ => (fgv_name (i := 2) (by decide) nd rfl (Or.inl rfl))) (fun _ _ _ _ _ => fts_nil) (fun _ _ _ _ _ => (fe_ix (fe_var (pv 2)) fe_int))) fa_nil)))))
theorem nd_l_bid : N_l_bid.Nodup := by decide +kernel
theorem sc_l_bid : FnScope N_l_bid ["_law_pool", "_law_entries_here", "_law_places", "_law_gone"] (defScope s_l_bid) := ⟨rfl, rfl, rfl, by decide +kernel, rfl, by decide +kernel, by decide +kernel⟩
theorem b_l_bid (h : Hs P w K mg) : Binds K h.fd_l_bid ["_law_pool", "_law_entries_here", "_law_places", "_law_gone"] [] := h.F_l_bid.bindsN fun _ _ _ _ _ _ us hl => match us, hl with | [_, _, _, _], _ => rfl
theorem ok_l_bid (h : Hs P w K mg) : FnOk P w K mg base (L2.CX P w) 3 h.f_l_bid h.fd_l_bid ["_law_pool", "_law_entries_here", "_law_places", "_law_gone"] (spF K 4 (f_l_bid)) :=
  fn_okF h.F_l_bid sc_l_bid fun cdv A outer s H E hr => by
  have nd := nd_l_bid
  have hu := hr.units
  have tk := tk_cx (P := P) (w := w) (K := K) (mg := mg) (base := base) (N := N_l_bid) (qual := "_law_bid") (scope := defScope s_l_bid) (f := h.f_l_bid) (cd := cdv) (A := A) (outer := outer) (s := s) (H := H) (E := E)
  have own := own_cx (P := P) (w := w) (K := K) (mg := mg) (base := base) (N := N_l_bid) (qual := "_law_bid") (scope := defScope s_l_bid) (f := h.f_l_bid) (cd := cdv) (A := A) (outer := outer) (s := s) (H := H) (E := E)
  exact (fs_cons (fs_set (i := 4) nd rfl (Or.inl rfl) (fe_call rfl ((ok_l_draw h).mono (by decide)) hr (by rfl) h.g_l_draw h.F_l_draw.kp (b_l_draw h) .nil Dfl.nil tk (fa_cons (fe_var (pv 0)) (fa_cons fe_int fa_nil))))
      (fs_cons (fs_set (i := 5) nd rfl (Or.inl rfl) (fe_op op_mod sim_mod (fe_op op_addA sim_add (fe_call rfl ((ok_l_draw h).mono (by decide)) hr (by rfl) h.g_l_draw h.F_l_draw.kp (b_l_draw h) .nil Dfl.nil tk (fa_cons (fe_var (pv 0)) (fa_cons fe_int fa_nil))) fe_int) fe_int))
      (fs_cons (fs_if (fw_t (fw_and (ft_cmp (op_eqD hu) (nomark _) sim_eq (fe_var (pv 4)) fe_int) (fw_and1 (ft_cmp (op_neD hu) (nomark _) sim_ne (fe_var (pv 1)) (fe_lst fa_nil))))) (fs_one (fs_set (i := 5) nd rfl (Or.inl rfl) (fe_ix (fe_ix (fe_var (pv 1)) (fe_op op_mod sim_mod (fe_var (pv 5)) (fe_bu call_len sim_len (by rfl) h.n_len PyProof.Rows.Boot.«len» (fa_cons (fe_var (pv 1)) fa_nil)))) fe_int))) fs_nil)
      (fs_cons (fs_if (fw_t (fw_and (ft_cmp (op_eqD hu) (nomark _) sim_eq (fe_var (pv 4)) fe_int) (fw_and1 (ft_cmp op_ge (nomark _) sim_ge (fe_var (pv 3)) fe_int)))) (fs_one (fs_set (i := 5) nd rfl (Or.inl rfl) (fe_var (pv 3)))) fs_nil)
      (fs_cons (fs_set (i := 4) nd rfl (Or.inl rfl) (fe_call rfl ((ok_l_draw h).mono (by decide)) hr (by rfl) h.g_l_draw h.F_l_draw.kp (b_l_draw h) .nil Dfl.nil tk (fa_cons (fe_var (pv 0)) (fa_cons fe_int fa_nil))))
      (fs_cons (fs_set (i := 6) nd rfl (Or.inl rfl) (fe_op op_sub sim_sub (fe_op op_addA sim_add (fe_call rfl ((ok_l_price h).mono (by decide)) hr (by rfl) h.g_l_price h.F_l_price.kp (b_l_price h) .nil Dfl.nil tk (fa_cons (fe_var (pv 1)) (fa_cons (fe_var (pv 2)) fa_nil))) (fe_op op_mod sim_mod (fe_op op_addA sim_add (fe_call rfl ((ok_l_draw h).mono (by decide)) hr (by rfl) h.g_l_draw h.F_l_draw.kp (b_l_draw h) .nil Dfl.nil tk (fa_cons (fe_var (pv 0)) (fa_cons fe_int fa_nil))) fe_int) fe_int)) fe_int))
      (fs_cons (fs_if (ft_cmp (op_eqD hu) (nomark _) sim_eq (fe_var (pv 4)) fe_int) (fs_one (fs_set (i := 6) nd rfl (Or.inl rfl) (fe_call rfl ((ok_l_near h).mono (by decide)) hr (by rfl) h.g_l_near h.F_l_near.kp (b_l_near h) .nil Dfl.nil tk (fa_cons (fe_var (pv 0)) (fa_cons fe_int (fa_cons fe_int fa_nil)))))) fs_nil)
      (fs_cons (fs_if (fw_t (fw_and (ft_cmp (op_eqD hu) (nomark _) sim_eq (fe_var (pv 4)) fe_int) (fw_and1 (ft_cmp (op_neD hu) (nomark _) sim_ne (fe_var (pv 1)) (fe_lst fa_nil))))) (fs_one (fs_set (i := 6) nd rfl (Or.inl rfl) (fe_op op_addA sim_add (fe_ix (fe_ix (fe_var (pv 1)) (fe_call rfl ((ok_l_draw h).mono (by decide)) hr (by rfl) h.g_l_draw h.F_l_draw.kp (b_l_draw h) .nil Dfl.nil tk (fa_cons (fe_var (pv 0)) (fa_cons (fe_bu call_len sim_len (by rfl) h.n_len PyProof.Rows.Boot.«len» (fa_cons (fe_var (pv 1)) fa_nil)) fa_nil)))) fe_int) (fe_call rfl ((ok_l_draw h).mono (by decide)) hr (by rfl) h.g_l_draw h.F_l_draw.kp (b_l_draw h) .nil Dfl.nil tk (fa_cons (fe_var (pv 0)) (fa_cons fe_int fa_nil)))))) fs_nil)
      (fs_one (fs_ret (fe_tup (fa_cons (fe_var (pv 5)) (fa_cons (fe_bu (call_min2 rfl) sim_i2 (by rfl) h.n_min PyProof.Rows.Boot.«min» (fa_cons fe_int (fa_cons (fe_bu (call_max2 rfl) sim_i2 (by rfl) h.n_max PyProof.Rows.Boot.«max» (fa_cons fe_int (fa_cons (fe_var (pv 6)) fa_nil))) fa_nil))) fa_nil)))))))))))))
theorem nd_l_taken : N_l_taken.Nodup := by decide +kernel
theorem sc_l_taken : FnScope N_l_taken ["_law_entries_here", "_law_places", "_law_who", "_law_amount"] (defScope s_l_taken) := ⟨rfl, rfl, rfl, by decide +kernel, rfl, by decide +kernel, by decide +kernel⟩
theorem b_l_taken (h : Hs P w K mg) : Binds K h.fd_l_taken ["_law_entries_here", "_law_places", "_law_who", "_law_amount"] [] := h.F_l_taken.bindsN fun _ _ _ _ _ _ us hl => match us, hl with | [_, _, _, _], _ => rfl
theorem ok_l_taken (h : Hs P w K mg) : FnOk P w K mg base (L2.CX P w) 2 h.f_l_taken h.fd_l_taken ["_law_entries_here", "_law_places", "_law_who", "_law_amount"] (spF K 4 (f_l_taken)) :=
  fn_okF h.F_l_taken sc_l_taken fun cdv A outer s H E hr => by
  have nd := nd_l_taken
  have hu := hr.units
  have tk := tk_cx (P := P) (w := w) (K := K) (mg := mg) (base := base) (N := N_l_taken) (qual := "_law_taken") (scope := defScope s_l_taken) (f := h.f_l_taken) (cd := cdv) (A := A) (outer := outer) (s := s) (H := H) (E := E)
  have own := own_cx (P := P) (w := w) (K := K) (mg := mg) (base := base) (N := N_l_taken) (qual := "_law_taken") (scope := defScope s_l_taken) (f := h.f_l_taken) (cd := cdv) (A := A) (outer := outer) (s := s) (H := H) (E := E)
  exact (fs_cons (fs_if (ft_cmp op_in_seq (by rfl) sim_in (fe_var (pv 2)) (fe_lc (own := [("_law_entry", 9)]) rfl nd (fi_seq (fe_var (pv 0))) (blkOk_by (N := N_l_taken) (sc := defScope s_l_taken) (by decide +kernel)) (fun _ _ _ _ _ => (fgv_name (i := 9) (by decide) nd rfl (Or.inl rfl))) (fun _ _ _ _ _ => fts_nil) (fun _ _ _ _ _ => (fe_ix (fe_var (pv 9)) fe_int)))) (fs_one (fs_ret (fe_tup (fa_cons fe_str (fa_cons (fe_var (pv 0)) (fa_cons (fe_un un_neg sim_neg fe_int) fa_nil)))))) fs_nil)
      (fs_cons (fs_if (ft_cmp op_le (nomark _) sim_le (fe_var (pv 3)) (fe_call rfl ((ok_l_price h).mono (by decide)) hr (by rfl) h.g_l_price h.F_l_price.kp (b_l_price h) .nil Dfl.nil tk (fa_cons (fe_var (pv 0)) (fa_cons (fe_var (pv 1)) fa_nil)))) (fs_one (fs_ret (fe_tup (fa_cons fe_str (fa_cons (fe_var (pv 0)) (fa_cons (fe_un un_neg sim_neg fe_int) fa_nil)))))) fs_nil)
      (fs_cons (fs_set (i := 4) nd rfl (Or.inr rfl) (fe_un un_neg sim_neg fe_int))
      (fs_cons (fs_if (ft_cmp (op_eqD hu) (nomark _) sim_eq (fe_bu call_len sim_len (by rfl) h.n_len PyProof.Rows.Boot.«len» (fa_cons (fe_var (pv 0)) fa_nil)) (fe_var (pv 1))) (fs_cons (fs_set (i := 5) nd rfl (Or.inl rfl) (fe_bu (cr_min rfl) sim_min1 (by rfl) h.n_min PyProof.Rows.Boot.«min» (fa_cons (fe_lc (own := [("_law_entry", 9)]) rfl nd (fi_seq (fe_var (pv 0))) (blkOk_by (N := N_l_taken) (sc := defScope s_l_taken) (by decide +kernel)) (fun _ _ _ _ _ => (fgv_name (i := 9) (by decide) nd rfl (Or.inl rfl))) (fun _ _ _ _ _ => fts_nil) (fun _ _ _ _ _ => (fe_op op_sub sim_sub (fe_op op_mul sim_mul fe_int (fe_ix (fe_var (pv 9)) fe_int)) (fe_ix (fe_var (pv 9)) fe_int)))) fa_nil)))
      (fs_one (fs_set (i := 4) nd rfl (Or.inr rfl) (fe_op op_mod sim_mod (fe_ty call_int1 sim_int (by rfl) h.n_int PyProof.Rows.Boot.«int» (fa_cons (fe_un un_neg sim_neg (fe_var (pv 5))) fa_nil)) fe_int)))) fs_nil)
      (fs_cons (fs_setLc (i := 6) (own := [("_law_entry", 9)]) rfl nd rfl rfl (sw_true rfl rfl rfl (by decide +kernel)) (fi_seq (fe_var (pv 0))) (blkOk_by (N := N_l_taken) (sc := defScope s_l_taken) (by decide +kernel)) (fun _ _ _ _ _ => (fgv_name (i := 9) (by decide) nd rfl (Or.inl rfl))) (fun _ _ _ _ _ => (fts_one (ft_cmp (op_neD hu) (nomark _) sim_ne (fe_ix (fe_var (pv 9)) fe_int) (fe_var (pv 4))))) (fun _ _ _ _ _ => (fe_var (pv 9))))
      (fs_cons (fs_setLc (i := 7) (own := [("_law_entry", 9)]) rfl nd rfl rfl (sw_true rfl rfl rfl (by decide +kernel)) (fi_seq (fe_var (pv 6))) (blkOk_by (N := N_l_taken) (sc := defScope s_l_taken) (by decide +kernel)) (fun _ _ _ _ _ => (fgv_name (i := 9) (by decide) nd rfl (Or.inl rfl))) (fun _ _ _ _ _ => (fts_one (ft_cmp op_lt (nomark _) sim_lt (fe_ix (fe_var (pv 9)) fe_int) (fe_var (pv 2))))) (fun _ _ _ _ _ => (fe_var (pv 9))))
      (fs_cons (fs_setLc (i := 8) (own := [("_law_entry", 9)]) rfl nd rfl rfl (sw_true rfl rfl rfl (by decide +kernel)) (fi_seq (fe_var (pv 6))) (blkOk_by (N := N_l_taken) (sc := defScope s_l_taken) (by decide +kernel)) (fun _ _ _ _ _ => (fgv_name (i := 9) (by decide) nd rfl (Or.inl rfl))) (fun _ _ _ _ _ => (fts_one (ft_cmp op_gt (nomark _) sim_gt (fe_ix (fe_var (pv 9)) fe_int) (fe_var (pv 2))))) (fun _ _ _ _ _ => (fe_var (pv 9))))
      (fs_one (fs_ret (fe_tup (fa_cons fe_str (fa_cons (fe_op op_addA sim_add (fe_op op_addA sim_add (fe_var (pv 7)) (fe_lst (fa_cons (fe_tup (fa_cons (fe_var (pv 2)) (fa_cons (fe_var (pv 3)) fa_nil))) fa_nil))) (fe_var (pv 8))) (fa_cons (fe_var (pv 4)) fa_nil)))))))))))))
theorem nd_l_beyond : N_l_beyond.Nodup := by decide +kernel
theorem sc_l_beyond : FnScope N_l_beyond ["_law_pool", "_law_least", "_law_most"] (defScope s_l_beyond) := ⟨rfl, rfl, rfl, by decide +kernel, rfl, by decide +kernel, by decide +kernel⟩
theorem b_l_beyond (h : Hs P w K mg) : Binds K h.fd_l_beyond ["_law_pool", "_law_least", "_law_most"] [] := h.F_l_beyond.bindsN fun _ _ _ _ _ _ us hl => match us, hl with | [_, _, _], _ => rfl
theorem ok_l_beyond (h : Hs P w K mg) : FnOk P w K mg base (L2.CX P w) 2 h.f_l_beyond h.fd_l_beyond ["_law_pool", "_law_least", "_law_most"] (spF K 3 (f_l_beyond)) :=
  fn_okF h.F_l_beyond sc_l_beyond fun cdv A outer s H E hr => by
  have nd := nd_l_beyond
  have hu := hr.units
  have tk := tk_cx (P := P) (w := w) (K := K) (mg := mg) (base := base) (N := N_l_beyond) (qual := "_law_beyond") (scope := defScope s_l_beyond) (f := h.f_l_beyond) (cd := cdv) (A := A) (outer := outer) (s := s) (H := H) (E := E)
  have own := own_cx (P := P) (w := w) (K := K) (mg := mg) (base := base) (N := N_l_beyond) (qual := "_law_beyond") (scope := defScope s_l_beyond) (f := h.f_l_beyond) (cd := cdv) (A := A) (outer := outer) (s := s) (H := H) (E := E)
  exact (fs_cons (fs_set (i := 3) nd rfl (Or.inl rfl) fe_int)
      (fs_cons (fs_if (ft_cmp (op_eqD hu) (nomark _) sim_eq (fe_call rfl ((ok_l_draw h).mono (by decide)) hr (by rfl) h.g_l_draw h.F_l_draw.kp (b_l_draw h) .nil Dfl.nil tk (fa_cons (fe_var (pv 0)) (fa_cons fe_int fa_nil))) fe_int) (fs_one (fs_set (i := 3) nd rfl (Or.inl rfl) (fe_op op_addA sim_add fe_int (fe_call rfl ((ok_l_draw h).mono (by decide)) hr (by rfl) h.g_l_draw h.F_l_draw.kp (b_l_draw h) .nil Dfl.nil tk (fa_cons (fe_var (pv 0)) (fa_cons fe_int fa_nil)))))) fs_nil)
      (fs_cons (fs_if (ft_cmp (op_eqD hu) (nomark _) sim_eq (fe_call rfl ((ok_l_draw h).mono (by decide)) hr (by rfl) h.g_l_draw h.F_l_draw.kp (b_l_draw h) .nil Dfl.nil tk (fa_cons (fe_var (pv 0)) (fa_cons fe_int fa_nil))) fe_int) (fs_one (fs_ret (fe_op op_sub sim_sub (fe_var (pv 1)) (fe_var (pv 3))))) fs_nil)
      (fs_one (fs_ret (fe_op op_addA sim_add (fe_var (pv 2)) (fe_var (pv 3))))))))
theorem nd_l_odd_entries : N_l_odd_entries.Nodup := by decide +kernel
theorem sc_l_odd_entries : FnScope N_l_odd_entries ["_law_pool", "_law_entries_here"] (defScope s_l_odd_entries) := ⟨rfl, rfl, rfl, by decide +kernel, rfl, by decide +kernel, by decide +kernel⟩
theorem b_l_odd_entries (h : Hs P w K mg) : Binds K h.fd_l_odd_entries ["_law_pool", "_law_entries_here"] [] := h.F_l_odd_entries.bindsN fun _ _ _ _ _ _ us hl => match us, hl with | [_, _], _ => rfl
theorem ok_l_odd_entries (h : Hs P w K mg) : FnOk P w K mg base (L2.CX P w) 3 h.f_l_odd_entries h.fd_l_odd_entries ["_law_pool", "_law_entries_here"] (spF K 2 (f_l_odd_entries)) :=
  fn_okF h.F_l_odd_entries sc_l_odd_entries fun cdv A outer s H E hr => by
  have nd := nd_l_odd_entries
  have hu := hr.units
  have tk := tk_cx (P := P) (w := w) (K := K) (mg := mg) (base := base) (N := N_l_odd_entries) (qual := "_law_odd_entries") (scope := defScope s_l_odd_entries) (f := h.f_l_odd_entries) (cd := cdv) (A := A) (outer := outer) (s := s) (H := H) (E := E)
  have own := own_cx (P := P) (w := w) (K := K) (mg := mg) (base := base) (N := N_l_odd_entries) (qual := "_law_odd_entries") (scope := defScope s_l_odd_entries) (f := h.f_l_odd_entries) (cd := cdv) (A := A) (outer := outer) (s := s) (H := H) (E := E)
  exact (fs_cons (fs_set (i := 2) nd rfl (Or.inl rfl) (fe_call rfl ((ok_l_draw h).mono (by decide)) hr (by rfl) h.g_l_draw h.F_l_draw.kp (b_l_draw h) .nil Dfl.nil tk (fa_cons (fe_var (pv 0)) (fa_cons fe_int fa_nil))))
      (fs_cons (fs_if (fw_t (fw_or (ft_cmp (op_eqD hu) (nomark _) sim_eq (fe_var (pv 2)) fe_int) (fw_or1 (ft_cmp (op_eqD hu) (nomark _) sim_eq (fe_var (pv 1)) (fe_lst fa_nil))))) (fs_one (fs_ret (fe_lc (own := [("_law_k", 6)]) rfl nd (fi_range1 (by rfl) h.n_range (fa_cons (fe_op op_addA sim_add fe_int (fe_call rfl ((ok_l_draw h).mono (by decide)) hr (by rfl) h.g_l_draw h.F_l_draw.kp (b_l_draw h) .nil Dfl.nil tk (fa_cons (fe_var (pv 0)) (fa_cons fe_int fa_nil)))) fa_nil)) (blkOk_by (N := N_l_odd_entries) (sc := defScope s_l_odd_entries) (by decide +kernel)) (fun _ _ _ _ _ => (fgv_name (i := 6) (by decide) nd rfl (Or.inl rfl))) (fun _ _ _ _ _ => fts_nil) (fun _ _ _ _ _ => (fe_tup (fa_cons (fe_var (pv 6)) (fa_cons fe_int fa_nil))))))) fs_nil)
      (fs_cons (fs_set (i := 3) nd rfl (Or.inl rfl) (fe_call rfl ((ok_l_draw h).mono (by decide)) hr (by rfl) h.g_l_draw h.F_l_draw.kp (b_l_draw h) .nil Dfl.nil tk (fa_cons (fe_var (pv 0)) (fa_cons (fe_bu call_len sim_len (by rfl) h.n_len PyProof.Rows.Boot.«len» (fa_cons (fe_var (pv 1)) fa_nil)) fa_nil))))
      (fs_cons (fs_asg (fe_ix (fe_var (pv 1)) (fe_var (pv 3))) (fg_tup rfl (fgs_cons (fg_name (i := 4) nd rfl (Or.inl rfl)) (fgs_cons (fg_name (i := 5) nd rfl (Or.inl rfl)) fgs_nil))))
      (fs_cons (fs_if (ft_cmp (op_eqD hu) (nomark _) sim_eq (fe_var (pv 2)) fe_int) (fs_one (fs_ret (fe_op op_addA sim_add (fe_sl (fe_var (pv 1)) fo_none (fo_some (fe_op op_addA sim_add (fe_var (pv 3)) fe_int))) (fe_sl (fe_var (pv 1)) (fo_some (fe_var (pv 3))) fo_none)))) fs_nil)
      (fs_cons (fs_if (ft_cmp (op_eqD hu) (nomark _) sim_eq (fe_var (pv 2)) fe_int) (fs_one (fs_ret (fe_op op_addA sim_add (fe_sl (fe_var (pv 1)) (fo_some (fe_var (pv 3))) fo_none) (fe_sl (fe_var (pv 1)) fo_none (fo_some (fe_var (pv 3))))))) fs_nil)
      (fs_cons (fs_if (ft_cmp (op_eqD hu) (nomark _) sim_eq (fe_var (pv 2)) fe_int) (fs_one (fs_set (i := 4) nd rfl (Or.inl rfl) (fe_call rfl ((ok_l_beyond h).mono (by decide)) hr (by rfl) h.g_l_beyond h.F_l_beyond.kp (b_l_beyond h) .nil Dfl.nil tk (fa_cons (fe_var (pv 0)) (fa_cons fe_int (fa_cons fe_int fa_nil)))))) fs_nil)
      (fs_cons (fs_if (ft_cmp (op_eqD hu) (nomark _) sim_eq (fe_var (pv 2)) fe_int) (fs_one (fs_set (i := 5) nd rfl (Or.inl rfl) (fe_call rfl ((ok_l_beyond h).mono (by decide)) hr (by rfl) h.g_l_beyond h.F_l_beyond.kp (b_l_beyond h) .nil Dfl.nil tk (fa_cons (fe_var (pv 0)) (fa_cons fe_int (fa_cons fe_int fa_nil)))))) fs_nil)
      (fs_one (fs_ret (fe_op op_addA sim_add (fe_op op_addA sim_add (fe_sl (fe_var (pv 1)) fo_none (fo_some (fe_var (pv 3)))) (fe_lst (fa_cons (fe_tup (fa_cons (fe_var (pv 4)) (fa_cons (fe_var (pv 5)) fa_nil))) fa_nil))) (fe_sl (fe_var (pv 1)) (fo_some (fe_op op_addA sim_add (fe_var (pv 3)) fe_int)) fo_none))))))))))))
theorem nd_l_bent : N_l_bent.Nodup := by decide +kernel
theorem sc_l_bent : FnScope N_l_bent ["_law_pool", "_law_asked"] (defScope s_l_bent) := ⟨rfl, rfl, rfl, by decide +kernel, rfl, by decide +kernel, by decide +kernel⟩
theorem b_l_bent (h : Hs P w K mg) : Binds K h.fd_l_bent ["_law_pool", "_law_asked"] [] := h.F_l_bent.bindsN fun _ _ _ _ _ _ us hl => match us, hl with | [_, _], _ => rfl
theorem ok_l_bent (h : Hs P w K mg) : FnOk P w K mg base (L2.CX P w) 4 h.f_l_bent h.fd_l_bent ["_law_pool", "_law_asked"] (spF K 2 (f_l_bent)) :=
  fn_okF h.F_l_bent sc_l_bent fun cdv A outer s H E hr => by
  have nd := nd_l_bent
  have hu := hr.units
  have tk := tk_cx (P := P) (w := w) (K := K) (mg := mg) (base := base) (N := N_l_bent) (qual := "_law_bent") (scope := defScope s_l_bent) (f := h.f_l_bent) (cd := cdv) (A := A) (outer := outer) (s := s) (H := H) (E := E)
  have own := own_cx (P := P) (w := w) (K := K) (mg := mg) (base := base) (N := N_l_bent) (qual := "_law_bent") (scope := defScope s_l_bent) (f := h.f_l_bent) (cd := cdv) (A := A) (outer := outer) (s := s) (H := H) (E := E)
  exact (fs_cons (fs_asg (fe_var (pv 1)) (fg_tup rfl (fgs_cons (fg_name (i := 2) nd rfl (Or.inl rfl)) (fgs_cons (fg_name (i := 3) nd rfl (Or.inl rfl)) (fgs_cons (fg_name (i := 4) nd rfl (Or.inl rfl)) (fgs_cons (fg_name (i := 5) nd rfl (Or.inl rfl)) fgs_nil))))))
      (fs_cons (fs_set (i := 6) nd rfl (Or.inl rfl) (fe_call rfl ((ok_l_draw h).mono (by decide)) hr (by rfl) h.g_l_draw h.F_l_draw.kp (b_l_draw h) .nil Dfl.nil tk (fa_cons (fe_var (pv 0)) (fa_cons fe_int fa_nil))))
      (fs_cons (fs_if (ft_cmp (op_eqD hu) (nomark _) sim_eq (fe_var (pv 6)) fe_int) (fs_one (fs_set (i := 3) nd rfl (Or.inl rfl) (fe_call rfl ((ok_l_beyond h).mono (by decide)) hr (by rfl) h.g_l_beyond h.F_l_beyond.kp (b_l_beyond h) .nil Dfl.nil tk (fa_cons (fe_var (pv 0)) (fa_cons fe_int (fa_cons fe_int fa_nil)))))) fs_nil)
      (fs_cons (fs_if (ft_cmp (op_eqD hu) (nomark _) sim_eq (fe_var (pv 6)) fe_int) (fs_one (fs_set (i := 4) nd rfl (Or.inl rfl) (fe_call rfl ((ok_l_beyond h).mono (by decide)) hr (by rfl) h.g_l_beyond h.F_l_beyond.kp (b_l_beyond h) .nil Dfl.nil tk (fa_cons (fe_var (pv 0)) (fa_cons fe_int (fa_cons fe_int fa_nil)))))) fs_nil)
      (fs_cons (fs_if (ft_cmp (op_eqD hu) (nomark _) sim_eq (fe_var (pv 6)) fe_int) (fs_one (fs_set (i := 5) nd rfl (Or.inl rfl) (fe_call rfl ((ok_l_beyond h).mono (by decide)) hr (by rfl) h.g_l_beyond h.F_l_beyond.kp (b_l_beyond h) .nil Dfl.nil tk (fa_cons (fe_var (pv 0)) (fa_cons fe_int (fa_cons fe_int fa_nil)))))) fs_nil)
      (fs_cons (fs_if (ft_cmp (op_eqD hu) (nomark _) sim_eq (fe_var (pv 6)) fe_int) (fs_one (fs_set (i := 3) nd rfl (Or.inl rfl) (fe_op op_addA sim_add fe_int (fe_call rfl ((ok_l_draw h).mono (by decide)) hr (by rfl) h.g_l_draw h.F_l_draw.kp (b_l_draw h) .nil Dfl.nil tk (fa_cons (fe_var (pv 0)) (fa_cons (fe_bu (call_max2 rfl) sim_i2 (by rfl) h.n_max PyProof.Rows.Boot.«max» (fa_cons fe_int (fa_cons (fe_op op_sub sim_sub (fe_bu call_len sim_len (by rfl) h.n_len PyProof.Rows.Boot.«len» (fa_cons (fe_var (pv 2)) fa_nil)) fe_int) fa_nil))) fa_nil)))))) fs_nil)
      (fs_cons (fs_if (ft_cmp op_gt (nomark _) sim_gt (fe_var (pv 6)) fe_int) (fs_one (fs_set (i := 2) nd rfl (Or.inl rfl) (fe_call rfl ((ok_l_odd_entries h).mono (by decide)) hr (by rfl) h.g_l_odd_entries h.F_l_odd_entries.kp (b_l_odd_entries h) .nil Dfl.nil tk (fa_cons (fe_var (pv 0)) (fa_cons (fe_var (pv 2)) fa_nil))))) fs_nil)
      (fs_one (fs_ret (fe_lst (fa_cons (fe_var (pv 2)) (fa_cons (fe_var (pv 3)) (fa_cons (fe_var (pv 4)) (fa_cons (fe_var (pv 5)) fa_nil))))))))))))))
theorem nd_l_first : N_l_first.Nodup := by decide +kernel
theorem sc_l_first : FnScope N_l_first ["_law_looks"] (defScope s_l_first) := ⟨rfl, rfl, rfl, by decide +kernel, rfl, by decide +kernel, by decide +kernel⟩
theorem b_l_first (h : Hs P w K mg) : Binds K h.fd_l_first ["_law_looks"] [] := h.F_l_first.bindsN fun _ _ _ _ _ _ us hl => match us, hl with | [_], _ => rfl
theorem ok_l_first (h : Hs P w K mg) : FnOk P w K mg base (L2.CX P w) 1 h.f_l_first h.fd_l_first ["_law_looks"] (spF K 1 (f_l_first)) :=
  fn_okF h.F_l_first sc_l_first fun cdv A outer s H E hr => by
  have nd := nd_l_first
  have hu := hr.units
  have tk := tk_cx (P := P) (w := w) (K := K) (mg := mg) (base := base) (N := N_l_first) (qual := "_law_first") (scope := defScope s_l_first) (f := h.f_l_first) (cd := cdv) (A := A) (outer := outer) (s := s) (H := H) (E := E)
  have own := own_cx (P := P) (w := w) (K := K) (mg := mg) (base := base) (N := N_l_first) (qual := "_law_first") (scope := defScope s_l_first) (f := h.f_l_first) (cd := cdv) (A := A) (outer := outer) (s := s) (H := H) (E := E)
  exact (fs_cons (fs_for own rfl (fi_seq (fe_var (pv 0))) (fg_tup rfl (fgs_cons (fg_name (i := 1) nd rfl (Or.inl rfl)) (fgs_cons (fg_name (i := 2) nd rfl (Or.inl rfl)) (fgs_cons (fg_name (i := 3) nd rfl (Or.inl rfl)) (fgs_cons (fg_name (i := 4) nd rfl (Or.inl rfl)) fgs_nil))))) (fs_one (fs_if (fw_t (fw_or (ft_cmp op_lt (nomark _) sim_lt (fe_var (pv 2)) (fe_var (pv 3))) (fw_or1 (ft_cmp op_gt (nomark _) sim_gt (fe_var (pv 2)) (fe_var (pv 4)))))) (fs_one (fs_ret (fe_tup (fa_cons fe_str (fa_cons (fe_var (pv 1)) (fa_cons (fe_var (pv 2)) fa_nil)))))) fs_nil)))
      (fs_one (fs_ret fe_non)))
theorem nd_l_dues : N_l_dues.Nodup := by decide +kernel
theorem sc_l_dues : FnScope N_l_dues ["_law_asked"] (defScope s_l_dues) := ⟨rfl, rfl, rfl, by decide +kernel, rfl, by decide +kernel, by decide +kernel⟩
theorem b_l_dues (h : Hs P w K mg) : Binds K h.fd_l_dues ["_law_asked"] [] := h.F_l_dues.bindsN fun _ _ _ _ _ _ us hl => match us, hl with | [_], _ => rfl
theorem raw_l_dues (h : Hs P w K mg) : FnOk P w K mg base (L2.CX P w) 3 h.f_l_dues h.fd_l_dues ["_law_asked"] (spF K 1 (f_l_dues)) :=
  fn_okF h.F_l_dues sc_l_dues fun cdv A outer s H E hr => by
  have nd := nd_l_dues
  have hu := hr.units
  have tk := tk_cx (P := P) (w := w) (K := K) (mg := mg) (base := base) (N := N_l_dues) (qual := "_law_dues") (scope := defScope s_l_dues) (f := h.f_l_dues) (cd := cdv) (A := A) (outer := outer) (s := s) (H := H) (E := E)
  have own := own_cx (P := P) (w := w) (K := K) (mg := mg) (base := base) (N := N_l_dues) (qual := "_law_dues") (scope := defScope s_l_dues) (f := h.f_l_dues) (cd := cdv) (A := A) (outer := outer) (s := s) (H := H) (E := E)
  exact (fs_cons (fs_asg (fe_var (pv 0)) (fg_tup rfl (fgs_cons (fg_name (i := 1) nd rfl (Or.inl rfl)) (fgs_cons (fg_name (i := 2) nd rfl (Or.inl rfl)) (fgs_cons (fg_name (i := 3) nd rfl (Or.inr rfl)) (fgs_cons (fg_name (i := 4) nd rfl (Or.inl rfl)) fgs_nil))))))
      (fs_cons (fs_set (i := 5) nd rfl (Or.inl rfl) (fe_bu call_len sim_len (by rfl) h.n_len PyProof.Rows.Boot.«len» (fa_cons (fe_var (pv 1)) fa_nil)))
      (fs_cons (fs_set (i := 6) nd rfl (Or.inl rfl) (fe_loc rfl (fa_cons (fe_tup (fa_cons fe_str (fa_cons (fe_var (pv 5)) (fa_cons fe_int (fa_cons fe_int fa_nil))))) fa_nil)))
      (fs_cons (fs_set (i := 7) nd rfl (Or.inl rfl) (fe_un un_neg sim_neg fe_int))
      (fs_cons (fs_for own rfl (fi_seq (fe_var (pv 1))) (fg_tup rfl (fgs_cons (fg_name (i := 8) nd rfl (Or.inl rfl)) (fgs_cons (fg_name (i := 9) nd rfl (Or.inl rfl)) fgs_nil))) (fs_cons (fs_expr (fe_mut rfl mt_append sim_append PySem.F.slot_list_append PySem.F.type_list_append (fe_var (pv 6)) (fa_cons (fe_tup (fa_cons fe_str (fa_cons (fe_var (pv 8)) (fa_cons (fe_op op_addA sim_add (fe_var (pv 7)) fe_int) (fa_cons fe_int fa_nil))))) fa_nil)))
      (fs_cons (fs_expr (fe_mut rfl mt_append sim_append PySem.F.slot_list_append PySem.F.type_list_append (fe_var (pv 6)) (fa_cons (fe_tup (fa_cons fe_str (fa_cons (fe_var (pv 9)) (fa_cons fe_int (fa_cons fe_int fa_nil))))) fa_nil)))
      (fs_one (fs_set (i := 7) nd rfl (Or.inl rfl) (fe_var (pv 8)))))))
      (fs_cons (fs_set (i := 10) nd rfl (Or.inl rfl) (fe_lst (fa_cons (fe_tup (fa_cons fe_str (fa_cons (fe_var (pv 3)) (fa_cons fe_int (fa_cons fe_int fa_nil))))) fa_nil)))
      (fs_cons (fs_set (i := 11) nd rfl (Or.inl rfl) (fe_lst (fa_cons (fe_tup (fa_cons fe_str (fa_cons (fe_var (pv 2)) (fa_cons fe_int (fa_cons fe_int fa_nil))))) fa_nil)))
      (fs_cons (fs_set (i := 12) nd rfl (Or.inl rfl) (fe_lst (fa_cons (fe_tup (fa_cons fe_str (fa_cons (fe_var (pv 5)) (fa_cons fe_int (fa_cons (fe_var (pv 2)) fa_nil))))) fa_nil)))
      (fs_cons (fs_set (i := 13) nd rfl (Or.inl rfl) (fe_lst (fa_cons (fe_tup (fa_cons fe_str (fa_cons (fe_var (pv 4)) (fa_cons fe_int (fa_cons fe_int fa_nil))))) fa_nil)))
      (fs_cons (fs_set (i := 14) nd rfl (Or.inl rfl) (fe_loc rfl (fa_cons (fe_call rfl ((ok_l_first h).mono (by decide)) hr (by rfl) h.g_l_first h.F_l_first.kp (b_l_first h) .nil Dfl.nil tk (fa_cons (fe_op op_addA sim_add (fe_op op_addA sim_add (fe_op op_addA sim_add (fe_op op_addA sim_add (fe_var (pv 6)) (fe_var (pv 11))) (fe_var (pv 10))) (fe_var (pv 13))) (fe_var (pv 12))) fa_nil)) fa_nil)))
      (fs_cons (fs_expr (fe_mut rfl mt_append sim_append PySem.F.slot_list_append PySem.F.type_list_append (fe_var (pv 14)) (fa_cons (fe_call rfl ((ok_l_first h).mono (by decide)) hr (by rfl) h.g_l_first h.F_l_first.kp (b_l_first h) .nil Dfl.nil tk (fa_cons (fe_op op_addA sim_add (fe_op op_addA sim_add (fe_var (pv 6)) (fe_var (pv 11))) (fe_var (pv 12))) fa_nil)) fa_nil)))
      (fs_cons (fs_expr (fe_mut rfl mt_append sim_append PySem.F.slot_list_append PySem.F.type_list_append (fe_var (pv 14)) (fa_cons (fe_call rfl ((ok_l_first h).mono (by decide)) hr (by rfl) h.g_l_first h.F_l_first.kp (b_l_first h) .nil Dfl.nil tk (fa_cons (fe_op op_addA sim_add (fe_var (pv 6)) (fe_var (pv 10))) fa_nil)) fa_nil)))
      (fs_cons (fs_if (ft_cmp op_isN (nomark _) sim_isN (fe_ix (fe_var (pv 14)) fe_int) fe_non) (fs_cons (fs_asg (fe_call rfl ((ok_l_taken h).mono (by decide)) hr (by rfl) h.g_l_taken h.F_l_taken.kp (b_l_taken h) .nil Dfl.nil tk (fa_cons (fe_var (pv 1)) (fa_cons (fe_var (pv 2)) (fa_cons (fe_var (pv 3)) (fa_cons (fe_var (pv 4)) fa_nil))))) (fg_tup rfl (fgs_cons (fg_name (i := 15) nd rfl (Or.inl rfl)) (fgs_cons (fg_name (i := 16) nd rfl (Or.inl rfl)) (fgs_cons (fg_name (i := 17) nd rfl (Or.inl rfl)) fgs_nil)))))
      (fs_one (fs_seti rfl (fe_tup (fa_cons fe_str (fa_cons (fe_tup (fa_cons (fe_var (pv 15)) (fa_cons (fe_ty call_tuple_of sim_tuple (by rfl) h.n_tuple PyProof.Rows.Boot.«tuple» (fa_cons (fe_var (pv 16)) fa_nil)) (fa_cons (fe_var (pv 17)) fa_nil)))) fa_nil))) (fe_var (pv 14)) fe_int))) fs_nil)
      (fs_cons (fs_if (ft_cmp op_isN (nomark _) sim_isN (fe_ix (fe_var (pv 14)) fe_int) fe_non) (fs_one (fs_seti rfl (fe_tup (fa_cons fe_str (fa_cons (fe_call rfl ((ok_l_price h).mono (by decide)) hr (by rfl) h.g_l_price h.F_l_price.kp (b_l_price h) .nil Dfl.nil tk (fa_cons (fe_var (pv 1)) (fa_cons (fe_var (pv 2)) fa_nil))) fa_nil))) (fe_var (pv 14)) fe_int)) fs_nil)
      (fs_cons (fs_if (ft_cmp op_isN (nomark _) sim_isN (fe_ix (fe_var (pv 14)) fe_int) fe_non) (fs_cons (fs_set (i := 18) nd rfl (Or.inl rfl) (fe_op op_addA sim_add (fe_lc (own := [("_law_entry", 19)]) rfl nd (fi_seq (fe_var (pv 1))) (blkOk_by (N := N_l_dues) (sc := defScope s_l_dues) (by decide +kernel)) (fun _ _ _ _ _ => (fgv_name (i := 19) (by decide) nd rfl (Or.inl rfl))) (fun _ _ _ _ _ => (fts_one (ft_cmp (op_eqD hu) (nomark _) sim_eq (fe_ix (fe_var (pv 19)) fe_int) (fe_var (pv 3))))) (fun _ _ _ _ _ => (fe_ix (fe_var (pv 19)) fe_int))) (fe_lst (fa_cons (fe_un un_neg sim_neg fe_int) fa_nil))))
      (fs_one (fs_seti rfl (fe_tup (fa_cons fe_str (fa_cons (fe_ix (fe_var (pv 18)) fe_int) fa_nil))) (fe_var (pv 14)) fe_int))) fs_nil)
      (fs_one (fs_ret (fe_var (pv 14)))))))))))))))))))
theorem ok_l_dues (h : Hs P w K mg) : FnOk P w K mg base (L2.CX P w) 3 h.f_l_dues h.fd_l_dues ["_law_asked"] (spF K 1 (m_l_dues)) := (raw_l_dues h).nice fun ds S _ => frz_nice _ ds S
theorem nd_l_same : N_l_same.Nodup := by decide +kernel
theorem sc_l_same : FnScope N_l_same ["_law_told", "_law_due"] (defScope s_l_same) := ⟨rfl, rfl, rfl, by decide +kernel, rfl, by decide +kernel, by decide +kernel⟩
theorem b_l_same (h : Hs P w K mg) : Binds K h.fd_l_same ["_law_told", "_law_due"] [] := h.F_l_same.bindsN fun _ _ _ _ _ _ us hl => match us, hl with | [_, _], _ => rfl
theorem okr_l_same (h : Hs P w K mg) : ∀ k : Nat, FnOk P w K mg base (L2.CX P w) (1 + k) h.f_l_same h.fd_l_same ["_law_told", "_law_due"] (spF K 2 (f_l_same k))
  | 0 => fn_bad
  | k + 1 => fn_okF h.F_l_same sc_l_same fun cdv A outer s H E hr => by
    have hrec := okr_l_same h k
    have nd := nd_l_same
    have hu := hr.units
    have tk := tk_cx (P := P) (w := w) (K := K) (mg := mg) (base := base) (N := N_l_same) (qual := "_law_same") (scope := defScope s_l_same) (f := h.f_l_same) (cd := cdv) (A := A) (outer := outer) (s := s) (H := H) (E := E)
    have own := own_cx (P := P) (w := w) (K := K) (mg := mg) (base := base) (N := N_l_same) (qual := "_law_same") (scope := defScope s_l_same) (f := h.f_l_same) (cd := cdv) (A := A) (outer := outer) (s := s) (H := H) (E := E)
    exact (fs_cons (fs_if (ft_val (fe_bu call_isA (sim_isi (tab := []) (fun q hq => by cases hq) (fun q hq => by cases hq)) (by rfl) h.n_isinstance PyProof.Rows.Boot.«isinstance» (fa_cons (fe_var (pv 1)) (fa_cons (fe_c (v := .ty "tuple") (pe_bltn (by rfl) h.n_tuple PyProof.Rows.Boot.«tuple» rfl) fun _ => .ty _) fa_nil)))) (fs_cons (fs_if (fw_t (fw_or (ft_not (ft_val (fe_bu call_isA (sim_isi (tab := []) (fun q hq => by cases hq) (fun q hq => by cases hq)) (by rfl) h.n_isinstance PyProof.Rows.Boot.«isinstance» (fa_cons (fe_var (pv 0)) (fa_cons (fe_c (v := .ty "tuple") (pe_bltn (by rfl) h.n_tuple PyProof.Rows.Boot.«tuple» rfl) fun _ => .ty _) fa_nil))))) (fw_or1 (ft_cmp (op_neD hu) (nomark _) sim_ne (fe_bu call_len sim_len (by rfl) h.n_len PyProof.Rows.Boot.«len» (fa_cons (fe_var (pv 0)) fa_nil)) (fe_bu call_len sim_len (by rfl) h.n_len PyProof.Rows.Boot.«len» (fa_cons (fe_var (pv 1)) fa_nil)))))) (fs_one (fs_ret fe_bl)) fs_nil)
      (fs_cons (fs_for own rfl (fi_range1 (by rfl) h.n_range (fa_cons (fe_bu call_len sim_len (by rfl) h.n_len PyProof.Rows.Boot.«len» (fa_cons (fe_var (pv 1)) fa_nil)) fa_nil)) (fg_name (i := 2) nd rfl (Or.inl rfl)) (fs_one (fs_if (ft_not (ft_val (fe_call rfl hrec hr (by rfl) h.g_l_same h.F_l_same.kp (b_l_same h) .nil Dfl.nil tk (fa_cons (fe_ix (fe_var (pv 0)) (fe_var (pv 2))) (fa_cons (fe_ix (fe_var (pv 1)) (fe_var (pv 2))) fa_nil))))) (fs_one (fs_ret fe_bl)) fs_nil)))
      (fs_one (fs_ret fe_bl)))) fs_nil)
      (fs_cons (fs_if (ft_cmp op_isN (nomark _) sim_isN (fe_var (pv 1)) fe_non) (fs_one (fs_ret (fe_cmp op_isN (nomark _) sim_isN (fe_var (pv 0)) fe_non))) fs_nil)
      (fs_cons (fs_if (ft_val (fe_bu call_isA (sim_isi (tab := []) (fun q hq => by cases hq) (fun q hq => by cases hq)) (by rfl) h.n_isinstance PyProof.Rows.Boot.«isinstance» (fa_cons (fe_var (pv 1)) (fa_cons (fe_c (v := .ty "str") (pe_bltn (by rfl) h.n_str PyProof.Rows.Boot.«str» rfl) fun _ => .ty _) fa_nil)))) (fs_one (fs_ret (fe_and (fe_bu call_isA (sim_isi (tab := []) (fun q hq => by cases hq) (fun q hq => by cases hq)) (by rfl) h.n_isinstance PyProof.Rows.Boot.«isinstance» (fa_cons (fe_var (pv 0)) (fa_cons (fe_c (v := .ty "str") (pe_bltn (by rfl) h.n_str PyProof.Rows.Boot.«str» rfl) fun _ => .ty _) fa_nil))) (fe_one (fe_cmp (op_eqD hu) (nomark _) sim_eq (fe_var (pv 0)) (fe_var (pv 1))))))) fs_nil)
      (fs_cons (fs_if (fw_t (fw_or (ft_val (fe_bu call_isA (sim_isi (tab := []) (fun q hq => by cases hq) (fun q hq => by cases hq)) (by rfl) h.n_isinstance PyProof.Rows.Boot.«isinstance» (fa_cons (fe_var (pv 1)) (fa_cons (fe_c (v := .ty "bool") (pe_bltn (by rfl) h.n_bool PyProof.Rows.Boot.«bool» rfl) fun _ => .ty _) fa_nil)))) (fw_or1 (ft_val (fe_bu call_isA (sim_isi (tab := []) (fun q hq => by cases hq) (fun q hq => by cases hq)) (by rfl) h.n_isinstance PyProof.Rows.Boot.«isinstance» (fa_cons (fe_var (pv 0)) (fa_cons (fe_c (v := .ty "bool") (pe_bltn (by rfl) h.n_bool PyProof.Rows.Boot.«bool» rfl) fun _ => .ty _) fa_nil))))))) (fs_one (fs_ret (fe_and (fe_bu call_isA (sim_isi (tab := []) (fun q hq => by cases hq) (fun q hq => by cases hq)) (by rfl) h.n_isinstance PyProof.Rows.Boot.«isinstance» (fa_cons (fe_var (pv 1)) (fa_cons (fe_c (v := .ty "bool") (pe_bltn (by rfl) h.n_bool PyProof.Rows.Boot.«bool» rfl) fun _ => .ty _) fa_nil))) (fe_and (fe_bu call_isA (sim_isi (tab := []) (fun q hq => by cases hq) (fun q hq => by cases hq)) (by rfl) h.n_isinstance PyProof.Rows.Boot.«isinstance» (fa_cons (fe_var (pv 0)) (fa_cons (fe_c (v := .ty "bool") (pe_bltn (by rfl) h.n_bool PyProof.Rows.Boot.«bool» rfl) fun _ => .ty _) fa_nil))) (fe_one (fe_cmp (op_eqD hu) (nomark _) sim_eq (fe_var (pv 0)) (fe_var (pv 1)))))))) fs_nil)
      (fs_one (fs_ret (fe_and (fe_bu call_isA (sim_isi (tab := []) (fun q hq => by cases hq) (fun q hq => by cases hq)) (by rfl) h.n_isinstance PyProof.Rows.Boot.«isinstance» (fa_cons (fe_var (pv 0)) (fa_cons (fe_c (v := .ty "int") (pe_bltn (by rfl) h.n_int PyProof.Rows.Boot.«int» rfl) fun _ => .ty _) fa_nil))) (fe_one (fe_cmp (op_eqD hu) (nomark _) sim_eq (fe_var (pv 0)) (fe_var (pv 1)))))))))))
theorem ok_l_same (h : Hs P w K mg) : FnOk P w K mg base (L2.CX P w) 7 h.f_l_same h.fd_l_same ["_law_told", "_law_due"] (spF K 2 (f_l_same 6)) := okr_l_same h 6
theorem nd_within : N_within.Nodup := by decide +kernel
theorem sc_within : FnScope N_within ["what", "value", "least", "most"] (defScope s_within) := ⟨rfl, rfl, rfl, by decide +kernel, rfl, by decide +kernel, by decide +kernel⟩
theorem b_within (h : Hs P w K mg) : Binds K h.fd_within ["what", "value", "least", "most"] [] := h.F_within.bindsN fun _ _ _ _ _ _ us hl => match us, hl with | [_, _, _, _], _ => rfl
theorem ok_within (h : Hs P w K mg) : FnOk P w K mg base (L2.CX P w) 3 h.f_within h.fd_within ["what", "value", "least", "most"] (spF K 4 (f_within h.c)) :=
  fn_okF h.F_within sc_within fun cdv A outer s H E hr => by
  have nd := nd_within
  have hu := hr.units
  have tk := tk_cx (P := P) (w := w) (K := K) (mg := mg) (base := base) (N := N_within) (qual := "within") (scope := defScope s_within) (f := h.f_within) (cd := cdv) (A := A) (outer := outer) (s := s) (H := H) (E := E)
  have own := own_cx (P := P) (w := w) (K := K) (mg := mg) (base := base) (N := N_within) (qual := "within") (scope := defScope s_within) (f := h.f_within) (cd := cdv) (A := A) (outer := outer) (s := s) (H := H) (E := E)
  exact (fs_one (fs_if (fw_t (fw_or (ft_cmp op_lt (nomark _) sim_lt (fe_var (pv 1)) (fe_var (pv 2))) (fw_or1 (ft_cmp op_gt (nomark _) sim_gt (fe_var (pv 1)) (fe_var (pv 3)))))) (fs_one (fs_raise2 rfl rfl h.e_OutOfRange (ini_OutOfRange h) (hr.mono (by decide)) (bi_OutOfRange h) tk (by rfl) (fa_cons (fe_var (pv 0)) (fa_cons (fe_var (pv 1)) fa_nil)))) fs_nil))
theorem nd_entries_look : N_entries_look.Nodup := by decide +kernel
theorem sc_entries_look : FnScope N_entries_look ["entries"] (defScope s_entries_look) := ⟨rfl, rfl, rfl, by decide +kernel, rfl, by decide +kernel, by decide +kernel⟩
theorem b_entries_look (h : Hs P w K mg) : Binds K h.fd_entries_look ["entries"] [] := h.F_entries_look.bindsN fun _ _ _ _ _ _ us hl => match us, hl with | [_], _ => rfl
theorem ok_entries_look (h : Hs P w K mg) : FnOk P w K mg base (L2.CX P w) 4 h.f_entries_look h.fd_entries_look ["entries"] (spF K 1 (f_entries_look h.c)) :=
  fn_okF h.F_entries_look sc_entries_look fun cdv A outer s H E hr => by
  have nd := nd_entries_look
  have hu := hr.units
  have tk := tk_cx (P := P) (w := w) (K := K) (mg := mg) (base := base) (N := N_entries_look) (qual := "entries_look") (scope := defScope s_entries_look) (f := h.f_entries_look) (cd := cdv) (A := A) (outer := outer) (s := s) (H := H) (E := E)
  have own := own_cx (P := P) (w := w) (K := K) (mg := mg) (base := base) (N := N_entries_look) (qual := "entries_look") (scope := defScope s_entries_look) (f := h.f_entries_look) (cd := cdv) (A := A) (outer := outer) (s := s) (H := H) (E := E)
  exact (fs_cons (fs_expr (fe_call rfl ((ok_within h).mono (by decide)) hr (by rfl) h.g_within h.F_within.kp (b_within h) .nil Dfl.nil tk (fa_cons fe_str (fa_cons (fe_bu call_len sim_len (by rfl) h.n_len PyProof.Rows.Boot.«len» (fa_cons (fe_var (pv 0)) fa_nil)) (fa_cons fe_int (fa_cons (fe_c (v := .int 9) (pe_glob (by rfl) h.i_MOST_PLACES.choose_spec ⟨_, rfl⟩) fun _ => .int _) fa_nil))))))
      (fs_cons (fs_set (i := 1) nd rfl (Or.inl rfl) (fe_un un_neg sim_neg fe_int))
      (fs_cons (fs_for own rfl (fi_seq (fe_var (pv 0))) (fg_tup rfl (fgs_cons (fg_name (i := 2) nd rfl (Or.inl rfl)) (fgs_cons (fg_name (i := 3) nd rfl (Or.inl rfl)) fgs_nil))) (fs_cons (fs_expr (fe_call rfl ((ok_within h).mono (by decide)) hr (by rfl) h.g_within h.F_within.kp (b_within h) .nil Dfl.nil tk (fa_cons fe_str (fa_cons (fe_var (pv 2)) (fa_cons (fe_op op_addA sim_add (fe_var (pv 1)) fe_int) (fa_cons (fe_op op_sub sim_sub (fe_c (v := .int 30) (pe_glob (by rfl) h.i_MOST_SEEKERS.choose_spec ⟨_, rfl⟩) fun _ => .int _) fe_int) fa_nil))))))
      (fs_cons (fs_expr (fe_call rfl ((ok_within h).mono (by decide)) hr (by rfl) h.g_within h.F_within.kp (b_within h) .nil Dfl.nil tk (fa_cons fe_str (fa_cons (fe_var (pv 3)) (fa_cons fe_int (fa_cons (fe_c (v := .int 9999) (pe_glob (by rfl) h.i_MOST_PRICE.choose_spec ⟨_, rfl⟩) fun _ => .int _) fa_nil))))))
      (fs_one (fs_set (i := 1) nd rfl (Or.inl rfl) (fe_var (pv 2)))))))
      (fs_one (fs_ret (fe_ty call_tuple_of sim_tuple (by rfl) h.n_tuple PyProof.Rows.Boot.«tuple» (fa_cons (fe_lc (own := [("seeker", 2), ("amount", 3)]) rfl nd (fi_seq (fe_var (pv 0))) (blkOk_by (N := N_entries_look) (sc := defScope s_entries_look) (by decide +kernel)) (fun _ _ _ _ _ => (fgv_tup rfl (fgsv_cons (fgv_name (i := 2) (by decide) nd rfl (Or.inl rfl)) (fgsv_cons (fgv_name (i := 3) (by decide) nd rfl (Or.inl rfl)) fgsv_nil)))) (fun _ _ _ _ _ => fts_nil) (fun _ _ _ _ _ => (fe_tup (fa_cons (fe_var (pv 2)) (fa_cons (fe_var (pv 3)) fa_nil))))) fa_nil)))))))
theorem nd_p_put_out : N_p_put_out.Nodup := by decide +kernel
theorem sc_p_put_out : FnScope N_p_put_out ["kept"] (defScope s_p_put_out) := ⟨rfl, rfl, rfl, by decide +kernel, rfl, by decide +kernel, by decide +kernel⟩
theorem b_p_put_out (h : Hs P w K mg) : Binds K h.fd_p_put_out ["kept"] [] := h.F_p_put_out.bindsN fun _ _ _ _ _ _ us hl => match us, hl with | [_], _ => rfl
theorem ok_p_put_out (h : Hs P w K mg) : FnOk P w K mg base (L2.CX P w) 1 h.f_p_put_out h.fd_p_put_out ["kept"] (spF K 1 (f_p_put_out)) :=
  fn_okF h.F_p_put_out sc_p_put_out fun cdv A outer s H E hr => by
  have nd := nd_p_put_out
  have hu := hr.units
  have tk := tk_cx (P := P) (w := w) (K := K) (mg := mg) (base := base) (N := N_p_put_out) (qual := "_put_out") (scope := defScope s_p_put_out) (f := h.f_p_put_out) (cd := cdv) (A := A) (outer := outer) (s := s) (H := H) (E := E)
  have own := own_cx (P := P) (w := w) (K := K) (mg := mg) (base := base) (N := N_p_put_out) (qual := "_put_out") (scope := defScope s_p_put_out) (f := h.f_p_put_out) (cd := cdv) (A := A) (outer := outer) (s := s) (H := H) (E := E)
  exact (fs_cons (fs_asg (fe_ix (fe_var (pv 0)) fe_int) (fg_tup rfl (fgs_cons (fg_name (i := 1) nd rfl (Or.inl rfl)) (fgs_cons (fg_name (i := 2) nd rfl (Or.inl rfl)) fgs_nil))))
      (fs_cons (fs_for own rfl (fi_seq (fe_var (pv 0))) (fg_tup rfl (fgs_cons (fg_name (i := 3) nd rfl (Or.inl rfl)) (fgs_cons (fg_name (i := 4) nd rfl (Or.inl rfl)) fgs_nil))) (fs_one (fs_if (ft_cmp op_le (nomark _) sim_le (fe_var (pv 4)) (fe_var (pv 2))) (fs_one (fs_par rfl nd (i := 1) (j := 2) rfl rfl (by decide) rfl rfl (fa_cons (fe_var (pv 3)) (fa_cons (fe_var (pv 4)) fa_nil)) (by rfl))) fs_nil)))
      (fs_one (fs_ret (fe_var (pv 1))))))
theorem nd_p_amount_in : N_p_amount_in.Nodup := by decide +kernel
theorem sc_p_amount_in : FnScope N_p_amount_in ["kept", "seeker"] (defScope s_p_amount_in) := ⟨rfl, rfl, rfl, by decide +kernel, rfl, by decide +kernel, by decide +kernel⟩
theorem b_p_amount_in (h : Hs P w K mg) : Binds K h.fd_p_amount_in ["kept", "seeker"] [] := h.F_p_amount_in.bindsN fun _ _ _ _ _ _ us hl => match us, hl with | [_, _], _ => rfl
theorem ok_p_amount_in (h : Hs P w K mg) : FnOk P w K mg base (L2.CX P w) 1 h.f_p_amount_in h.fd_p_amount_in ["kept", "seeker"] (spF K 2 (f_p_amount_in)) :=
  fn_okF h.F_p_amount_in sc_p_amount_in fun cdv A outer s H E hr => by
  have nd := nd_p_amount_in
  have hu := hr.units
  have tk := tk_cx (P := P) (w := w) (K := K) (mg := mg) (base := base) (N := N_p_amount_in) (qual := "_amount_in") (scope := defScope s_p_amount_in) (f := h.f_p_amount_in) (cd := cdv) (A := A) (outer := outer) (s := s) (H := H) (E := E)
  have own := own_cx (P := P) (w := w) (K := K) (mg := mg) (base := base) (N := N_p_amount_in) (qual := "_amount_in") (scope := defScope s_p_amount_in) (f := h.f_p_amount_in) (cd := cdv) (A := A) (outer := outer) (s := s) (H := H) (E := E)
  exact (fs_cons (fs_for own rfl (fi_seq (fe_var (pv 0))) (fg_tup rfl (fgs_cons (fg_name (i := 2) nd rfl (Or.inl rfl)) (fgs_cons (fg_name (i := 3) nd rfl (Or.inl rfl)) fgs_nil))) (fs_one (fs_if (ft_cmp (op_eqD hu) (nomark _) sim_eq (fe_var (pv 2)) (fe_var (pv 1))) (fs_one (fs_ret (fe_var (pv 3)))) fs_nil)))
      (fs_one (fs_ret (fe_un un_neg sim_neg fe_int))))
theorem nd_p_least_amount : N_p_least_amount.Nodup := by decide +kernel
theorem sc_p_least_amount : FnScope N_p_least_amount ["kept", "places"] (defScope s_p_least_amount) := ⟨rfl, rfl, rfl, by decide +kernel, rfl, by decide +kernel, by decide +kernel⟩
theorem b_p_least_amount (h : Hs P w K mg) : Binds K h.fd_p_least_amount ["kept", "places"] [] := h.F_p_least_amount.bindsN fun _ _ _ _ _ _ us hl => match us, hl with | [_, _], _ => rfl
theorem ok_p_least_amount (h : Hs P w K mg) : FnOk P w K mg base (L2.CX P w) 1 h.f_p_least_amount h.fd_p_least_amount ["kept", "places"] (spF K 2 (f_p_least_amount)) :=
  fn_okF h.F_p_least_amount sc_p_least_amount fun cdv A outer s H E hr => by
  have nd := nd_p_least_amount
  have hu := hr.units
  have tk := tk_cx (P := P) (w := w) (K := K) (mg := mg) (base := base) (N := N_p_least_amount) (qual := "_least_amount") (scope := defScope s_p_least_amount) (f := h.f_p_least_amount) (cd := cdv) (A := A) (outer := outer) (s := s) (H := H) (E := E)
  have own := own_cx (P := P) (w := w) (K := K) (mg := mg) (base := base) (N := N_p_least_amount) (qual := "_least_amount") (scope := defScope s_p_least_amount) (f := h.f_p_least_amount) (cd := cdv) (A := A) (outer := outer) (s := s) (H := H) (E := E)
  exact (fs_cons (fs_if (ft_cmp op_lt (nomark _) sim_lt (fe_bu call_len sim_len (by rfl) h.n_len PyProof.Rows.Boot.«len» (fa_cons (fe_var (pv 0)) fa_nil)) (fe_var (pv 1))) (fs_one (fs_ret fe_int)) fs_nil)
      (fs_one (fs_ret (fe_bu (cr_min rfl) sim_min1 (by rfl) h.n_min PyProof.Rows.Boot.«min» (fa_cons (fe_lc (own := [("_", 2), ("amount", 3)]) rfl nd (fi_seq (fe_var (pv 0))) (blkOk_by (N := N_p_least_amount) (sc := defScope s_p_least_amount) (by decide +kernel)) (fun _ _ _ _ _ => (fgv_tup rfl (fgsv_cons (fgv_name (i := 2) (by decide) nd rfl (Or.inl rfl)) (fgsv_cons (fgv_name (i := 3) (by decide) nd rfl (Or.inl rfl)) fgsv_nil)))) (fun _ _ _ _ _ => fts_nil) (fun _ _ _ _ _ => (fe_var (pv 3)))) fa_nil)))))
theorem nd_p_with_entry : N_p_with_entry.Nodup := by decide +kernel
theorem sc_p_with_entry : FnScope N_p_with_entry ["kept", "seeker", "amount"] (defScope s_p_with_entry) := ⟨rfl, rfl, rfl, by decide +kernel, rfl, by decide +kernel, by decide +kernel⟩
theorem b_p_with_entry (h : Hs P w K mg) : Binds K h.fd_p_with_entry ["kept", "seeker", "amount"] [] := h.F_p_with_entry.bindsN fun _ _ _ _ _ _ us hl => match us, hl with | [_, _, _], _ => rfl
theorem ok_p_with_entry (h : Hs P w K mg) : FnOk P w K mg base (L2.CX P w) 1 h.f_p_with_entry h.fd_p_with_entry ["kept", "seeker", "amount"] (spF K 3 (f_p_with_entry)) :=
  fn_okF h.F_p_with_entry sc_p_with_entry fun cdv A outer s H E hr => by
  have nd := nd_p_with_entry
  have hu := hr.units
  have tk := tk_cx (P := P) (w := w) (K := K) (mg := mg) (base := base) (N := N_p_with_entry) (qual := "_with_entry") (scope := defScope s_p_with_entry) (f := h.f_p_with_entry) (cd := cdv) (A := A) (outer := outer) (s := s) (H := H) (E := E)
  have own := own_cx (P := P) (w := w) (K := K) (mg := mg) (base := base) (N := N_p_with_entry) (qual := "_with_entry") (scope := defScope s_p_with_entry) (f := h.f_p_with_entry) (cd := cdv) (A := A) (outer := outer) (s := s) (H := H) (E := E)
  exact (fs_cons (fs_setLc (i := 3) (own := [("entry", 5)]) rfl nd rfl rfl (sw_true rfl rfl rfl (by decide +kernel)) (fi_seq (fe_var (pv 0))) (blkOk_by (N := N_p_with_entry) (sc := defScope s_p_with_entry) (by decide +kernel)) (fun _ _ _ _ _ => (fgv_name (i := 5) (by decide) nd rfl (Or.inl rfl))) (fun _ _ _ _ _ => (fts_one (ft_cmp op_lt (nomark _) sim_lt (fe_ix (fe_var (pv 5)) fe_int) (fe_var (pv 1))))) (fun _ _ _ _ _ => (fe_var (pv 5))))
      (fs_cons (fs_setLc (i := 4) (own := [("entry", 5)]) rfl nd rfl rfl (sw_true rfl rfl rfl (by decide +kernel)) (fi_seq (fe_var (pv 0))) (blkOk_by (N := N_p_with_entry) (sc := defScope s_p_with_entry) (by decide +kernel)) (fun _ _ _ _ _ => (fgv_name (i := 5) (by decide) nd rfl (Or.inl rfl))) (fun _ _ _ _ _ => (fts_one (ft_cmp op_gt (nomark _) sim_gt (fe_ix (fe_var (pv 5)) fe_int) (fe_var (pv 1))))) (fun _ _ _ _ _ => (fe_var (pv 5))))
      (fs_one (fs_ret (fe_ty call_tuple_of sim_tuple (by rfl) h.n_tuple PyProof.Rows.Boot.«tuple» (fa_cons (fe_op op_addA sim_add (fe_op op_addA sim_add (fe_var (pv 3)) (fe_lst (fa_cons (fe_tup (fa_cons (fe_var (pv 1)) (fa_cons (fe_var (pv 2)) fa_nil))) fa_nil))) (fe_var (pv 4))) fa_nil))))))
theorem nd_take : N_take.Nodup := by decide +kernel
theorem sc_take : FnScope N_take ["entries", "places", "seeker", "amount"] (defScope s_take) := ⟨rfl, rfl, rfl, by decide +kernel, rfl, by decide +kernel, by decide +kernel⟩
theorem b_take (h : Hs P w K mg) : Binds K h.fd_take ["entries", "places", "seeker", "amount"] [] := h.F_take.bindsN fun _ _ _ _ _ _ us hl => match us, hl with | [_, _, _, _], _ => rfl
theorem ok_take (h : Hs P w K mg) : FnOk P w K mg base (L2.CX P w) 5 h.f_take h.fd_take ["entries", "places", "seeker", "amount"] (spF K 4 (f_take h.c)) :=
  fn_okF h.F_take sc_take fun cdv A outer s H E hr => by
  have nd := nd_take
  have hu := hr.units
  have tk := tk_cx (P := P) (w := w) (K := K) (mg := mg) (base := base) (N := N_take) (qual := "take") (scope := defScope s_take) (f := h.f_take) (cd := cdv) (A := A) (outer := outer) (s := s) (H := H) (E := E)
  have own := own_cx (P := P) (w := w) (K := K) (mg := mg) (base := base) (N := N_take) (qual := "take") (scope := defScope s_take) (f := h.f_take) (cd := cdv) (A := A) (outer := outer) (s := s) (H := H) (E := E)
  exact (fs_cons (fs_set (i := 4) nd rfl (Or.inl rfl) (fe_call rfl ((ok_entries_look h).mono (by decide)) hr (by rfl) h.g_entries_look h.F_entries_look.kp (b_entries_look h) .nil Dfl.nil tk (fa_cons (fe_var (pv 0)) fa_nil)))
      (fs_cons (fs_expr (fe_call rfl ((ok_within h).mono (by decide)) hr (by rfl) h.g_within h.F_within.kp (b_within h) .nil Dfl.nil tk (fa_cons fe_str (fa_cons (fe_var (pv 1)) (fa_cons fe_int (fa_cons (fe_c (v := .int 9) (pe_glob (by rfl) h.i_MOST_PLACES.choose_spec ⟨_, rfl⟩) fun _ => .int _) fa_nil))))))
      (fs_cons (fs_expr (fe_call rfl ((ok_within h).mono (by decide)) hr (by rfl) h.g_within h.F_within.kp (b_within h) .nil Dfl.nil tk (fa_cons fe_str (fa_cons (fe_var (pv 2)) (fa_cons fe_int (fa_cons (fe_op op_sub sim_sub (fe_c (v := .int 30) (pe_glob (by rfl) h.i_MOST_SEEKERS.choose_spec ⟨_, rfl⟩) fun _ => .int _) fe_int) fa_nil))))))
      (fs_cons (fs_expr (fe_call rfl ((ok_within h).mono (by decide)) hr (by rfl) h.g_within h.F_within.kp (b_within h) .nil Dfl.nil tk (fa_cons fe_str (fa_cons (fe_var (pv 3)) (fa_cons fe_int (fa_cons (fe_c (v := .int 9999) (pe_glob (by rfl) h.i_MOST_PRICE.choose_spec ⟨_, rfl⟩) fun _ => .int _) fa_nil))))))
      (fs_cons (fs_expr (fe_call rfl ((ok_within h).mono (by decide)) hr (by rfl) h.g_within h.F_within.kp (b_within h) .nil Dfl.nil tk (fa_cons fe_str (fa_cons (fe_bu call_len sim_len (by rfl) h.n_len PyProof.Rows.Boot.«len» (fa_cons (fe_var (pv 4)) fa_nil)) (fa_cons fe_int (fa_cons (fe_var (pv 1)) fa_nil))))))
      (fs_cons (fs_if (ft_cmp (op_neD hu) (nomark _) sim_ne (fe_call rfl ((ok_p_amount_in h).mono (by decide)) hr (by rfl) h.g_p_amount_in h.F_p_amount_in.kp (b_p_amount_in h) .nil Dfl.nil tk (fa_cons (fe_var (pv 4)) (fa_cons (fe_var (pv 2)) fa_nil))) (fe_un un_neg sim_neg fe_int)) (fs_one (fs_ret (fe_tup (fa_cons fe_str (fa_cons (fe_var (pv 4)) (fa_cons (fe_un un_neg sim_neg fe_int) fa_nil)))))) fs_nil)
      (fs_cons (fs_if (ft_cmp op_le (nomark _) sim_le (fe_var (pv 3)) (fe_call rfl ((ok_p_least_amount h).mono (by decide)) hr (by rfl) h.g_p_least_amount h.F_p_least_amount.kp (b_p_least_amount h) .nil Dfl.nil tk (fa_cons (fe_var (pv 4)) (fa_cons (fe_var (pv 1)) fa_nil)))) (fs_one (fs_ret (fe_tup (fa_cons fe_str (fa_cons (fe_var (pv 4)) (fa_cons (fe_un un_neg sim_neg fe_int) fa_nil)))))) fs_nil)
      (fs_cons (fs_if (ft_cmp op_lt (nomark _) sim_lt (fe_bu call_len sim_len (by rfl) h.n_len PyProof.Rows.Boot.«len» (fa_cons (fe_var (pv 4)) fa_nil)) (fe_var (pv 1))) (fs_one (fs_ret (fe_tup (fa_cons fe_str (fa_cons (fe_call rfl ((ok_p_with_entry h).mono (by decide)) hr (by rfl) h.g_p_with_entry h.F_p_with_entry.kp (b_p_with_entry h) .nil Dfl.nil tk (fa_cons (fe_var (pv 4)) (fa_cons (fe_var (pv 2)) (fa_cons (fe_var (pv 3)) fa_nil)))) (fa_cons (fe_un un_neg sim_neg fe_int) fa_nil)))))) fs_nil)
      (fs_cons (fs_set (i := 5) nd rfl (Or.inr rfl) (fe_call rfl ((ok_p_put_out h).mono (by decide)) hr (by rfl) h.g_p_put_out h.F_p_put_out.kp (b_p_put_out h) .nil Dfl.nil tk (fa_cons (fe_var (pv 4)) fa_nil)))
      (fs_cons (fs_setLc (i := 6) (own := [("entry", 7)]) rfl nd rfl rfl (sw_true rfl rfl rfl (by decide +kernel)) (fi_seq (fe_var (pv 4))) (blkOk_by (N := N_take) (sc := defScope s_take) (by decide +kernel)) (fun _ _ _ _ _ => (fgv_name (i := 7) (by decide) nd rfl (Or.inl rfl))) (fun _ _ _ _ _ => (fts_one (ft_cmp (op_neD hu) (nomark _) sim_ne (fe_ix (fe_var (pv 7)) fe_int) (fe_var (pv 5))))) (fun _ _ _ _ _ => (fe_var (pv 7))))
      (fs_one (fs_ret (fe_tup (fa_cons fe_str (fa_cons (fe_call rfl ((ok_p_with_entry h).mono (by decide)) hr (by rfl) h.g_p_with_entry h.F_p_with_entry.kp (b_p_with_entry h) .nil Dfl.nil tk (fa_cons (fe_var (pv 6)) (fa_cons (fe_var (pv 2)) (fa_cons (fe_var (pv 3)) fa_nil)))) (fa_cons (fe_var (pv 5)) fa_nil))))))))))))))))
theorem nd_l_refused : N_l_refused.Nodup := by decide +kernel
theorem sc_l_refused : FnScope N_l_refused ["_law_e"] (defScope s_l_refused) := ⟨rfl, rfl, rfl, by decide +kernel, rfl, by decide +kernel, by decide +kernel⟩
theorem b_l_refused (h : Hs P w K mg) : Binds K h.fd_l_refused ["_law_e"] [] := h.F_l_refused.bindsN fun _ _ _ _ _ _ us hl => match us, hl with | [_], _ => rfl
theorem ok_l_refused (h : Hs P w K mg) : FnHp P w K mg base 1 h.f_l_refused h.fd_l_refused ["_law_e"] (spH K 1 (f_l_refused h.c)) :=
  fn_okH h.F_l_refused sc_l_refused fun cdv A outer s H pn hr => by
  have nd := nd_l_refused
  have hu : (A.deeper (envOfC "_law_refused" (defScope s_l_refused) s.heap.objs.size h.f_l_refused cdv)).units + 64 < cLine := huH hr
  exact (fs_cons (fs_set (i := 1) nd rfl (Or.inl rfl) (fe_lst (fa_cons (fe_bu call_isA (sim_isi (tab := [(h.c "OutOfRange", .inr (h.c "OutOfRange"), true)]) (fun q hq => hq) (fun q hq => by rw [List.mem_singleton.mp hq]; exact ⟨h.ex_OutOfRange, h.cl_OutOfRange, h.k_OutOfRange_OutOfRange⟩)) (by rfl) h.n_isinstance PyProof.Rows.Boot.«isinstance» (fa_cons (fe_var (pv 0)) (fa_cons (fe_c (v := .ref (h.c "OutOfRange")) (pe_glob (by rfl) h.gc_OutOfRange rfl) fun _ => .ref _) fa_nil))) (fa_cons (fe_bu call_isA (sim_isi (tab := [(h.c "OutOfRange", .inr (h.c "Unread"), false)]) (fun q hq => hq) (fun q hq => by rw [List.mem_singleton.mp hq]; exact ⟨h.ex_OutOfRange, h.cl_OutOfRange, h.k_OutOfRange_Unread⟩)) (by rfl) h.n_isinstance PyProof.Rows.Boot.«isinstance» (fa_cons (fe_var (pv 0)) (fa_cons (fe_c (v := .ref (h.c "Unread")) (pe_glob (by rfl) h.gc_Unread rfl) fun _ => .ref _) fa_nil))) (fa_cons (fe_bu call_isA (sim_isi (tab := [(h.c "OutOfRange", .inr (h.c "Unfit"), false)]) (fun q hq => hq) (fun q hq => by rw [List.mem_singleton.mp hq]; exact ⟨h.ex_OutOfRange, h.cl_OutOfRange, h.k_OutOfRange_Unfit⟩)) (by rfl) h.n_isinstance PyProof.Rows.Boot.«isinstance» (fa_cons (fe_var (pv 0)) (fa_cons (fe_c (v := .ref (h.c "Unfit")) (pe_glob (by rfl) h.gc_Unfit rfl) fun _ => .ref _) fa_nil))) fa_nil)))))
      (fs_cons (fs_set (i := 1) nd rfl (Or.inl rfl) (fe_op op_addA sim_add (fe_var (pv 1)) (fe_lst (fa_cons (fe_bu call_isA (sim_isi (tab := [(h.c "OutOfRange", .inr (h.c "NotAccepted"), false)]) (fun q hq => hq) (fun q hq => by rw [List.mem_singleton.mp hq]; exact ⟨h.ex_OutOfRange, h.cl_OutOfRange, h.k_OutOfRange_NotAccepted⟩)) (by rfl) h.n_isinstance PyProof.Rows.Boot.«isinstance» (fa_cons (fe_var (pv 0)) (fa_cons (fe_c (v := .ref (h.c "NotAccepted")) (pe_glob (by rfl) h.gc_NotAccepted rfl) fun _ => .ref _) fa_nil))) (fa_cons (fe_bu call_isA (sim_isi (tab := [(h.c "OutOfRange", .inr (h.c "BadStart"), false)]) (fun q hq => hq) (fun q hq => by rw [List.mem_singleton.mp hq]; exact ⟨h.ex_OutOfRange, h.cl_OutOfRange, h.k_OutOfRange_BadStart⟩)) (by rfl) h.n_isinstance PyProof.Rows.Boot.«isinstance» (fa_cons (fe_var (pv 0)) (fa_cons (fe_c (v := .ref (h.c "BadStart")) (pe_glob (by rfl) h.gc_BadStart rfl) fun _ => .ref _) fa_nil))) (fa_cons (fe_bu call_isA (sim_isi (tab := [(h.c "OutOfRange", .inr (h.c "Up"), false)]) (fun q hq => hq) (fun q hq => by rw [List.mem_singleton.mp hq]; exact ⟨h.ex_OutOfRange, h.cl_OutOfRange, h.k_OutOfRange_Up⟩)) (by rfl) h.n_isinstance PyProof.Rows.Boot.«isinstance» (fa_cons (fe_var (pv 0)) (fa_cons (fe_c (v := .ref (h.c "Up")) (pe_glob (by rfl) h.gc_Up rfl) fun _ => .ref _) fa_nil))) fa_nil))))))
      (fs_cons (fs_set (i := 1) nd rfl (Or.inl rfl) (fe_op op_addA sim_add (fe_var (pv 1)) (fe_lst (fa_cons (fe_bu call_isA (sim_isi (tab := [(h.c "OutOfRange", .inr (h.c "NotOneChange"), false)]) (fun q hq => hq) (fun q hq => by rw [List.mem_singleton.mp hq]; exact ⟨h.ex_OutOfRange, h.cl_OutOfRange, h.k_OutOfRange_NotOneChange⟩)) (by rfl) h.n_isinstance PyProof.Rows.Boot.«isinstance» (fa_cons (fe_var (pv 0)) (fa_cons (fe_c (v := .ref (h.c "NotOneChange")) (pe_glob (by rfl) h.gc_NotOneChange rfl) fun _ => .ref _) fa_nil))) (fa_cons (fe_bu call_isA (sim_isi (tab := [(h.c "OutOfRange", .inr (h.c "NotBest"), false)]) (fun q hq => hq) (fun q hq => by rw [List.mem_singleton.mp hq]; exact ⟨h.ex_OutOfRange, h.cl_OutOfRange, h.k_OutOfRange_NotBest⟩)) (by rfl) h.n_isinstance PyProof.Rows.Boot.«isinstance» (fa_cons (fe_var (pv 0)) (fa_cons (fe_c (v := .ref (h.c "NotBest")) (pe_glob (by rfl) h.gc_NotBest rfl) fun _ => .ref _) fa_nil))) (fa_cons (fe_bu call_isA (sim_isi (tab := [(h.c "OutOfRange", .inr (h.c "Down"), false)]) (fun q hq => hq) (fun q hq => by rw [List.mem_singleton.mp hq]; exact ⟨h.ex_OutOfRange, h.cl_OutOfRange, h.k_OutOfRange_Down⟩)) (by rfl) h.n_isinstance PyProof.Rows.Boot.«isinstance» (fa_cons (fe_var (pv 0)) (fa_cons (fe_c (v := .ref (h.c "Down")) (pe_glob (by rfl) h.gc_Down rfl) fun _ => .ref _) fa_nil))) fa_nil))))))
      (fs_cons (fs_set (i := 1) nd rfl (Or.inl rfl) (fe_op op_addA sim_add (fe_var (pv 1)) (fe_lst (fa_cons (fe_bu call_isA (sim_isi (tab := [(h.c "OutOfRange", .inr (h.c "NothingToUndo"), false)]) (fun q hq => hq) (fun q hq => by rw [List.mem_singleton.mp hq]; exact ⟨h.ex_OutOfRange, h.cl_OutOfRange, h.k_OutOfRange_NothingToUndo⟩)) (by rfl) h.n_isinstance PyProof.Rows.Boot.«isinstance» (fa_cons (fe_var (pv 0)) (fa_cons (fe_c (v := .ref (h.c "NothingToUndo")) (pe_glob (by rfl) h.gc_NothingToUndo rfl) fun _ => .ref _) fa_nil))) (fa_cons (fe_bu call_isA (sim_isi (tab := [(h.c "OutOfRange", .inr (h.c "Busy"), false)]) (fun q hq => hq) (fun q hq => by rw [List.mem_singleton.mp hq]; exact ⟨h.ex_OutOfRange, h.cl_OutOfRange, h.k_OutOfRange_Busy⟩)) (by rfl) h.n_isinstance PyProof.Rows.Boot.«isinstance» (fa_cons (fe_var (pv 0)) (fa_cons (fe_c (v := .ref (h.c "Busy")) (pe_glob (by rfl) h.gc_Busy rfl) fun _ => .ref _) fa_nil))) (fa_cons (fe_bu call_isA (sim_isi (tab := [(h.c "OutOfRange", .inr (h.c "Warm"), false)]) (fun q hq => hq) (fun q hq => by rw [List.mem_singleton.mp hq]; exact ⟨h.ex_OutOfRange, h.cl_OutOfRange, h.k_OutOfRange_Warm⟩)) (by rfl) h.n_isinstance PyProof.Rows.Boot.«isinstance» (fa_cons (fe_var (pv 0)) (fa_cons (fe_c (v := .ref (h.c "Warm")) (pe_glob (by rfl) h.gc_Warm rfl) fun _ => .ref _) fa_nil))) fa_nil))))))
      (fs_cons (fs_set (i := 1) nd rfl (Or.inl rfl) (fe_op op_addA sim_add (fe_var (pv 1)) (fe_lst (fa_cons (fe_bu call_isA (sim_isi (tab := [(h.c "OutOfRange", .inr (h.c "NothingToRedo"), false)]) (fun q hq => hq) (fun q hq => by rw [List.mem_singleton.mp hq]; exact ⟨h.ex_OutOfRange, h.cl_OutOfRange, h.k_OutOfRange_NothingToRedo⟩)) (by rfl) h.n_isinstance PyProof.Rows.Boot.«isinstance» (fa_cons (fe_var (pv 0)) (fa_cons (fe_c (v := .ref (h.c "NothingToRedo")) (pe_glob (by rfl) h.gc_NothingToRedo rfl) fun _ => .ref _) fa_nil))) (fa_cons (fe_bu call_isA (sim_isi (tab := [(h.c "OutOfRange", .inr (h.c "BadSlips"), false)]) (fun q hq => hq) (fun q hq => by rw [List.mem_singleton.mp hq]; exact ⟨h.ex_OutOfRange, h.cl_OutOfRange, h.k_OutOfRange_BadSlips⟩)) (by rfl) h.n_isinstance PyProof.Rows.Boot.«isinstance» (fa_cons (fe_var (pv 0)) (fa_cons (fe_c (v := .ref (h.c "BadSlips")) (pe_glob (by rfl) h.gc_BadSlips rfl) fun _ => .ref _) fa_nil))) fa_nil)))))
      (fs_cons (fs_set (i := 1) nd rfl (Or.inl rfl) (fe_op op_addA sim_add (fe_var (pv 1)) (fe_lst (fa_cons (fe_bu call_isA (sim_isi (tab := [(h.c "OutOfRange", .inr (h.c "TooHeavy"), false)]) (fun q hq => hq) (fun q hq => by rw [List.mem_singleton.mp hq]; exact ⟨h.ex_OutOfRange, h.cl_OutOfRange, h.k_OutOfRange_TooHeavy⟩)) (by rfl) h.n_isinstance PyProof.Rows.Boot.«isinstance» (fa_cons (fe_var (pv 0)) (fa_cons (fe_c (v := .ref (h.c "TooHeavy")) (pe_glob (by rfl) h.gc_TooHeavy rfl) fun _ => .ref _) fa_nil))) (fa_cons (fe_bu call_isA (sim_isi (tab := [(h.c "OutOfRange", .inr (h.c "BadWord"), false)]) (fun q hq => hq) (fun q hq => by rw [List.mem_singleton.mp hq]; exact ⟨h.ex_OutOfRange, h.cl_OutOfRange, h.k_OutOfRange_BadWord⟩)) (by rfl) h.n_isinstance PyProof.Rows.Boot.«isinstance» (fa_cons (fe_var (pv 0)) (fa_cons (fe_c (v := .ref (h.c "BadWord")) (pe_glob (by rfl) h.gc_BadWord rfl) fun _ => .ref _) fa_nil))) (fa_cons (fe_bu call_isA (sim_isi (tab := [(h.c "OutOfRange", .inr (h.c "NoLetter"), false)]) (fun q hq => hq) (fun q hq => by rw [List.mem_singleton.mp hq]; exact ⟨h.ex_OutOfRange, h.cl_OutOfRange, h.k_OutOfRange_NoLetter⟩)) (by rfl) h.n_isinstance PyProof.Rows.Boot.«isinstance» (fa_cons (fe_var (pv 0)) (fa_cons (fe_c (v := .ref (h.c "NoLetter")) (pe_glob (by rfl) h.gc_NoLetter rfl) fun _ => .ref _) fa_nil))) fa_nil))))))
      (fs_cons (fs_set (i := 1) nd rfl (Or.inl rfl) (fe_op op_addA sim_add (fe_var (pv 1)) (fe_lst (fa_cons (fe_bu call_isA (sim_isi (tab := [(h.c "OutOfRange", .inr (h.c "NotSynced"), false)]) (fun q hq => hq) (fun q hq => by rw [List.mem_singleton.mp hq]; exact ⟨h.ex_OutOfRange, h.cl_OutOfRange, h.k_OutOfRange_NotSynced⟩)) (by rfl) h.n_isinstance PyProof.Rows.Boot.«isinstance» (fa_cons (fe_var (pv 0)) (fa_cons (fe_c (v := .ref (h.c "NotSynced")) (pe_glob (by rfl) h.gc_NotSynced rfl) fun _ => .ref _) fa_nil))) (fa_cons (fe_bu call_isA (sim_isi (tab := [(h.c "OutOfRange", .inr (h.c "BadEvent"), false)]) (fun q hq => hq) (fun q hq => by rw [List.mem_singleton.mp hq]; exact ⟨h.ex_OutOfRange, h.cl_OutOfRange, h.k_OutOfRange_BadEvent⟩)) (by rfl) h.n_isinstance PyProof.Rows.Boot.«isinstance» (fa_cons (fe_var (pv 0)) (fa_cons (fe_c (v := .ref (h.c "BadEvent")) (pe_glob (by rfl) h.gc_BadEvent rfl) fun _ => .ref _) fa_nil))) (fa_cons (fe_bu call_isA (sim_isi (tab := [(h.c "OutOfRange", .inr (h.c "NotAtRest"), false)]) (fun q hq => hq) (fun q hq => by rw [List.mem_singleton.mp hq]; exact ⟨h.ex_OutOfRange, h.cl_OutOfRange, h.k_OutOfRange_NotAtRest⟩)) (by rfl) h.n_isinstance PyProof.Rows.Boot.«isinstance» (fa_cons (fe_var (pv 0)) (fa_cons (fe_c (v := .ref (h.c "NotAtRest")) (pe_glob (by rfl) h.gc_NotAtRest rfl) fun _ => .ref _) fa_nil))) fa_nil))))))
      (fs_cons (fs_if (fw_t (fw_or (ft_cmp (op_neD hu) (nomark _) sim_ne (fe_methL mt_cntF sim_count PySem.F.slot_list_count PySem.F.type_list_count (fe_var (pv 1)) (fa_cons fe_bl fa_nil)) fe_int) (fw_or1 (ft_not (ft_val (fe_bu call_isA (sim_isi (tab := [(h.c "OutOfRange", .inl "ValueError", true)]) (fun q hq => hq) (fun q hq => by rw [List.mem_singleton.mp hq]; exact ⟨h.ex_OutOfRange, h.cl_OutOfRange, h.k_OutOfRange_ValueError⟩)) (by rfl) h.n_isinstance PyProof.Rows.Boot.«isinstance» (fa_cons (fe_var (pv 0)) (fa_cons (fe_c (v := .ty "ValueError") (pe_bltn (by rfl) h.n_ValueError PyProof.Rows.Boot.«ValueError» rfl) fun _ => .ty _) fa_nil)))))))) (fs_one (fs_ret (fe_tup (fa_cons fe_str fa_nil)))) fs_nil)
      (fs_cons (fs_if (ft_val (fe_bu call_isA (sim_isi (tab := [(h.c "OutOfRange", .inr (h.c "OutOfRange"), true)]) (fun q hq => hq) (fun q hq => by rw [List.mem_singleton.mp hq]; exact ⟨h.ex_OutOfRange, h.cl_OutOfRange, h.k_OutOfRange_OutOfRange⟩)) (by rfl) h.n_isinstance PyProof.Rows.Boot.«isinstance» (fa_cons (fe_var (pv 0)) (fa_cons (fe_c (v := .ref (h.c "OutOfRange")) (pe_glob (by rfl) h.gc_OutOfRange rfl) fun _ => .ref _) fa_nil)))) (fs_one (fs_ret (fe_tup (fa_cons fe_str (fa_cons (fe_exf (cls := [h.c "OutOfRange"]) (fun q hq => hq) (fun C hC => by rw [List.mem_singleton.mp hC]; exact ⟨h.xf_OutOfRange, h.no_OutOfRange_what⟩) (fe_var (pv 0))) (fa_cons (fe_exf (cls := [h.c "OutOfRange"]) (fun q hq => hq) (fun C hC => by rw [List.mem_singleton.mp hC]; exact ⟨h.xf_OutOfRange, h.no_OutOfRange_value⟩) (fe_var (pv 0))) fa_nil)))))) fs_nil)
      (fs_one (fs_ret (fe_tup (fa_cons fe_str fa_nil)))))))))))))
theorem nd_l_take : N_l_take.Nodup := by decide +kernel
theorem sc_l_take : FnScope N_l_take ["_law_given", "_law_places", "_law_who", "_law_amount"] (defScope s_l_take) := ⟨rfl, rfl, rfl, by decide +kernel, rfl, by decide +kernel, by decide +kernel⟩
theorem b_l_take (h : Hs P w K mg) : Binds K h.fd_l_take ["_law_given", "_law_places", "_law_who", "_law_amount"] [] := h.F_l_take.bindsN fun _ _ _ _ _ _ us hl => match us, hl with | [_, _, _, _], _ => rfl
theorem ok_l_take (h : Hs P w K mg) : FnOk P w K mg base (L2.CX P w) 6 h.f_l_take h.fd_l_take ["_law_given", "_law_places", "_law_who", "_law_amount"] (spF K 4 (f_l_take h.c)) :=
  fn_okF h.F_l_take sc_l_take fun cdv A outer s H E hr => by
  have nd := nd_l_take
  have hu := hr.units
  have tk := tk_cx (P := P) (w := w) (K := K) (mg := mg) (base := base) (N := N_l_take) (qual := "_law_take") (scope := defScope s_l_take) (f := h.f_l_take) (cd := cdv) (A := A) (outer := outer) (s := s) (H := H) (E := E)
  have own := own_cx (P := P) (w := w) (K := K) (mg := mg) (base := base) (N := N_l_take) (qual := "_law_take") (scope := defScope s_l_take) (f := h.f_l_take) (cd := cdv) (A := A) (outer := outer) (s := s) (H := H) (E := E)
  exact (fs_one (fs_try (i := 4) (ex := [(h.c "OutOfRange", true)]) rfl rfl rfl nd rfl rfl ⟨rfl, by decide, .inl h.gc_HeldError⟩ tk (fun q hq => by rw [List.mem_singleton.mp hq]; exact h.x_OutOfRange_HeldError) (fun W1 pn1 xe1 tk1 own1 => (fs_one (fs_ret (fe_tup (fa_cons fe_str (fa_cons (fe_call rfl ((ok_take h).mono (by decide)) hr (by rfl) h.g_take h.F_take.kp (b_take h) .nil Dfl.nil tk1 (fa_cons (fe_var (pv 0)) (fa_cons (fe_var (pv 1)) (fa_cons (fe_var (pv 2)) (fa_cons (fe_var (pv 3)) fa_nil))))) fa_nil)))))) (fun a1 oe1 pn1 hf1 => (fs_one (fs_ret (fe_callH (fun q hq => by rw [List.mem_singleton.mp hq]; exact List.mem_cons_self) (ok_l_refused h) (roomH_suite (hr.mono (by decide))) (by rfl) h.g_l_refused h.F_l_refused.kp (b_l_refused h) (fa_cons (fe_var (pv 4)) fa_nil)))))))
theorem nd_price_of : N_price_of.Nodup := by decide +kernel
theorem sc_price_of : FnScope N_price_of ["entries", "places"] (defScope s_price_of) := ⟨rfl, rfl, rfl, by decide +kernel, rfl, by decide +kernel, by decide +kernel⟩
theorem b_price_of (h : Hs P w K mg) : Binds K h.fd_price_of ["entries", "places"] [] := h.F_price_of.bindsN fun _ _ _ _ _ _ us hl => match us, hl with | [_, _], _ => rfl
theorem ok_price_of (h : Hs P w K mg) : FnOk P w K mg base (L2.CX P w) 5 h.f_price_of h.fd_price_of ["entries", "places"] (spF K 2 (f_price_of h.c)) :=
  fn_okF h.F_price_of sc_price_of fun cdv A outer s H E hr => by
  have nd := nd_price_of
  have hu := hr.units
  have tk := tk_cx (P := P) (w := w) (K := K) (mg := mg) (base := base) (N := N_price_of) (qual := "price_of") (scope := defScope s_price_of) (f := h.f_price_of) (cd := cdv) (A := A) (outer := outer) (s := s) (H := H) (E := E)
  have own := own_cx (P := P) (w := w) (K := K) (mg := mg) (base := base) (N := N_price_of) (qual := "price_of") (scope := defScope s_price_of) (f := h.f_price_of) (cd := cdv) (A := A) (outer := outer) (s := s) (H := H) (E := E)
  exact (fs_cons (fs_set (i := 2) nd rfl (Or.inl rfl) (fe_call rfl ((ok_entries_look h).mono (by decide)) hr (by rfl) h.g_entries_look h.F_entries_look.kp (b_entries_look h) .nil Dfl.nil tk (fa_cons (fe_var (pv 0)) fa_nil)))
      (fs_cons (fs_expr (fe_call rfl ((ok_within h).mono (by decide)) hr (by rfl) h.g_within h.F_within.kp (b_within h) .nil Dfl.nil tk (fa_cons fe_str (fa_cons (fe_var (pv 1)) (fa_cons fe_int (fa_cons (fe_c (v := .int 9) (pe_glob (by rfl) h.i_MOST_PLACES.choose_spec ⟨_, rfl⟩) fun _ => .int _) fa_nil))))))
      (fs_cons (fs_expr (fe_call rfl ((ok_within h).mono (by decide)) hr (by rfl) h.g_within h.F_within.kp (b_within h) .nil Dfl.nil tk (fa_cons fe_str (fa_cons (fe_bu call_len sim_len (by rfl) h.n_len PyProof.Rows.Boot.«len» (fa_cons (fe_var (pv 2)) fa_nil)) (fa_cons fe_int (fa_cons (fe_var (pv 1)) fa_nil))))))
      (fs_one (fs_ret (fe_call rfl ((ok_p_least_amount h).mono (by decide)) hr (by rfl) h.g_p_least_amount h.F_p_least_amount.kp (b_p_least_amount h) .nil Dfl.nil tk (fa_cons (fe_var (pv 2)) (fa_cons (fe_var (pv 1)) fa_nil))))))))
theorem nd_l_price_of : N_l_price_of.Nodup := by decide +kernel
theorem sc_l_price_of : FnScope N_l_price_of ["_law_given", "_law_places"] (defScope s_l_price_of) := ⟨rfl, rfl, rfl, by decide +kernel, rfl, by decide +kernel, by decide +kernel⟩
theorem b_l_price_of (h : Hs P w K mg) : Binds K h.fd_l_price_of ["_law_given", "_law_places"] [] := h.F_l_price_of.bindsN fun _ _ _ _ _ _ us hl => match us, hl with | [_, _], _ => rfl
theorem ok_l_price_of (h : Hs P w K mg) : FnOk P w K mg base (L2.CX P w) 6 h.f_l_price_of h.fd_l_price_of ["_law_given", "_law_places"] (spF K 2 (f_l_price_of h.c)) :=
  fn_okF h.F_l_price_of sc_l_price_of fun cdv A outer s H E hr => by
  have nd := nd_l_price_of
  have hu := hr.units
  have tk := tk_cx (P := P) (w := w) (K := K) (mg := mg) (base := base) (N := N_l_price_of) (qual := "_law_price_of") (scope := defScope s_l_price_of) (f := h.f_l_price_of) (cd := cdv) (A := A) (outer := outer) (s := s) (H := H) (E := E)
  have own := own_cx (P := P) (w := w) (K := K) (mg := mg) (base := base) (N := N_l_price_of) (qual := "_law_price_of") (scope := defScope s_l_price_of) (f := h.f_l_price_of) (cd := cdv) (A := A) (outer := outer) (s := s) (H := H) (E := E)
  exact (fs_one (fs_try (i := 2) (ex := [(h.c "OutOfRange", true)]) rfl rfl rfl nd rfl rfl ⟨rfl, by decide, .inl h.gc_HeldError⟩ tk (fun q hq => by rw [List.mem_singleton.mp hq]; exact h.x_OutOfRange_HeldError) (fun W1 pn1 xe1 tk1 own1 => (fs_one (fs_ret (fe_tup (fa_cons fe_str (fa_cons (fe_call rfl ((ok_price_of h).mono (by decide)) hr (by rfl) h.g_price_of h.F_price_of.kp (b_price_of h) .nil Dfl.nil tk1 (fa_cons (fe_var (pv 0)) (fa_cons (fe_var (pv 1)) fa_nil))) fa_nil)))))) (fun a1 oe1 pn1 hf1 => (fs_one (fs_ret (fe_callH (fun q hq => by rw [List.mem_singleton.mp hq]; exact List.mem_cons_self) (ok_l_refused h) (roomH_suite (hr.mono (by decide))) (by rfl) h.g_l_refused h.F_l_refused.kp (b_l_refused h) (fa_cons (fe_var (pv 2)) fa_nil)))))))
theorem nd_amount_of : N_amount_of.Nodup := by decide +kernel
theorem sc_amount_of : FnScope N_amount_of ["entries", "seeker"] (defScope s_amount_of) := ⟨rfl, rfl, rfl, by decide +kernel, rfl, by decide +kernel, by decide +kernel⟩
theorem b_amount_of (h : Hs P w K mg) : Binds K h.fd_amount_of ["entries", "seeker"] [] := h.F_amount_of.bindsN fun _ _ _ _ _ _ us hl => match us, hl with | [_, _], _ => rfl
theorem ok_amount_of (h : Hs P w K mg) : FnOk P w K mg base (L2.CX P w) 5 h.f_amount_of h.fd_amount_of ["entries", "seeker"] (spF K 2 (f_amount_of h.c)) :=
  fn_okF h.F_amount_of sc_amount_of fun cdv A outer s H E hr => by
  have nd := nd_amount_of
  have hu := hr.units
  have tk := tk_cx (P := P) (w := w) (K := K) (mg := mg) (base := base) (N := N_amount_of) (qual := "amount_of") (scope := defScope s_amount_of) (f := h.f_amount_of) (cd := cdv) (A := A) (outer := outer) (s := s) (H := H) (E := E)
  have own := own_cx (P := P) (w := w) (K := K) (mg := mg) (base := base) (N := N_amount_of) (qual := "amount_of") (scope := defScope s_amount_of) (f := h.f_amount_of) (cd := cdv) (A := A) (outer := outer) (s := s) (H := H) (E := E)
  exact (fs_cons (fs_set (i := 2) nd rfl (Or.inl rfl) (fe_call rfl ((ok_entries_look h).mono (by decide)) hr (by rfl) h.g_entries_look h.F_entries_look.kp (b_entries_look h) .nil Dfl.nil tk (fa_cons (fe_var (pv 0)) fa_nil)))
      (fs_cons (fs_expr (fe_call rfl ((ok_within h).mono (by decide)) hr (by rfl) h.g_within h.F_within.kp (b_within h) .nil Dfl.nil tk (fa_cons fe_str (fa_cons (fe_var (pv 1)) (fa_cons fe_int (fa_cons (fe_op op_sub sim_sub (fe_c (v := .int 30) (pe_glob (by rfl) h.i_MOST_SEEKERS.choose_spec ⟨_, rfl⟩) fun _ => .int _) fe_int) fa_nil))))))
      (fs_one (fs_ret (fe_call rfl ((ok_p_amount_in h).mono (by decide)) hr (by rfl) h.g_p_amount_in h.F_p_amount_in.kp (b_p_amount_in h) .nil Dfl.nil tk (fa_cons (fe_var (pv 2)) (fa_cons (fe_var (pv 1)) fa_nil)))))))
theorem nd_l_amount_of : N_l_amount_of.Nodup := by decide +kernel
theorem sc_l_amount_of : FnScope N_l_amount_of ["_law_given", "_law_who"] (defScope s_l_amount_of) := ⟨rfl, rfl, rfl, by decide +kernel, rfl, by decide +kernel, by decide +kernel⟩
theorem b_l_amount_of (h : Hs P w K mg) : Binds K h.fd_l_amount_of ["_law_given", "_law_who"] [] := h.F_l_amount_of.bindsN fun _ _ _ _ _ _ us hl => match us, hl with | [_, _], _ => rfl
theorem ok_l_amount_of (h : Hs P w K mg) : FnOk P w K mg base (L2.CX P w) 6 h.f_l_amount_of h.fd_l_amount_of ["_law_given", "_law_who"] (spF K 2 (f_l_amount_of h.c)) :=
  fn_okF h.F_l_amount_of sc_l_amount_of fun cdv A outer s H E hr => by
  have nd := nd_l_amount_of
  have hu := hr.units
  have tk := tk_cx (P := P) (w := w) (K := K) (mg := mg) (base := base) (N := N_l_amount_of) (qual := "_law_amount_of") (scope := defScope s_l_amount_of) (f := h.f_l_amount_of) (cd := cdv) (A := A) (outer := outer) (s := s) (H := H) (E := E)
  have own := own_cx (P := P) (w := w) (K := K) (mg := mg) (base := base) (N := N_l_amount_of) (qual := "_law_amount_of") (scope := defScope s_l_amount_of) (f := h.f_l_amount_of) (cd := cdv) (A := A) (outer := outer) (s := s) (H := H) (E := E)
  exact (fs_one (fs_try (i := 2) (ex := [(h.c "OutOfRange", true)]) rfl rfl rfl nd rfl rfl ⟨rfl, by decide, .inl h.gc_HeldError⟩ tk (fun q hq => by rw [List.mem_singleton.mp hq]; exact h.x_OutOfRange_HeldError) (fun W1 pn1 xe1 tk1 own1 => (fs_one (fs_ret (fe_tup (fa_cons fe_str (fa_cons (fe_call rfl ((ok_amount_of h).mono (by decide)) hr (by rfl) h.g_amount_of h.F_amount_of.kp (b_amount_of h) .nil Dfl.nil tk1 (fa_cons (fe_var (pv 0)) (fa_cons (fe_var (pv 1)) fa_nil))) fa_nil)))))) (fun a1 oe1 pn1 hf1 => (fs_one (fs_ret (fe_callH (fun q hq => by rw [List.mem_singleton.mp hq]; exact List.mem_cons_self) (ok_l_refused h) (roomH_suite (hr.mono (by decide))) (by rfl) h.g_l_refused h.F_l_refused.kp (b_l_refused h) (fa_cons (fe_var (pv 2)) fa_nil)))))))
theorem nd_l_right : N_l_right.Nodup := by decide +kernel
theorem sc_l_right : FnScope N_l_right ["_law_asked", "_law_form"] (defScope s_l_right) := ⟨rfl, rfl, rfl, by decide +kernel, rfl, by decide +kernel, by decide +kernel⟩
theorem b_l_right (h : Hs P w K mg) : Binds K h.fd_l_right ["_law_asked", "_law_form"] [] := h.F_l_right.bindsN fun _ _ _ _ _ _ us hl => match us, hl with | [_, _], _ => rfl
theorem ok_l_right (h : Hs P w K mg) : FnOk P w K mg base (L2.CX P w) 8 h.f_l_right h.fd_l_right ["_law_asked", "_law_form"] (spF K 2 (f_l_right h.c)) :=
  fn_okF h.F_l_right sc_l_right fun cdv A outer s H E hr => by
  have nd := nd_l_right
  have hu := hr.units
  have tk := tk_cx (P := P) (w := w) (K := K) (mg := mg) (base := base) (N := N_l_right) (qual := "_law_right") (scope := defScope s_l_right) (f := h.f_l_right) (cd := cdv) (A := A) (outer := outer) (s := s) (H := H) (E := E)
  have own := own_cx (P := P) (w := w) (K := K) (mg := mg) (base := base) (N := N_l_right) (qual := "_law_right") (scope := defScope s_l_right) (f := h.f_l_right) (cd := cdv) (A := A) (outer := outer) (s := s) (H := H) (E := E)
  exact (fs_cons (fs_asg (fe_var (pv 0)) (fg_tup rfl (fgs_cons (fg_name (i := 2) nd rfl (Or.inl rfl)) (fgs_cons (fg_name (i := 3) nd rfl (Or.inl rfl)) (fgs_cons (fg_name (i := 4) nd rfl (Or.inl rfl)) (fgs_cons (fg_name (i := 5) nd rfl (Or.inl rfl)) fgs_nil))))))
      (fs_cons (fs_setLc (i := 6) (own := [("_law_entry", 8)]) rfl nd rfl rfl (sw_true rfl rfl rfl (by decide +kernel)) (fi_seq (fe_var (pv 2))) (blkOk_by (N := N_l_right) (sc := defScope s_l_right) (by decide +kernel)) (fun _ _ _ _ _ => (fgv_name (i := 8) (by decide) nd rfl (Or.inl rfl))) (fun _ _ _ _ _ => fts_nil) (fun _ _ _ _ _ => (fe_ty call_list_of (SimL.val sim_list) (by rfl) h.n_list PyProof.Rows.Boot.«list» (fa_cons (fe_var (pv 8)) fa_nil))))
      (fs_cons (fs_if (ft_cmp (op_eqD hu) (nomark _) sim_eq (fe_var (pv 1)) fe_int) (fs_one (fs_set (i := 6) nd rfl (Or.inl rfl) (fe_ty call_tuple_of sim_tuple (by rfl) h.n_tuple PyProof.Rows.Boot.«tuple» (fa_cons (fe_var (pv 2)) fa_nil)))) fs_nil)
      (fs_cons (fs_if (ft_cmp (op_eqD hu) (nomark _) sim_eq (fe_var (pv 1)) fe_int) (fs_one (fs_set (i := 6) nd rfl (Or.inl rfl) (fe_ty call_tuple_of sim_tuple (by rfl) h.n_tuple PyProof.Rows.Boot.«tuple» (fa_cons (fe_var (pv 6)) fa_nil)))) fs_nil)
      (fs_cons (fs_set (i := 7) nd rfl (Or.inl rfl) (fe_call rfl ((ok_l_dues h).mono (by decide)) hr (by rfl) h.g_l_dues h.F_l_dues.kp (b_l_dues h) .nil Dfl.nil tk (fa_cons (fe_var (pv 0)) fa_nil)))
      (fs_cons (fs_if (ft_not (ft_val (fe_call rfl ((ok_l_same h).mono (by decide)) hr (by rfl) h.g_l_same h.F_l_same.kp (b_l_same h) .nil Dfl.nil tk (fa_cons (fe_call rfl ((ok_l_take h).mono (by decide)) hr (by rfl) h.g_l_take h.F_l_take.kp (b_l_take h) .nil Dfl.nil tk (fa_cons (fe_var (pv 6)) (fa_cons (fe_var (pv 3)) (fa_cons (fe_var (pv 4)) (fa_cons (fe_var (pv 5)) fa_nil))))) (fa_cons (fe_ix (fe_var (pv 7)) fe_int) fa_nil))))) (fs_one (fs_ret fe_bl)) fs_nil)
      (fs_cons (fs_if (ft_not (ft_val (fe_call rfl ((ok_l_same h).mono (by decide)) hr (by rfl) h.g_l_same h.F_l_same.kp (b_l_same h) .nil Dfl.nil tk (fa_cons (fe_call rfl ((ok_l_price_of h).mono (by decide)) hr (by rfl) h.g_l_price_of h.F_l_price_of.kp (b_l_price_of h) .nil Dfl.nil tk (fa_cons (fe_var (pv 6)) (fa_cons (fe_var (pv 3)) fa_nil))) (fa_cons (fe_ix (fe_var (pv 7)) fe_int) fa_nil))))) (fs_one (fs_ret fe_bl)) fs_nil)
      (fs_cons (fs_if (ft_not (ft_val (fe_call rfl ((ok_l_same h).mono (by decide)) hr (by rfl) h.g_l_same h.F_l_same.kp (b_l_same h) .nil Dfl.nil tk (fa_cons (fe_call rfl ((ok_l_amount_of h).mono (by decide)) hr (by rfl) h.g_l_amount_of h.F_l_amount_of.kp (b_l_amount_of h) .nil Dfl.nil tk (fa_cons (fe_var (pv 6)) (fa_cons (fe_var (pv 4)) fa_nil))) (fa_cons (fe_ix (fe_var (pv 7)) fe_int) fa_nil))))) (fs_one (fs_ret fe_bl)) fs_nil)
      (fs_one (fs_ret (fe_cmp (op_eqD hu) (nomark _) sim_eq (fe_lc (own := [("_law_entry", 8)]) rfl nd (fi_seq (fe_var (pv 6))) (blkOk_by (N := N_l_right) (sc := defScope s_l_right) (by decide +kernel)) (fun _ _ _ _ _ => (fgv_name (i := 8) (by decide) nd rfl (Or.inl rfl))) (fun _ _ _ _ _ => fts_nil) (fun _ _ _ _ _ => (fe_ty call_tuple_of sim_tuple (by rfl) h.n_tuple PyProof.Rows.Boot.«tuple» (fa_cons (fe_var (pv 8)) fa_nil)))) (fe_var (pv 2)))))))))))))
theorem nd_law : N_law.Nodup := by decide +kernel
theorem sc_law : FnScope N_law ["_law_script"] (defScope s_law) := ⟨rfl, rfl, rfl, by decide +kernel, rfl, by decide +kernel, by decide +kernel⟩
theorem b_law (h : Hs P w K mg) : Binds K h.fd_law ["_law_script"] [] := h.F_law.bindsN fun _ _ _ _ _ _ us hl => match us, hl with | [_], _ => rfl
theorem ok_law (h : Hs P w K mg) : FnOk P w K mg base (L2.CX P w) 9 h.f_law h.fd_law ["_law_script"] (spF K 1 (f_law h.c)) :=
  fn_okF h.F_law sc_law fun cdv A outer s H E hr => by
  have nd := nd_law
  have hu := hr.units
  have tk := tk_cx (P := P) (w := w) (K := K) (mg := mg) (base := base) (N := N_law) (qual := "law") (scope := defScope s_law) (f := h.f_law) (cd := cdv) (A := A) (outer := outer) (s := s) (H := H) (E := E)
  have own := own_cx (P := P) (w := w) (K := K) (mg := mg) (base := base) (N := N_law) (qual := "law") (scope := defScope s_law) (f := h.f_law) (cd := cdv) (A := A) (outer := outer) (s := s) (H := H) (E := E)
  exact (fs_cons (fs_setLcL (i := 1) (own := [("_law_cell", 14)]) rfl rfl nd rfl rfl (sw_true rfl rfl rfl (by decide +kernel)) (fi_seq (fe_sl (fe_var (pv 0)) fo_none (fo_some fe_int))) (blkOk_by (N := N_law) (sc := defScope s_law) (by decide +kernel)) (fun _ _ _ _ _ => (fgv_name (i := 14) (by decide) nd rfl (Or.inl rfl))) (fun _ _ _ _ _ => fts_nil) (fun _ _ _ _ _ => (fe_bu call_abs sim_abs (by rfl) h.n_abs PyProof.Rows.Boot.«abs» (fa_cons (fe_var (pv 14)) fa_nil))))
      (fs_cons (fs_set (i := 2) nd rfl (Or.inl rfl) (fe_op op_addA sim_add fe_int (fe_op op_mod sim_mod (fe_op op_addA sim_add (fe_call rfl ((ok_l_draw h).mono (by decide)) hr (by rfl) h.g_l_draw h.F_l_draw.kp (b_l_draw h) .nil Dfl.nil tk (fa_cons (fe_var (pv 1)) (fa_cons fe_int fa_nil))) fe_int) fe_int)))
      (fs_cons (fs_set (i := 3) nd rfl (Or.inl rfl) (fe_call rfl ((ok_l_entries h).mono (by decide)) hr (by rfl) h.g_l_entries h.F_l_entries.kp (b_l_entries h) .nil Dfl.nil tk (fa_cons (fe_var (pv 1)) (fa_cons (fe_var (pv 2)) fa_nil))))
      (fs_cons (fs_set (i := 4) nd rfl (Or.inl rfl) (fe_un un_neg sim_neg fe_int))
      (fs_cons (fs_for own rfl (fi_range1 (by rfl) h.n_range (fa_cons fe_int fa_nil)) (fg_name (i := 5) nd rfl (Or.inl rfl)) (fs_cons (fs_set (i := 6) nd rfl (Or.inl rfl) (fe_call rfl ((ok_l_draw h).mono (by decide)) hr (by rfl) h.g_l_draw h.F_l_draw.kp (b_l_draw h) .nil Dfl.nil tk (fa_cons (fe_var (pv 1)) (fa_cons fe_int fa_nil))))
      (fs_cons (fs_asg (fe_call rfl ((ok_l_bid h).mono (by decide)) hr (by rfl) h.g_l_bid h.F_l_bid.kp (b_l_bid h) .nil Dfl.nil tk (fa_cons (fe_var (pv 1)) (fa_cons (fe_var (pv 3)) (fa_cons (fe_var (pv 2)) (fa_cons (fe_var (pv 4)) fa_nil))))) (fg_tup rfl (fgs_cons (fg_name (i := 7) nd rfl (Or.inl rfl)) (fgs_cons (fg_name (i := 8) nd rfl (Or.inl rfl)) fgs_nil))))
      (fs_cons (fs_set (i := 9) nd rfl (Or.inl rfl) (fe_lst (fa_cons (fe_var (pv 3)) (fa_cons (fe_var (pv 2)) (fa_cons (fe_var (pv 7)) (fa_cons (fe_var (pv 8)) fa_nil))))))
      (fs_cons (fs_set (i := 10) nd rfl (Or.inl rfl) (fe_var (pv 9)))
      (fs_cons (fs_for own rfl (fi_range1 (by rfl) h.n_range (fa_cons (fe_bu (call_max2 rfl) sim_i2 (by rfl) h.n_max PyProof.Rows.Boot.«max» (fa_cons fe_int (fa_cons (fe_op op_sub sim_sub (fe_call rfl ((ok_l_draw h).mono (by decide)) hr (by rfl) h.g_l_draw h.F_l_draw.kp (b_l_draw h) .nil Dfl.nil tk (fa_cons (fe_var (pv 1)) (fa_cons fe_int fa_nil))) fe_int) fa_nil))) fa_nil)) (fg_name (i := 11) nd rfl (Or.inl rfl)) (fs_one (fs_set (i := 10) nd rfl (Or.inl rfl) (fe_call rfl ((ok_l_bent h).mono (by decide)) hr (by rfl) h.g_l_bent h.F_l_bent.kp (b_l_bent h) .nil Dfl.nil tk (fa_cons (fe_var (pv 1)) (fa_cons (fe_var (pv 10)) fa_nil))))))
      (fs_cons (fs_if (ft_not (ft_val (fe_call rfl ((ok_l_right h).mono (by decide)) hr (by rfl) h.g_l_right h.F_l_right.kp (b_l_right h) .nil Dfl.nil tk (fa_cons (fe_var (pv 10)) (fa_cons (fe_var (pv 6)) fa_nil))))) (fs_one (fs_ret fe_bl)) fs_nil)
      (fs_cons (fs_if (ft_not (ft_val (fe_call rfl ((ok_l_right h).mono (by decide)) hr (by rfl) h.g_l_right h.F_l_right.kp (b_l_right h) .nil Dfl.nil tk (fa_cons (fe_var (pv 9)) (fa_cons (fe_var (pv 6)) fa_nil))))) (fs_one (fs_ret fe_bl)) fs_nil)
      (fs_cons (fs_asg (fe_call rfl ((ok_l_taken h).mono (by decide)) hr (by rfl) h.g_l_taken h.F_l_taken.kp (b_l_taken h) .nil Dfl.nil tk (fa_cons (fe_var (pv 3)) (fa_cons (fe_var (pv 2)) (fa_cons (fe_var (pv 7)) (fa_cons (fe_var (pv 8)) fa_nil))))) (fg_tup rfl (fgs_cons (fg_name (i := 12) nd rfl (Or.inl rfl)) (fgs_cons (fg_name (i := 3) nd rfl (Or.inl rfl)) (fgs_cons (fg_name (i := 13) nd rfl (Or.inl rfl)) fgs_nil)))))
      (fs_one (fs_if (ft_cmp op_ge (nomark _) sim_ge (fe_var (pv 13)) fe_int) (fs_one (fs_set (i := 4) nd rfl (Or.inl rfl) (fe_var (pv 13)))) fs_nil)))))))))))
      (fs_one (fs_ret fe_bl)))))))
end
end K19
set_option maxRecDepth 100000
set_option maxHeartbeats 0
namespace K19
open PySem PySem.Spec PyProof.Rows L2 FL
def dsD : List He.DefD := [⟨("_law_draw", none), "_law_draw", "_law_draw", defArgs s_l_draw, defBody s_l_draw, defScope s_l_draw, [], []⟩,
  ⟨("_law_near", none), "_law_near", "_law_near", defArgs s_l_near, defBody s_l_near, defScope s_l_near, [], []⟩,
  ⟨("_law_entries", none), "_law_entries", "_law_entries", defArgs s_l_entries, defBody s_l_entries, defScope s_l_entries, [], []⟩,
  ⟨("_law_price", none), "_law_price", "_law_price", defArgs s_l_price, defBody s_l_price, defScope s_l_price, [], []⟩,
  ⟨("_law_bid", none), "_law_bid", "_law_bid", defArgs s_l_bid, defBody s_l_bid, defScope s_l_bid, [], []⟩,
  ⟨("_law_taken", none), "_law_taken", "_law_taken", defArgs s_l_taken, defBody s_l_taken, defScope s_l_taken, [], []⟩,
  ⟨("_law_beyond", none), "_law_beyond", "_law_beyond", defArgs s_l_beyond, defBody s_l_beyond, defScope s_l_beyond, [], []⟩,
  ⟨("_law_odd_entries", none), "_law_odd_entries", "_law_odd_entries", defArgs s_l_odd_entries, defBody s_l_odd_entries, defScope s_l_odd_entries, [], []⟩,
  ⟨("_law_bent", none), "_law_bent", "_law_bent", defArgs s_l_bent, defBody s_l_bent, defScope s_l_bent, [], []⟩,
  ⟨("_law_first", none), "_law_first", "_law_first", defArgs s_l_first, defBody s_l_first, defScope s_l_first, [], []⟩,
  ⟨("_law_dues", none), "_law_dues", "_law_dues", defArgs s_l_dues, defBody s_l_dues, defScope s_l_dues, [], []⟩,
  ⟨("_law_same", none), "_law_same", "_law_same", defArgs s_l_same, defBody s_l_same, defScope s_l_same, [], []⟩,
  ⟨("within", none), "within", "within", defArgs s_within, defBody s_within, defScope s_within, [], []⟩,
  ⟨("entries_look", none), "entries_look", "entries_look", defArgs s_entries_look, defBody s_entries_look, defScope s_entries_look, [], []⟩,
  ⟨("_put_out", none), "_put_out", "_put_out", defArgs s_p_put_out, defBody s_p_put_out, defScope s_p_put_out, [], []⟩,
  ⟨("_amount_in", none), "_amount_in", "_amount_in", defArgs s_p_amount_in, defBody s_p_amount_in, defScope s_p_amount_in, [], []⟩,
  ⟨("_least_amount", none), "_least_amount", "_least_amount", defArgs s_p_least_amount, defBody s_p_least_amount, defScope s_p_least_amount, [], []⟩,
  ⟨("_with_entry", none), "_with_entry", "_with_entry", defArgs s_p_with_entry, defBody s_p_with_entry, defScope s_p_with_entry, [], []⟩,
  ⟨("take", none), "take", "take", defArgs s_take, defBody s_take, defScope s_take, [], []⟩,
  ⟨("_law_refused", none), "_law_refused", "_law_refused", defArgs s_l_refused, defBody s_l_refused, defScope s_l_refused, [], []⟩,
  ⟨("_law_take", none), "_law_take", "_law_take", defArgs s_l_take, defBody s_l_take, defScope s_l_take, [], []⟩,
  ⟨("price_of", none), "price_of", "price_of", defArgs s_price_of, defBody s_price_of, defScope s_price_of, [], []⟩,
  ⟨("_law_price_of", none), "_law_price_of", "_law_price_of", defArgs s_l_price_of, defBody s_l_price_of, defScope s_l_price_of, [], []⟩,
  ⟨("amount_of", none), "amount_of", "amount_of", defArgs s_amount_of, defBody s_amount_of, defScope s_amount_of, [], []⟩,
  ⟨("_law_amount_of", none), "_law_amount_of", "_law_amount_of", defArgs s_l_amount_of, defBody s_l_amount_of, defScope s_l_amount_of, [], []⟩,
  ⟨("_law_right", none), "_law_right", "_law_right", defArgs s_l_right, defBody s_l_right, defScope s_l_right, [], []⟩,
  ⟨("law", none), "law", "law", defArgs s_law, defBody s_law, defScope s_law, [], []⟩,
  ⟨("OutOfRange", some "__init__"), "__init__", "OutOfRange.__init__", defArgs si_OutOfRange, defBody si_OutOfRange, defScope si_OutOfRange, [], []⟩]
def dsF : List He.Fa := [.glo "_law_draw", .glo "_law_near", .glo "_law_entries", .glo "_law_price", .glo "_law_bid", .glo "_law_taken", .glo "_law_beyond", .glo "_law_odd_entries", .glo "_law_bent", .glo "_law_first", .glo "_law_dues", .glo "_law_same", .glo "within", .glo "entries_look", .glo "_put_out", .glo "_amount_in", .glo "_least_amount", .glo "_with_entry", .glo "take", .glo "_law_refused", .glo "_law_take", .glo "price_of", .glo "_law_price_of", .glo "amount_of", .glo "_law_amount_of", .glo "_law_right", .glo "law", .free "ValueError", .free "abs", .free "bool", .free "int", .free "isinstance", .free "len", .free "list", .free "max", .free "min", .free "range", .free "sorted", .free "str", .free "tuple", .int "MOST_SEEKERS" 30, .int "MOST_PLACES" 9, .int "MOST_PRICE" 9999, .glo "OutOfRange", .glo "Unread", .glo "Unfit", .glo "NotAccepted", .glo "BadStart", .glo "Up", .glo "NotOneChange", .glo "NotBest", .glo "Down", .glo "NothingToUndo", .glo "Busy", .glo "Warm", .glo "NothingToRedo", .glo "BadSlips", .glo "TooHeavy", .glo "BadWord", .glo "NoLetter", .glo "NotSynced", .glo "BadEvent", .glo "NotAtRest", .glo "HeldError", .exm "OutOfRange" "HeldError" true]
def bO (a b : Option (Option Value)) : Bool := decide (a = b)
def errB (K : PySem.W.Frag) (x : Str) : Bool := HX.oexB K (He.ga K x) && (bO (PySem.W.findIn K (.ref (He.ga K x)) "__init__") (some (some (.ref (He.fAd K (x, some "__init__"))))) && (decide (PySem.W.typeIn K (.ref (He.fAd K (x, some "__init__"))) = some (.type "function")) && (HX.excB K (He.ga K x) && ((PySem.W.clsIn K (He.ga K x)).isSome && xfB K (He.ga K x)))))
def dsX (K : PySem.W.Frag) : List Bool := [errB K "OutOfRange",
  bO (PySem.W.findIn K (.ref (He.ga K "OutOfRange")) "what") (some none),
  bO (PySem.W.findIn K (.ref (He.ga K "OutOfRange")) "value") (some none),
  decide (PySem.W.kitOne K (.ref (He.ga K "OutOfRange")) (.ref (He.ga K "BadEvent")) = some false),
  decide (PySem.W.kitOne K (.ref (He.ga K "OutOfRange")) (.ref (He.ga K "BadSlips")) = some false),
  decide (PySem.W.kitOne K (.ref (He.ga K "OutOfRange")) (.ref (He.ga K "BadStart")) = some false),
  decide (PySem.W.kitOne K (.ref (He.ga K "OutOfRange")) (.ref (He.ga K "BadWord")) = some false),
  decide (PySem.W.kitOne K (.ref (He.ga K "OutOfRange")) (.ref (He.ga K "Busy")) = some false),
  decide (PySem.W.kitOne K (.ref (He.ga K "OutOfRange")) (.ref (He.ga K "Down")) = some false),
  decide (PySem.W.kitOne K (.ref (He.ga K "OutOfRange")) (.ref (He.ga K "NoLetter")) = some false),
  decide (PySem.W.kitOne K (.ref (He.ga K "OutOfRange")) (.ref (He.ga K "NotAccepted")) = some false),
  decide (PySem.W.kitOne K (.ref (He.ga K "OutOfRange")) (.ref (He.ga K "NotAtRest")) = some false),
  decide (PySem.W.kitOne K (.ref (He.ga K "OutOfRange")) (.ref (He.ga K "NotBest")) = some false),
  decide (PySem.W.kitOne K (.ref (He.ga K "OutOfRange")) (.ref (He.ga K "NotOneChange")) = some false),
  decide (PySem.W.kitOne K (.ref (He.ga K "OutOfRange")) (.ref (He.ga K "NotSynced")) = some false),
  decide (PySem.W.kitOne K (.ref (He.ga K "OutOfRange")) (.ref (He.ga K "NothingToRedo")) = some false),
  decide (PySem.W.kitOne K (.ref (He.ga K "OutOfRange")) (.ref (He.ga K "NothingToUndo")) = some false),
  decide (PySem.W.kitOne K (.ref (He.ga K "OutOfRange")) (.ref (He.ga K "OutOfRange")) = some true),
  decide (PySem.W.kitOne K (.ref (He.ga K "OutOfRange")) (.ref (He.ga K "TooHeavy")) = some false),
  decide (PySem.W.kitOne K (.ref (He.ga K "OutOfRange")) (.ref (He.ga K "Unfit")) = some false),
  decide (PySem.W.kitOne K (.ref (He.ga K "OutOfRange")) (.ref (He.ga K "Unread")) = some false),
  decide (PySem.W.kitOne K (.ref (He.ga K "OutOfRange")) (.ref (He.ga K "Up")) = some false),
  decide (PySem.W.kitOne K (.ref (He.ga K "OutOfRange")) (.type "ValueError") = some true),
  decide (PySem.W.kitOne K (.ref (He.ga K "OutOfRange")) (.ref (He.ga K "Warm")) = some false)]
def names : List PySem.Str := (["HeldError", "OutOfRange", "Unread", "Unfit", "NotAccepted", "BadStart", "BadSlips", "TooHeavy", "NotBest", "NotOneChange", "BadWord", "Busy"] : List PySem.Str) ++ (["NoLetter", "Down", "Up", "NotSynced", "BadEvent", "NotAtRest", "Warm", "NothingToUndo", "NothingToRedo", "MOST_SEEKERS", "MOST_PLACES", "MOST_PRICE"] : List PySem.Str) ++ (["within", "entries_look", "price_of", "amount_of", "take", "_least_amount", "_amount_in", "_put_out", "_with_entry", "_law_draw", "_law_near", "_law_beyond"] : List PySem.Str) ++ (["_law_same", "_law_refused", "_law_first", "_law_entries", "_law_price", "_law_taken", "_law_bid", "_law_odd_entries", "_law_bent", "_law_dues", "_law_take", "_law_price_of"] : List PySem.Str) ++ (["_law_amount_of", "_law_right"] : List PySem.Str)
abbrev R : PySem.W.OpenRow := PySem.W.OpenLaw.row PySem.Challenge.rw_heldbest_k19_taking
abbrev hk : PySem.W.Hook := HX.hookX 5 dsX dsF dsD
def ob (s : PySem.W.SharedT) : He.AlD := HX.obsXG 5 dsX dsF dsD (HandSHeadRun.getT s)
theorem ob_eq (s : PySem.W.SharedT) : ob s = hk.obs s.abs := HX.obsXG_eq (HandSHeadRun.getT_eq s)
theorem run (w : World) : HandSHeadRun.RunEq R (PySem.W.view R.prog [55]) hk ob 30000 names w := by
  intro os
  kernel_rfl
theorem errB_ok {K : PySem.W.Frag} {x : Str} (h : errB K x = true) : OexC K (He.ga K x) ∧ PySem.W.findIn K (.ref (He.ga K x)) "__init__" = some (some (.ref (He.fAd K (x, some "__init__")))) ∧ PySem.W.typeIn K (.ref (He.fAd K (x, some "__init__"))) = some (.type "function") ∧ L2.ExcC K (He.ga K x) ∧ (PySem.W.clsIn K (He.ga K x)).isSome = true ∧ XfC K (He.ga K x) := by
  obtain ⟨h1, h⟩ := Bool.and_eq_true_iff.mp h
  obtain ⟨h2, h⟩ := Bool.and_eq_true_iff.mp h
  obtain ⟨h3, h⟩ := Bool.and_eq_true_iff.mp h
  obtain ⟨h4, h⟩ := Bool.and_eq_true_iff.mp h
  obtain ⟨h5, h6⟩ := Bool.and_eq_true_iff.mp h
  exact ⟨HX.oexB_ok h1, of_decide_eq_true h2, of_decide_eq_true h3, HX.excB_ok h4, h5, xfB_ok h6⟩
theorem facts {P : Program} {w : World} {K : PySem.W.Frag} {h : Heap} {mg : Str → Option Value} (X : K.In h) (G : h.Ns mainGlobals mg) (y : HX.SaysX dsX dsF dsD K) : ∃ hs : Hs P w K mg, hs.f_law = He.ga K "law" := by
  have c : He.SaysD dsF dsD K := HX.SaysX.d y
  have x := HX.SaysX.x y
  obtain ⟨fd_l_draw, F_l_draw⟩ := c.def_ 0 rfl
  obtain ⟨fd_l_near, F_l_near⟩ := c.def_ 1 rfl
  obtain ⟨fd_l_entries, F_l_entries⟩ := c.def_ 2 rfl
  obtain ⟨fd_l_price, F_l_price⟩ := c.def_ 3 rfl
  obtain ⟨fd_l_bid, F_l_bid⟩ := c.def_ 4 rfl
  obtain ⟨fd_l_taken, F_l_taken⟩ := c.def_ 5 rfl
  obtain ⟨fd_l_beyond, F_l_beyond⟩ := c.def_ 6 rfl
  obtain ⟨fd_l_odd_entries, F_l_odd_entries⟩ := c.def_ 7 rfl
  obtain ⟨fd_l_bent, F_l_bent⟩ := c.def_ 8 rfl
  obtain ⟨fd_l_first, F_l_first⟩ := c.def_ 9 rfl
  obtain ⟨fd_l_dues, F_l_dues⟩ := c.def_ 10 rfl
  obtain ⟨fd_l_same, F_l_same⟩ := c.def_ 11 rfl
  obtain ⟨fd_within, F_within⟩ := c.def_ 12 rfl
  obtain ⟨fd_entries_look, F_entries_look⟩ := c.def_ 13 rfl
  obtain ⟨fd_p_put_out, F_p_put_out⟩ := c.def_ 14 rfl
  obtain ⟨fd_p_amount_in, F_p_amount_in⟩ := c.def_ 15 rfl
  obtain ⟨fd_p_least_amount, F_p_least_amount⟩ := c.def_ 16 rfl
  obtain ⟨fd_p_with_entry, F_p_with_entry⟩ := c.def_ 17 rfl
  obtain ⟨fd_take, F_take⟩ := c.def_ 18 rfl
  obtain ⟨fd_l_refused, F_l_refused⟩ := c.def_ 19 rfl
  obtain ⟨fd_l_take, F_l_take⟩ := c.def_ 20 rfl
  obtain ⟨fd_price_of, F_price_of⟩ := c.def_ 21 rfl
  obtain ⟨fd_l_price_of, F_l_price_of⟩ := c.def_ 22 rfl
  obtain ⟨fd_amount_of, F_amount_of⟩ := c.def_ 23 rfl
  obtain ⟨fd_l_amount_of, F_l_amount_of⟩ := c.def_ 24 rfl
  obtain ⟨fd_l_right, F_l_right⟩ := c.def_ 25 rfl
  obtain ⟨fd_law, F_law⟩ := c.def_ 26 rfl
  obtain ⟨jd_OutOfRange, J_OutOfRange⟩ := c.def_ 27 rfl
  have b_OutOfRange := errB_ok (x := "OutOfRange") (x 0 rfl)
  exact ⟨{ c := fun x => He.ga K (PySem.Str.ofString x),
            f_l_draw := He.ga K "_law_draw", fd_l_draw := fd_l_draw, F_l_draw := F_l_draw, g_l_draw := He.glo_ok X G (c.fact 0 (f := .glo "_law_draw") rfl),
            f_l_near := He.ga K "_law_near", fd_l_near := fd_l_near, F_l_near := F_l_near, g_l_near := He.glo_ok X G (c.fact 1 (f := .glo "_law_near") rfl),
            f_l_entries := He.ga K "_law_entries", fd_l_entries := fd_l_entries, F_l_entries := F_l_entries, g_l_entries := He.glo_ok X G (c.fact 2 (f := .glo "_law_entries") rfl),
            f_l_price := He.ga K "_law_price", fd_l_price := fd_l_price, F_l_price := F_l_price, g_l_price := He.glo_ok X G (c.fact 3 (f := .glo "_law_price") rfl),
            f_l_bid := He.ga K "_law_bid", fd_l_bid := fd_l_bid, F_l_bid := F_l_bid, g_l_bid := He.glo_ok X G (c.fact 4 (f := .glo "_law_bid") rfl),
            f_l_taken := He.ga K "_law_taken", fd_l_taken := fd_l_taken, F_l_taken := F_l_taken, g_l_taken := He.glo_ok X G (c.fact 5 (f := .glo "_law_taken") rfl),
            f_l_beyond := He.ga K "_law_beyond", fd_l_beyond := fd_l_beyond, F_l_beyond := F_l_beyond, g_l_beyond := He.glo_ok X G (c.fact 6 (f := .glo "_law_beyond") rfl),
            f_l_odd_entries := He.ga K "_law_odd_entries", fd_l_odd_entries := fd_l_odd_entries, F_l_odd_entries := F_l_odd_entries, g_l_odd_entries := He.glo_ok X G (c.fact 7 (f := .glo "_law_odd_entries") rfl),
            f_l_bent := He.ga K "_law_bent", fd_l_bent := fd_l_bent, F_l_bent := F_l_bent, g_l_bent := He.glo_ok X G (c.fact 8 (f := .glo "_law_bent") rfl),
            f_l_first := He.ga K "_law_first", fd_l_first := fd_l_first, F_l_first := F_l_first, g_l_first := He.glo_ok X G (c.fact 9 (f := .glo "_law_first") rfl),
            f_l_dues := He.ga K "_law_dues", fd_l_dues := fd_l_dues, F_l_dues := F_l_dues, g_l_dues := He.glo_ok X G (c.fact 10 (f := .glo "_law_dues") rfl),
            f_l_same := He.ga K "_law_same", fd_l_same := fd_l_same, F_l_same := F_l_same, g_l_same := He.glo_ok X G (c.fact 11 (f := .glo "_law_same") rfl),
            f_within := He.ga K "within", fd_within := fd_within, F_within := F_within, g_within := He.glo_ok X G (c.fact 12 (f := .glo "within") rfl),
            f_entries_look := He.ga K "entries_look", fd_entries_look := fd_entries_look, F_entries_look := F_entries_look, g_entries_look := He.glo_ok X G (c.fact 13 (f := .glo "entries_look") rfl),
            f_p_put_out := He.ga K "_put_out", fd_p_put_out := fd_p_put_out, F_p_put_out := F_p_put_out, g_p_put_out := He.glo_ok X G (c.fact 14 (f := .glo "_put_out") rfl),
            f_p_amount_in := He.ga K "_amount_in", fd_p_amount_in := fd_p_amount_in, F_p_amount_in := F_p_amount_in, g_p_amount_in := He.glo_ok X G (c.fact 15 (f := .glo "_amount_in") rfl),
            f_p_least_amount := He.ga K "_least_amount", fd_p_least_amount := fd_p_least_amount, F_p_least_amount := F_p_least_amount, g_p_least_amount := He.glo_ok X G (c.fact 16 (f := .glo "_least_amount") rfl),
            f_p_with_entry := He.ga K "_with_entry", fd_p_with_entry := fd_p_with_entry, F_p_with_entry := F_p_with_entry, g_p_with_entry := He.glo_ok X G (c.fact 17 (f := .glo "_with_entry") rfl),
            f_take := He.ga K "take", fd_take := fd_take, F_take := F_take, g_take := He.glo_ok X G (c.fact 18 (f := .glo "take") rfl),
            f_l_refused := He.ga K "_law_refused", fd_l_refused := fd_l_refused, F_l_refused := F_l_refused, g_l_refused := He.glo_ok X G (c.fact 19 (f := .glo "_law_refused") rfl),
            f_l_take := He.ga K "_law_take", fd_l_take := fd_l_take, F_l_take := F_l_take, g_l_take := He.glo_ok X G (c.fact 20 (f := .glo "_law_take") rfl),
            f_price_of := He.ga K "price_of", fd_price_of := fd_price_of, F_price_of := F_price_of, g_price_of := He.glo_ok X G (c.fact 21 (f := .glo "price_of") rfl),
            f_l_price_of := He.ga K "_law_price_of", fd_l_price_of := fd_l_price_of, F_l_price_of := F_l_price_of, g_l_price_of := He.glo_ok X G (c.fact 22 (f := .glo "_law_price_of") rfl),
            f_amount_of := He.ga K "amount_of", fd_amount_of := fd_amount_of, F_amount_of := F_amount_of, g_amount_of := He.glo_ok X G (c.fact 23 (f := .glo "amount_of") rfl),
            f_l_amount_of := He.ga K "_law_amount_of", fd_l_amount_of := fd_l_amount_of, F_l_amount_of := F_l_amount_of, g_l_amount_of := He.glo_ok X G (c.fact 24 (f := .glo "_law_amount_of") rfl),
            f_l_right := He.ga K "_law_right", fd_l_right := fd_l_right, F_l_right := F_l_right, g_l_right := He.glo_ok X G (c.fact 25 (f := .glo "_law_right") rfl),
            f_law := He.ga K "law", fd_law := fd_law, F_law := F_law, g_law := He.glo_ok X G (c.fact 26 (f := .glo "law") rfl),
            n_ValueError := He.free_ok X G (c.fact 27 (f := .free "ValueError") rfl),
            n_abs := He.free_ok X G (c.fact 28 (f := .free "abs") rfl),
            n_bool := He.free_ok X G (c.fact 29 (f := .free "bool") rfl),
            n_int := He.free_ok X G (c.fact 30 (f := .free "int") rfl),
            n_isinstance := He.free_ok X G (c.fact 31 (f := .free "isinstance") rfl),
            n_len := He.free_ok X G (c.fact 32 (f := .free "len") rfl),
            n_list := He.free_ok X G (c.fact 33 (f := .free "list") rfl),
            n_max := He.free_ok X G (c.fact 34 (f := .free "max") rfl),
            n_min := He.free_ok X G (c.fact 35 (f := .free "min") rfl),
            n_range := He.free_ok X G (c.fact 36 (f := .free "range") rfl),
            n_sorted := He.free_ok X G (c.fact 37 (f := .free "sorted") rfl),
            n_str := He.free_ok X G (c.fact 38 (f := .free "str") rfl),
            n_tuple := He.free_ok X G (c.fact 39 (f := .free "tuple") rfl),
            i_MOST_SEEKERS := He.int_ok X G (c.fact 40 (f := .int "MOST_SEEKERS" 30) rfl),
            i_MOST_PLACES := He.int_ok X G (c.fact 41 (f := .int "MOST_PLACES" 9) rfl),
            i_MOST_PRICE := He.int_ok X G (c.fact 42 (f := .int "MOST_PRICE" 9999) rfl),
            gc_OutOfRange := He.glo_ok X G (c.fact 43 (f := .glo "OutOfRange") rfl),
            gc_Unread := He.glo_ok X G (c.fact 44 (f := .glo "Unread") rfl),
            gc_Unfit := He.glo_ok X G (c.fact 45 (f := .glo "Unfit") rfl),
            gc_NotAccepted := He.glo_ok X G (c.fact 46 (f := .glo "NotAccepted") rfl),
            gc_BadStart := He.glo_ok X G (c.fact 47 (f := .glo "BadStart") rfl),
            gc_Up := He.glo_ok X G (c.fact 48 (f := .glo "Up") rfl),
            gc_NotOneChange := He.glo_ok X G (c.fact 49 (f := .glo "NotOneChange") rfl),
            gc_NotBest := He.glo_ok X G (c.fact 50 (f := .glo "NotBest") rfl),
            gc_Down := He.glo_ok X G (c.fact 51 (f := .glo "Down") rfl),
            gc_NothingToUndo := He.glo_ok X G (c.fact 52 (f := .glo "NothingToUndo") rfl),
            gc_Busy := He.glo_ok X G (c.fact 53 (f := .glo "Busy") rfl),
            gc_Warm := He.glo_ok X G (c.fact 54 (f := .glo "Warm") rfl),
            gc_NothingToRedo := He.glo_ok X G (c.fact 55 (f := .glo "NothingToRedo") rfl),
            gc_BadSlips := He.glo_ok X G (c.fact 56 (f := .glo "BadSlips") rfl),
            gc_TooHeavy := He.glo_ok X G (c.fact 57 (f := .glo "TooHeavy") rfl),
            gc_BadWord := He.glo_ok X G (c.fact 58 (f := .glo "BadWord") rfl),
            gc_NoLetter := He.glo_ok X G (c.fact 59 (f := .glo "NoLetter") rfl),
            gc_NotSynced := He.glo_ok X G (c.fact 60 (f := .glo "NotSynced") rfl),
            gc_BadEvent := He.glo_ok X G (c.fact 61 (f := .glo "BadEvent") rfl),
            gc_NotAtRest := He.glo_ok X G (c.fact 62 (f := .glo "NotAtRest") rfl),
            gc_HeldError := He.glo_ok X G (c.fact 63 (f := .glo "HeldError") rfl),
            x_OutOfRange_HeldError := He.exm_ok (c.fact 64 (f := .exm "OutOfRange" "HeldError" true) rfl),
            j_OutOfRange := He.fAd K ("OutOfRange", some "__init__"), jd_OutOfRange := jd_OutOfRange, J_OutOfRange := J_OutOfRange, e_OutOfRange := ⟨b_OutOfRange.1, He.glo_ok X G (c.fact 43 (f := .glo "OutOfRange") rfl), b_OutOfRange.2.1, b_OutOfRange.2.2.1⟩, ex_OutOfRange := b_OutOfRange.2.2.2.1, cl_OutOfRange := b_OutOfRange.2.2.2.2.1, xf_OutOfRange := b_OutOfRange.2.2.2.2.2,
            no_OutOfRange_what := of_decide_eq_true (x 1 rfl),
            no_OutOfRange_value := of_decide_eq_true (x 2 rfl),
            k_OutOfRange_BadEvent := of_decide_eq_true (x 3 rfl),
            k_OutOfRange_BadSlips := of_decide_eq_true (x 4 rfl),
            k_OutOfRange_BadStart := of_decide_eq_true (x 5 rfl),
            k_OutOfRange_BadWord := of_decide_eq_true (x 6 rfl),
            k_OutOfRange_Busy := of_decide_eq_true (x 7 rfl),
            k_OutOfRange_Down := of_decide_eq_true (x 8 rfl),
            k_OutOfRange_NoLetter := of_decide_eq_true (x 9 rfl),
            k_OutOfRange_NotAccepted := of_decide_eq_true (x 10 rfl),
            k_OutOfRange_NotAtRest := of_decide_eq_true (x 11 rfl),
            k_OutOfRange_NotBest := of_decide_eq_true (x 12 rfl),
            k_OutOfRange_NotOneChange := of_decide_eq_true (x 13 rfl),
            k_OutOfRange_NotSynced := of_decide_eq_true (x 14 rfl),
            k_OutOfRange_NothingToRedo := of_decide_eq_true (x 15 rfl),
            k_OutOfRange_NothingToUndo := of_decide_eq_true (x 16 rfl),
            k_OutOfRange_OutOfRange := of_decide_eq_true (x 17 rfl),
            k_OutOfRange_TooHeavy := of_decide_eq_true (x 18 rfl),
            k_OutOfRange_Unfit := of_decide_eq_true (x 19 rfl),
            k_OutOfRange_Unread := of_decide_eq_true (x 20 rfl),
            k_OutOfRange_Up := of_decide_eq_true (x 21 rfl),
            k_OutOfRange_ValueError := of_decide_eq_true (x 22 rfl),
            k_OutOfRange_Warm := of_decide_eq_true (x 23 rfl) }, rfl⟩
end K19
set_option maxRecDepth 100000
set_option maxHeartbeats 0
namespace K19
open PySem PySem.Spec PyProof.Rows L2 FL
/-! ### no exception: for the head -/
theorem toCX0 {P : Program} {w : World} {K : PySem.W.Frag} {mg : Str → Option Value} {base : Heap} {k : Nat} {f : PySem.Addr} {fd : FuncData} {ps : List Str} {sp : Sp} (F : FnOk P w K mg base (L2.CX P w) k f fd ps sp) (h : ∀ vs H Q E E', sp vs H Q E → sp vs H Q E') : FnOk P w K mg base CX0 k f fd ps sp :=
  ⟨F.len, fun A outer s H args us vs Q E hr e0 hb r hsp => codeAny_mono (F.run A outer s H args us vs Q E0 hr e0 hb r (h _ _ _ _ _ hsp)) fun res s' q => by
    cases res with
    | error e =>
      obtain ⟨_, _, _, _, _, _, _, _, _, _, _, _, z⟩ := q
      exact z.elim
    | ok fl => cases fl <;> exact q⟩
def spLaw (K : PySem.W.Frag) : Sp := fun vs H Q _ => ∃ (a : PySem.Addr) (ns : List Int), vs = [.ref a] ∧ ns.length ≤ 63 ∧ SqL K H a (ns.map V.int) ∧ ∀ H', Q (.bl true) H'
theorem law_ok {P : Program} {w : World} {K : PySem.W.Frag} {mg : Str → Option Value} {base : Heap} (h : Hs P w K mg) : FnOk P w K mg base CX0 9 h.f_law h.fd_law ["_law_script"] (spLaw K) := by
  refine toCX0 ((ok_law (base := base) h).imp fun vs H Q E ⟨a, ns, hv, hn, hS, hQ⟩ => ?_) fun _ _ _ _ _ q => q
  subst hv
  obtain ⟨S', e⟩ := e_law (c := h.c) hn
  have nm : ∀ b, ¬ (Vw.mk (fun _ => 0) [] H []).mut b := fun b z => by
    rcases z with ⟨m, hm, _⟩ | z
    · exact absurd hm (Nat.not_lt_zero m)
    · cases z
  refine ⟨⟨fun _ => 0, [], H, []⟩, [.fls (iD ns)], rfl, ⟨fun i j hi _ _ => absurd hi (Nat.not_lt_zero i), fun z hz => (by cases hz), fun m hm => absurd hm (Nat.not_lt_zero m), fun m c q => (by cases q)⟩, .cons (.fls (hS.imp (fun h => ⟨h, nm a⟩) id) (reps_ints ns)) .nil, rfl, ?_⟩
  rw [e]
  intro w' _ _ _ v r
  cases r
  exact hQ _
end K19
open PySem PySem.W PySem.Calls PyProof.Rows
theorem PySem.Challenge.cw_heldbest_k19_taking_holds : PySem.Challenge.rw_heldbest_k19_taking.Holds := by
  w_on; o_law
  refine HandSHeadRun.head_any (r := OpenLaw.row PySem.Challenge.rw_heldbest_k19_taking) (q := view (OpenLaw.row PySem.Challenge.rw_heldbest_k19_taking).prog [55]) (H := K19.hk) (ob := K19.ob) (M := 30000) (loose := K19.names) (d := HandSHeadRun.topDef (OpenLaw.row PySem.Challenge.rw_heldbest_k19_taking).prog 55) (kwd := []) K19.ob_eq
    (by kernel_rfl) (fun s => by kernel_rfl) K19.run (by kernel_rfl) (by kernel_rfl) (by kernel_rfl) (by rfl) (by first | assumption | decide +kernel) (by decide +kernel) ⟨rfl, rfl, rfl, rfl, rfl, by decide +kernel⟩ ?hw ?hc
  case hw => w_witness2
  case hc =>
    refine L2.walk_ofE (l := PySem.Challenge.rw_heldbest_k19_taking) (n := 63) (k := 9) (x := "_law_script") (CX := L2.CX0) rfl (by decide) (by kernel_rfl) ⟨rfl, by decide, by decide⟩ ?F (fun _ _ _ _ z => z)
    intro w mg fa h Y G hmg0
    obtain ⟨K, KX, y⟩ := Y
    have hmg : mg ("law" : PySem.Str) = some (.ref fa) := by
      have e : (HandSHeadRun.topDef (OpenLaw.row PySem.Challenge.rw_heldbest_k19_taking).prog 55).name = ("law" : PySem.Str) := by kernel_rfl
      rw [← e]
      exact hmg0
    obtain ⟨hs, _⟩ := K19.facts (P := (PySem.Challenge.rw_heldbest_k19_taking).prog) (w := w) KX G y
    have e2 := hmg.symm.trans hs.g_law
    cases e2
    have b := L2.FunD.bindsA (ps := ["_law_script"]) hs.F_law fun _ _ _ _ _ _ us hl => match us, hl with | [_], _ => rfl
    exact ⟨K, hs.fd_law, K19.spLaw K, KX, fun s v => b s [v] rfl, fun H a ns hl _ hS => ⟨a, ns, rfl, hl, hS, fun _ => rfl⟩, fun base _ _ => K19.law_ok hs⟩
