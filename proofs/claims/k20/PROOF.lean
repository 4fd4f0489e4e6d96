import PyProof.Rows.All
import Wide.All
import OpenK.AllK
import Wide.FinOn
import HandS.ForMost
import HandS.Exc
import HandS.TryMany
import HandS.Deep
import HandS.Flow
import HandS.IsInst
import HandS.SortInts
import HandS.Conv
import HandS.TupAny
import HandS.Sort
import HandS.TupSets
import HandS.Strs
import HandS.Wide
import HandS.WordsExc
import HandS.HeadEnd
import HandS.HeadHook1
import HandS.HeadHook2
import HandS.Head0
import HandS.Head1
import HandS.Head2
import HandS.Defaults
import HandS.More
import HandS.CallSlots
import HandS.Walk
import PySem.Challenge.RW_selfhold_k20_names_and_words
set_option Elab.async false
set_option linter.all false
set_option maxRecDepth 100000
/-! Pure data over HandS: D, Rep, the state of a def's body (SR), lift. -/
namespace Mx
open PySem PySem.Spec PyProof.Rows L2

inductive D where
  | non | bl (b : Bool) | int (i : Int) | str (s : Str) | ty (n : String) | fn (a : Addr) | obj (i : Nat)
  | tup (xs : List D) | lst (xs : List D) | dct (kvs : List (D × D)) | scr (ns : List Int)
  deriving Inhabited

def okS (x : Str) : Bool := x.cps.all (· < 0x110000)
structure StrOk (x : Str) : Prop where
  cps : okS x = true
  len : x.length ≤ sizeLine
def KOk : Key → Prop
  | .inl _ => True
  | .inr s => StrOk s
def dKey : Key → D
  | .inl i => .int i
  | .inr s => .str s

/-- a list of the written part -/
def StL (K : PySem.W.Frag) (a : Addr) (xs : List V) : Prop :=
  ∃ (o : Obj) (its : Array Value) (n : Nat), K.lookup a = some o ∧ o.cls = .type "list" ∧ o.dict = none ∧ o.data = .seq its n ∧ its.size ≤ sizeLine ∧ Vals xs its.toList
def StT (K : PySem.W.Frag) (a : Addr) (xs : List V) : Prop :=
  ∃ (o : Obj) (its : Array Value) (n : Nat), K.lookup a = some o ∧ o.cls = .type "tuple" ∧ o.data = .seq its n ∧ its.size ≤ sizeLine ∧ Vals xs its.toList

section
variable (K : PySem.W.Frag) (is : List Addr) (fz : Addr → Prop) (H : Hp)
mutual
inductive Rep : V → D → Prop
  | non : Rep .non .non
  | bl (b : Bool) : Rep (.bl b) (.bl b)
  | int (i : Int) : Rep (.int i) (.int i)
  | str (x : Str) : StrOk x → Rep (.str x) (.str x)
  | ty (n : String) : Rep (.ty n) (.ty n)
  | fn (a : Addr) : Rep (.ref a) (.fn a)
  | obj {i : Nat} {a : Addr} : is[i]? = some a → Rep (.ref a) (.obj i)
  | tup {a : Addr} {vs : List V} {ds : List D} : ((fz a ∧ H a = some (.tup vs)) ∨ StT K a vs) → RepA vs ds → Rep (.ref a) (.tup ds)
  | lst {a : Addr} {vs : List V} {ds : List D} : fz a → H a = some (.lst vs) → RepA vs ds → Rep (.ref a) (.lst ds)
  | scr {a : Addr} {ns : List Int} : ((fz a ∧ Rd H a (.lst (ns.map V.int))) ∨ StL K a (ns.map V.int)) → Rep (.ref a) (.scr ns)
  | dct {a : Addr} {ks : List (Key × V)} {kvs : List (D × D)} : fz a → Rd H a (.dK ks) → RepK ks kvs → Rep (.ref a) (.dct kvs)
inductive RepA : List V → List D → Prop
  | nil : RepA [] []
  | cons {v : V} {vs : List V} {d : D} {ds : List D} : Rep v d → RepA vs ds → RepA (v :: vs) (d :: ds)
inductive RepK : List (Key × V) → List (D × D) → Prop
  | nil : RepK [] []
  | cons {k : Key} {v : V} {ks : List (Key × V)} {d : D} {ds : List (D × D)} : KOk k → Rep v d → RepK ks ds → RepK ((k, v) :: ks) ((dKey k, d) :: ds)
end
end

/-- a later state: what is frozen stays -/
structure Le (fz : Addr → Prop) (H : Hp) (is : List Addr) (fz' : Addr → Prop) (H' : Hp) (is' : List Addr) : Prop where
  up : ∀ b, fz b → fz' b
  hp : ∀ b, fz b → H' b = H b
  ix : is <+: is'

theorem Le.refl {fz : Addr → Prop} {H : Hp} {is : List Addr} : Le fz H is fz H is := ⟨fun _ h => h, fun _ _ => rfl, List.prefix_refl _⟩
theorem Le.trans {fz fz1 fz2 : Addr → Prop} {H H1 H2 : Hp} {is is1 is2 : List Addr} (a : Le fz H is fz1 H1 is1) (b : Le fz1 H1 is1 fz2 H2 is2) : Le fz H is fz2 H2 is2 :=
  ⟨fun c h => b.up c (a.up c h), fun c h => (b.hp c (a.up c h)).trans (a.hp c h), a.ix.trans b.ix⟩
theorem prefix_get {α : Type} {xs ys : List α} (p : xs <+: ys) {i : Nat} {x : α} (h : xs[i]? = some x) : ys[i]? = some x := by
  obtain ⟨t, rfl⟩ := p
  have hi := (List.getElem?_eq_some_iff.mp h).1
  rw [List.getElem?_append_left hi]; exact h

section
variable {K : PySem.W.Frag} {is is' : List Addr} {fz fz' : Addr → Prop} {H H' : Hp}
theorem Rep.mono (l : Le fz H is fz' H' is') {v : V} {d : D} (h : Rep K is fz H v d) : Rep K is' fz' H' v d := by
  have rd : ∀ {a : Addr} {u : HO}, fz a → Rd H a u → Rd H' a u := fun {a u} hz h => by unfold Rd at h ⊢; rw [l.hp a hz]; exact h
  refine Rep.rec (K := K) (is := is) (fz := fz) (H := H) (motive_1 := fun v d _ => Rep K is' fz' H' v d) (motive_2 := fun v d _ => RepA K is' fz' H' v d) (motive_3 := fun v d _ => RepK K is' fz' H' v d)
    .non .bl .int .str .ty .fn ?_ ?_ ?_ ?_ ?_ .nil ?_ .nil ?_ h
  · intro i a h; exact .obj (prefix_get l.ix h)
  · intro a vs ds h _ ih
    exact .tup (h.imp (fun z => ⟨l.up a z.1, by rw [l.hp a z.1]; exact z.2⟩) id) ih
  · intro a vs ds hz h _ ih
    exact .lst (l.up a hz) (by rw [l.hp a hz]; exact h) ih
  · intro a ns h
    exact .scr (h.imp (fun z => ⟨l.up a z.1, rd z.1 z.2⟩) id)
  · intro a ks kvs hz h _ ih
    exact .dct (l.up a hz) (rd hz h) ih
  · intro v vs d ds _ _ h1 h2; exact .cons h1 h2
  · intro k v ks d ds h0 _ _ h1 h2; exact .cons h0 h1 h2
theorem RepA.mono (l : Le fz H is fz' H' is') : ∀ {vs : List V} {ds : List D}, RepA K is fz H vs ds → RepA K is' fz' H' vs ds
  | _, _, .nil => .nil
  | _, _, .cons h t => .cons (h.mono l) (RepA.mono l t)
theorem RepK.mono (l : Le fz H is fz' H' is') : ∀ {vs : List (Key × V)} {ds : List (D × D)}, RepK K is fz H vs ds → RepK K is' fz' H' vs ds
  | _, _, .nil => .nil
  | _, _, .cons k h t => .cons k (h.mono l) (RepK.mono l t)
theorem RepA.length : ∀ {vs : List V} {ds : List D}, RepA K is fz H vs ds → vs.length = ds.length
  | _, _, .nil => rfl
  | _, _, .cons _ t => by simp [RepA.length t]
theorem RepK.length : ∀ {vs : List (Key × V)} {ds : List (D × D)}, RepK K is fz H vs ds → vs.length = ds.length
  | _, _, .nil => rfl
  | _, _, .cons _ _ t => by simp [RepK.length t]
theorem RepA.get : ∀ {vs : List V} {ds : List D} {i : Nat} {d : D}, RepA K is fz H vs ds → ds[i]? = some d → ∃ v, vs[i]? = some v ∧ Rep K is fz H v d
  | _, _, _, _, .nil, e => by simp at e
  | _, _, 0, _, .cons h _, e => by simp at e; subst e; exact ⟨_, rfl, h⟩
  | _, _, i + 1, _, .cons _ t, e => by
    obtain ⟨v, h1, h2⟩ := RepA.get (i := i) t (by simpa using e)
    exact ⟨v, by simpa using h1, h2⟩
theorem RepA.getV : ∀ {vs : List V} {ds : List D} {i : Nat} {v : V}, RepA K is fz H vs ds → vs[i]? = some v → ∃ d, ds[i]? = some d ∧ Rep K is fz H v d
  | _, _, _, _, .nil, e => by simp at e
  | _, _, 0, _, .cons h _, e => by simp at e; subst e; exact ⟨_, rfl, h⟩
  | _, _, i + 1, _, .cons _ t, e => by
    obtain ⟨v, h1, h2⟩ := RepA.getV (i := i) t (by simpa using e)
    exact ⟨v, by simpa using h1, h2⟩
theorem RepA.append : ∀ {vs us : List V} {ds es : List D}, RepA K is fz H vs ds → RepA K is fz H us es → RepA K is fz H (vs ++ us) (ds ++ es)
  | _, _, _, _, .nil, s => s
  | _, _, _, _, .cons r t, s => .cons r (RepA.append t s)
theorem RepA.set {v : V} {d : D} (r : Rep K is fz H v d) : ∀ {vs : List V} {ds : List D} (i : Nat), RepA K is fz H vs ds → RepA K is fz H (vs.set i v) (ds.set i d)
  | _, _, _, .nil => .nil
  | _, _, 0, .cons _ t => .cons r t
  | _, _, i + 1, .cons q t => .cons q (RepA.set r i t)
theorem RepA.take : ∀ {vs : List V} {ds : List D} (n : Nat), RepA K is fz H vs ds → RepA K is fz H (vs.take n) (ds.take n)
  | _, _, 0, _ => .nil
  | _, _, _ + 1, .nil => .nil
  | _, _, n + 1, .cons r t => .cons r (RepA.take n t)
theorem RepA.drop : ∀ {vs : List V} {ds : List D} (n : Nat), RepA K is fz H vs ds → RepA K is fz H (vs.drop n) (ds.drop n)
  | _, _, 0, r => r
  | _, _, _ + 1, .nil => .nil
  | _, _, n + 1, .cons _ t => RepA.drop n t
theorem RepA.dropLast : ∀ {vs : List V} {ds : List D}, RepA K is fz H vs ds → RepA K is fz H vs.dropLast ds.dropLast := fun {vs ds} r => by
  rw [List.dropLast_eq_take, List.dropLast_eq_take, r.length]; exact r.take _
end

/-! ### containers that a body owns -/
inductive C where
  | lst (xs : List D) | dct (kvs : List (D × D))
  deriving Inhabited
def C.d : C → D
  | .lst xs => .lst xs
  | .dct kvs => .dct kvs
def CAt (K : PySem.W.Frag) (is : List Addr) (fz : Addr → Prop) (H : Hp) (p : Addr) : C → Prop
  | .lst xs => ∃ vs, H p = some (.lst vs) ∧ RepA K is fz H vs xs
  | .dct kvs => ∃ ks, H p = some (.dK ks) ∧ RepK K is fz H ks kvs
inductive SD where
  | d (x : D) | own (c : C)
  deriving Inhabited
structure Sg where
  env : List (Option SD)
  st : List C
inductive RV where
  | d (x : D) | tmp (c : C) | own (i : Nat)
  deriving Inhabited
/-- an exception: its class's name, its fields -/
structure Ex where
  cls : String
  fs : List (Str × D)
inductive R (α : Type) where
  | stuck
  | ok (a : α) (g : Sg)
  | exc (e : Ex) (g : Sg)
abbrev ST (α : Type) := Sg → R α
def R.bind {α β : Type} : R α → (α → ST β) → R β
  | .stuck, _ => .stuck
  | .ok a g, f => f a g
  | .exc e g, _ => .exc e g
def ret {α : Type} (a : α) : ST α := fun g => .ok a g
def bnd {α β : Type} (m : ST α) (f : α → ST β) : ST β := fun g => (m g).bind f
def stop {α : Type} : ST α := fun _ => .stuck
@[simp] theorem bind_ok {α β : Type} (a : α) (g : Sg) (f : α → ST β) : (R.ok a g).bind f = f a g := rfl
@[simp] theorem bind_stuck {α β : Type} (f : α → ST β) : (R.stuck).bind f = .stuck := rfl
@[simp] theorem bind_exc {α β : Type} (e : Ex) (g : Sg) (f : α → ST β) : (R.exc e g).bind f = .exc e g := rfl

/-- the entry of the def at hand -/
structure En where
  K : PySem.W.Frag
  n : Nat
  H : Hp
  is : List Addr
  fz : Addr → Prop

structure Own (N : En) (fz : Addr → Prop) (is : List Addr) (p : Addr) : Prop where
  nf : ¬ fz p
  ni : p ∉ is
  new : N.H p = none
def SRep (N : En) (is : List Addr) (fz : Addr → Prop) (H : Hp) (v : V) : SD → Prop
  | .d x => Rep N.K is fz H v x
  | .own c => ∃ p, v = .ref p ∧ Own N fz is p ∧ CAt N.K is fz H p c
/-- slot i is an owned container's -/
def IsOwn (env : List (Option SD)) (i : Nat) : Prop := ∃ c, env[i]? = some (some (.own c))
structure SR (N : En) (σ : L2.St) (H : Hp) (g : Sg) (fz : Addr → Prop) (is : List Addr) : Prop where
  env : ∀ (i : Nat) (x : SD), g.env[i]? = some (some x) → ∃ v, σ[i]? = some (some v) ∧ SRep N is fz H v x
  dist : ∀ (i j : Nat) (p : Addr), IsOwn g.env i → IsOwn g.env j → σ[i]? = some (some (.ref p)) → σ[j]? = some (some (.ref p)) → i = j
  len : g.env.length = σ.length
  sz : σ.length = N.n
  dom : ∀ b, fz b → ∃ o, H b = some o
  stl : g.st.length = is.length
  st : ∀ (i : Nat) (c : C) (a : Addr), g.st[i]? = some c → is[i]? = some a → ¬ fz a ∧ CAt N.K is fz H a c
  nd : is.Nodup
  frame : ∀ b o, N.H b = some o → b ∉ N.is → H b = some o
  fzn : ∀ b, fz b → N.fz b ∨ N.H b = none
  fz0 : ∀ b, N.fz b → fz b
  isx : N.is <+: is
  isn : ∀ a ∈ is, a ∈ N.is ∨ N.H a = none
def RVRep (N : En) (σ : L2.St) (H : Hp) (g : Sg) (fz : Addr → Prop) (is : List Addr) (v : V) : RV → Prop
  | .d x => Rep N.K is fz H v x
  | .tmp c => ∃ p, v = .ref p ∧ Own N fz is p ∧ CAt N.K is fz H p c ∧ ∀ i, IsOwn g.env i → σ[i]? ≠ some (some (.ref p))
  | .own i => σ[i]? = some (some v) ∧ IsOwn g.env i
/-- how an exception lies -/
structure XM where
  cls : String → Option Addr
def ExRep (XMm : XM) (K : PySem.W.Frag) (is : List Addr) (fz : Addr → Prop) (H : Hp) (e : Ex) (cls : Value) (od : Option Addr) : Prop :=
  ∃ C d fs, XMm.cls e.cls = some C ∧ cls = .ref C ∧ od = some d ∧ H d = some (.xd fs) ∧ fs.map (·.1) = e.fs.map (·.1) ∧ RepA K is fz H (fs.map (·.2)) (e.fs.map (·.2))

def postE (N : En) (xm : XM) (W : WX) (σ : L2.St) (H : Hp) (fz : Addr → Prop) (is : List Addr) (Q : VK) : R RV → Prop
  | .stuck => False
  | .ok r g' => ∀ v H' fz' is', Le fz H is fz' H' is' → SR N σ H' g' fz' is' → RVRep N σ H' g' fz' is' v r → Q v H'
  | .exc e g' => ∀ cls od H' fz' is', Le fz H is fz' H' is' → SR N σ H' g' fz' is' → ExRep xm N.K is' fz' H' e cls od → W cls od σ H'
def lift (N : En) (xm : XM) (W : WX) (m : ST RV) : TE := fun σ H Q => ∃ g fz is, SR N σ H g fz is ∧ postE N xm W σ H fz is Q (m g)

theorem imp {X : Cx} {e : Expr} {t t' : TE} (h : PE X e t) (i : ∀ σ H Q, t' σ H Q → t σ H Q) : PE X e t' := ⟨fun pins s σ H Q I q => h.run pins s σ H Q I (i σ H Q q)⟩
end Mx

set_option Elab.async false
set_option linter.all false
set_option maxRecDepth 100000
/-! the state's steps: a new object, freezing, slots -/
namespace Mx
open PySem PySem.Spec PyProof.Rows L2

section
variable {K : PySem.W.Frag} {is is' : List Addr} {fz fz' : Addr → Prop} {H H' : Hp} {N : En} {σ : L2.St} {g : Sg} {p : Addr}

theorem CAt.mono (l : Le fz H is fz' H' is') {c : C} (h : CAt K is fz H p c) (e : H' p = H p) : CAt K is' fz' H' p c := by
  cases c with
  | lst xs => obtain ⟨vs, h1, h2⟩ := h; exact ⟨vs, e.trans h1, h2.mono l⟩
  | dct kvs => obtain ⟨vs, h1, h2⟩ := h; exact ⟨vs, e.trans h1, h2.mono l⟩
theorem CAt.some {c : C} (h : CAt K is fz H p c) : ∃ o, H p = some o := by
  cases c with
  | lst xs => obtain ⟨vs, h1, _⟩ := h; exact ⟨_, h1⟩
  | dct kvs => obtain ⟨vs, h1, _⟩ := h; exact ⟨_, h1⟩

theorem SR.isd (sr : SR N σ H g fz is) : ∀ a ∈ is, ∃ o, H a = some o := fun a ha => by
  obtain ⟨i, hi, e⟩ := List.getElem_of_mem ha
  have hl : i < g.st.length := by rw [sr.stl]; exact hi
  exact (sr.st i g.st[i] a (List.getElem?_eq_getElem hl) (by rw [List.getElem?_eq_getElem hi, e])).2.some
theorem SR.own_at (sr : SR N σ H g fz is) {i : Nat} {c : C} (h : g.env[i]? = some (some (.own c))) : ∃ p, σ[i]? = some (some (.ref p)) ∧ Own N fz is p ∧ CAt N.K is fz H p c := by
  obtain ⟨v, h1, p, rfl, h2, h3⟩ := sr.env i _ h
  exact ⟨p, h1, h2, h3⟩
/-- a free address is nobody's -/
structure Free (N : En) (σ : L2.St) (g : Sg) (fz : Addr → Prop) (is : List Addr) (p : Addr) : Prop where
  own : Own N fz is p
  ns : ∀ i, IsOwn g.env i → σ[i]? ≠ some (some (.ref p))
theorem SR.free (sr : SR N σ H g fz is) (h : H p = none) : Free N σ g fz is p := by
  have hi : p ∉ is := fun z => by obtain ⟨o, e⟩ := sr.isd p z; rw [h] at e; cases e
  refine ⟨⟨fun z => ?_, hi, ?_⟩, fun i ⟨c, hc⟩ z => ?_⟩
  · obtain ⟨o, e⟩ := sr.dom p z; rw [h] at e; cases e
  · cases q : N.H p with
    | none => rfl
    | some o =>
      have hn : p ∉ N.is := fun z => hi (sr.isx.subset z)
      have := sr.frame p o q hn
      rw [h] at this; cases this
  · obtain ⟨p', h1, _, h3⟩ := sr.own_at hc
    rw [z] at h1; cases h1
    obtain ⟨o, e⟩ := h3.some
    rw [h] at e; cases e

theorem Le.alloc {o : HO} (hp : ¬ fz p) : Le fz H is fz (upd H p o) is := ⟨fun _ h => h, fun b hb => upd_ne (fun e => hp (e ▸ hb)), List.prefix_refl _⟩
theorem Le.frz (q : Addr) : Le fz H is (fun b => fz b ∨ b = q) H is := ⟨fun _ h => .inl h, fun _ _ => rfl, List.prefix_refl _⟩

/-- the heap changes at p alone, which is nobody's -/
theorem SR.alter (sr : SR N σ H g fz is) (f : Free N σ g fz is p) (o : HO) : SR N σ (upd H p o) g fz is := by
  have l : Le fz H is fz (upd H p o) is := Le.alloc f.own.nf
  refine ⟨fun i x h => ?_, sr.dist, sr.len, sr.sz, fun b hb => ?_, sr.stl, fun i c a h1 h2 => ?_, sr.nd, fun b u h1 h2 => ?_, sr.fzn, sr.fz0, sr.isx, sr.isn⟩
  · obtain ⟨v, h1, h2⟩ := sr.env i x h
    refine ⟨v, h1, ?_⟩
    cases x with
    | d x => exact Rep.mono l h2
    | own c =>
      obtain ⟨q, rfl, h3, h4⟩ := h2
      refine ⟨q, rfl, h3, h4.mono l (upd_ne fun e => ?_)⟩
      subst e
      exact f.ns i ⟨c, h⟩ h1
  · obtain ⟨u, e⟩ := sr.dom b hb
    exact ⟨u, by rw [upd_ne (fun (z : b = p) => f.own.nf (z ▸ hb))]; exact e⟩
  · obtain ⟨h3, h4⟩ := sr.st i c a h1 h2
    exact ⟨h3, h4.mono l (upd_ne fun e => f.own.ni (e ▸ List.mem_of_getElem? h2))⟩
  · have := sr.frame b u h1 h2
    rw [upd_ne]; exact this
    rintro rfl
    rw [f.own.new] at h1; cases h1
/-- p is frozen -/
theorem SR.freeze (sr : SR N σ H g fz is) (f : Free N σ g fz is p) (ho : ∃ o, H p = some o) : SR N σ H g (fun b => fz b ∨ b = p) is := by
  have l : Le fz H is (fun b => fz b ∨ b = p) H is := Le.frz p
  refine ⟨fun i x h => ?_, sr.dist, sr.len, sr.sz, fun b hb => ?_, sr.stl, fun i c a h1 h2 => ?_, sr.nd, sr.frame, fun b hb => ?_, fun b hb => .inl (sr.fz0 b hb), sr.isx, sr.isn⟩
  · obtain ⟨v, h1, h2⟩ := sr.env i x h
    refine ⟨v, h1, ?_⟩
    cases x with
    | d x => exact Rep.mono l h2
    | own c =>
      obtain ⟨q, rfl, h3, h4⟩ := h2
      refine ⟨q, rfl, ⟨fun z => ?_, h3.ni, h3.new⟩, h4.mono l rfl⟩
      rcases z with z | rfl
      · exact h3.nf z
      · exact f.ns i ⟨c, h⟩ h1
  · rcases hb with hb | rfl
    · exact sr.dom b hb
    · exact ho
  · obtain ⟨h3, h4⟩ := sr.st i c a h1 h2
    refine ⟨fun z => ?_, h4.mono l rfl⟩
    rcases z with z | rfl
    · exact h3 z
    · exact f.own.ni (List.mem_of_getElem? h2)
  · rcases hb with hb | rfl
    · exact sr.fzn b hb
    · exact .inr f.own.new

theorem CAt.rep {c : C} (h : CAt K is fz H p c) (hz : fz p) : Rep K is fz H (.ref p) c.d := by
  cases c with
  | lst xs => obtain ⟨vs, h1, h2⟩ := h; exact .lst hz h1 h2
  | dct kvs => obtain ⟨vs, h1, h2⟩ := h; exact .dct hz (.inl h1) h2

/-- a slot takes plain data -/
theorem SR.setD (sr : SR N σ H g fz is) {i : Nat} {v : V} {x : D} (r : Rep N.K is fz H v x) (hi : i < σ.length) : SR N (σ.set i (some v)) H { g with env := g.env.set i (some (.d x)) } fz is := by
  have own' : ∀ j, IsOwn (g.env.set i (some (.d x))) j → j ≠ i ∧ IsOwn g.env j := fun j ⟨c, h⟩ => by
    by_cases e : j = i
    · subst e
      rw [List.getElem?_set_self (by rw [sr.len]; exact hi)] at h; cases h
    · rw [List.getElem?_set_ne (Ne.symm e)] at h
      exact ⟨e, c, h⟩
  refine ⟨fun j y h => ?_, fun j k q h1 h2 h3 h4 => ?_, by simp [sr.len], by simp [sr.sz], sr.dom, sr.stl, sr.st, sr.nd, sr.frame, sr.fzn, sr.fz0, sr.isx, sr.isn⟩
  · by_cases e : j = i
    · subst e
      rw [List.getElem?_set_self (by rw [sr.len]; exact hi)] at h; cases h
      exact ⟨v, List.getElem?_set_self hi, r⟩
    · rw [List.getElem?_set_ne (Ne.symm e)] at h
      obtain ⟨w, h1, h2⟩ := sr.env j y h
      exact ⟨w, by rw [List.getElem?_set_ne (Ne.symm e)]; exact h1, h2⟩
  · obtain ⟨e1, o1⟩ := own' j h1
    obtain ⟨e2, o2⟩ := own' k h2
    rw [List.getElem?_set_ne (Ne.symm e1)] at h3
    rw [List.getElem?_set_ne (Ne.symm e2)] at h4
    exact sr.dist j k q o1 o2 h3 h4
/-- a slot takes a container of its own -/
theorem SR.setO (sr : SR N σ H g fz is) {i : Nat} {c : C} (f : Free N σ g fz is p) (r : CAt N.K is fz H p c) (hi : i < σ.length) : SR N (σ.set i (some (.ref p))) H { g with env := g.env.set i (some (.own c)) } fz is := by
  have own' : ∀ j, IsOwn (g.env.set i (some (.own c))) j → j = i ∨ (j ≠ i ∧ IsOwn g.env j) := fun j ⟨c', h⟩ => by
    by_cases e : j = i
    · exact .inl e
    · rw [List.getElem?_set_ne (Ne.symm e)] at h
      exact .inr ⟨e, c', h⟩
  refine ⟨fun j y h => ?_, fun j k q h1 h2 h3 h4 => ?_, by simp [sr.len], by simp [sr.sz], sr.dom, sr.stl, sr.st, sr.nd, sr.frame, sr.fzn, sr.fz0, sr.isx, sr.isn⟩
  · by_cases e : j = i
    · subst e
      rw [List.getElem?_set_self (by rw [sr.len]; exact hi)] at h; cases h
      exact ⟨.ref p, List.getElem?_set_self hi, p, rfl, f.own, r⟩
    · rw [List.getElem?_set_ne (Ne.symm e)] at h
      obtain ⟨w, h1, h2⟩ := sr.env j y h
      exact ⟨w, by rw [List.getElem?_set_ne (Ne.symm e)]; exact h1, h2⟩
  · rcases own' j h1 with rfl | ⟨e1, o1⟩ <;> rcases own' k h2 with rfl | ⟨e2, o2⟩
    · rfl
    · rw [List.getElem?_set_self hi] at h3; cases h3
      rw [List.getElem?_set_ne (Ne.symm e2)] at h4
      exact absurd h4 (f.ns k o2)
    · rw [List.getElem?_set_self hi] at h4; cases h4
      rw [List.getElem?_set_ne (Ne.symm e1)] at h3
      exact absurd h3 (f.ns j o1)
    · rw [List.getElem?_set_ne (Ne.symm e1)] at h3
      rw [List.getElem?_set_ne (Ne.symm e2)] at h4
      exact sr.dist j k q o1 o2 h3 h4
/-- an own slot's container changes -/
theorem SR.change (sr : SR N σ H g fz is) {i : Nat} {c c' : C} (h : g.env[i]? = some (some (.own c))) (hp : σ[i]? = some (some (.ref p))) {o : HO} (r : CAt N.K is fz (upd H p o) p c') :
    SR N σ (upd H p o) { g with env := g.env.set i (some (.own c')) } fz is := by
  obtain ⟨q, h1, h2, h3⟩ := sr.own_at h
  rw [hp] at h1; cases h1
  have l : Le fz H is fz (upd H p o) is := Le.alloc h2.nf
  have hi : i < g.env.length := (List.getElem?_eq_some_iff.mp h).1
  have iso : ∀ j, IsOwn (g.env.set i (some (.own c'))) j → IsOwn g.env j := fun j ⟨d, hd⟩ => by
    by_cases e : j = i
    · subst e; exact ⟨c, h⟩
    · rw [List.getElem?_set_ne (Ne.symm e)] at hd; exact ⟨d, hd⟩
  refine ⟨fun j y hj => ?_, fun j k q a b => sr.dist j k q (iso j a) (iso k b), by simp [sr.len], sr.sz, fun b hb => ?_, sr.stl, fun j d a h1 h5 => ?_, sr.nd, fun b u h1 h5 => ?_, sr.fzn, sr.fz0, sr.isx, sr.isn⟩
  · by_cases e : j = i
    · subst e
      rw [List.getElem?_set_self hi] at hj; cases hj
      exact ⟨.ref p, hp, p, rfl, h2, r⟩
    · rw [List.getElem?_set_ne (Ne.symm e)] at hj
      obtain ⟨v, h4, h5⟩ := sr.env j y hj
      refine ⟨v, h4, ?_⟩
      cases y with
      | d y => exact Rep.mono l h5
      | own d =>
        obtain ⟨q, rfl, h6, h7⟩ := h5
        refine ⟨q, rfl, h6, h7.mono l (upd_ne fun z => ?_)⟩
        subst z
        exact e (sr.dist j i q ⟨d, hj⟩ ⟨c, h⟩ h4 hp)
  · obtain ⟨u, e⟩ := sr.dom b hb
    exact ⟨u, by rw [upd_ne (fun (z : b = p) => h2.nf (z ▸ hb))]; exact e⟩
  · obtain ⟨h6, h7⟩ := sr.st j d a h1 h5
    exact ⟨h6, h7.mono l (upd_ne fun e => h2.ni (e ▸ List.mem_of_getElem? h5))⟩
  · have := sr.frame b u h1 h5
    rw [upd_ne]; exact this
    rintro rfl
    rw [h2.new] at h1; cases h1
/-- an own slot is frozen -/
theorem SR.freezeSlot (sr : SR N σ H g fz is) {i : Nat} {c : C} (h : g.env[i]? = some (some (.own c))) (hp : σ[i]? = some (some (.ref p))) :
    SR N σ H { g with env := g.env.set i (some (.d c.d)) } (fun b => fz b ∨ b = p) is ∧ Rep N.K is (fun b => fz b ∨ b = p) H (.ref p) c.d := by
  obtain ⟨q, h1, h2, h3⟩ := sr.own_at h
  rw [hp] at h1; cases h1
  have l : Le fz H is (fun b => fz b ∨ b = p) H is := Le.frz p
  have hi : i < g.env.length := (List.getElem?_eq_some_iff.mp h).1
  have rp : Rep N.K is (fun b => fz b ∨ b = p) H (.ref p) c.d := (h3.mono l rfl).rep (.inr rfl)
  have iso : ∀ j, IsOwn (g.env.set i (some (.d c.d))) j → j ≠ i ∧ IsOwn g.env j := fun j ⟨d, hd⟩ => by
    by_cases e : j = i
    · subst e; rw [List.getElem?_set_self hi] at hd; cases hd
    · rw [List.getElem?_set_ne (Ne.symm e)] at hd; exact ⟨e, d, hd⟩
  refine ⟨⟨fun j y hj => ?_, fun j k q a b => sr.dist j k q (iso j a).2 (iso k b).2, by simp [sr.len], sr.sz, fun b hb => ?_, sr.stl, fun j d a h1 h5 => ?_, sr.nd, sr.frame, fun b hb => ?_, fun b hb => .inl (sr.fz0 b hb), sr.isx, sr.isn⟩, rp⟩
  · by_cases e : j = i
    · subst e
      rw [List.getElem?_set_self hi] at hj; cases hj
      exact ⟨.ref p, hp, rp⟩
    · rw [List.getElem?_set_ne (Ne.symm e)] at hj
      obtain ⟨v, h4, h5⟩ := sr.env j y hj
      refine ⟨v, h4, ?_⟩
      cases y with
      | d y => exact Rep.mono l h5
      | own d =>
        obtain ⟨q, rfl, h6, h7⟩ := h5
        refine ⟨q, rfl, ⟨fun z => ?_, h6.ni, h6.new⟩, h7.mono l rfl⟩
        rcases z with z | rfl
        · exact h6.nf z
        · exact e (sr.dist j i q ⟨d, hj⟩ ⟨c, h⟩ h4 hp)
  · rcases hb with hb | rfl
    · exact sr.dom b hb
    · exact h3.some
  · obtain ⟨h6, h7⟩ := sr.st j d a h1 h5
    refine ⟨fun z => ?_, h7.mono l rfl⟩
    rcases z with z | rfl
    · exact h6 z
    · exact h2.ni (List.mem_of_getElem? h5)
  · rcases hb with hb | rfl
    · exact sr.fzn b hb
    · exact .inr h2.new
end

/-! ### values settled -/
def toD : RV → ST D
  | .d x => ret x
  | .tmp c => ret c.d
  | .own i => fun g => match g.env[i]? with
    | some (some (.own c)) => .ok c.d { g with env := g.env.set i (some (.d c.d)) }
    | _ => .stuck
/-- a new container is frozen, an own one stays as it is -/
def frz : RV → RV
  | .tmp c => .d c.d
  | r => r
/-- what a shared container holds now; other data as it is -/
def look (x : D) (g : Sg) : Option D := match x with
  | .obj i => match g.st[i]? with
    | some c => some c.d
    | none => none
  | x => some x
def peek (r : RV) (g : Sg) : Option D := match r with
  | .d x => look x g
  | .tmp c => some c.d
  | .own i => match g.env[i]? with
    | some (some (.own c)) => some c.d
    | _ => none
/-- data whose own object may change yet -/
def PRep (K : PySem.W.Frag) (is : List Addr) (fz : Addr → Prop) (H : Hp) (v : V) (x : D) : Prop :=
  Rep K is fz H v x ∨ ∃ p c, v = .ref p ∧ x = C.d c ∧ CAt K is fz H p c

section
variable {is is' : List Addr} {fz fz' : Addr → Prop} {H H' : Hp} {N : En} {σ : L2.St} {g g' : Sg} {v : V}
/-- what frz leaves -/
theorem frz_ok (sr : SR N σ H g fz is) {r : RV} (h : RVRep N σ H g fz is v r) : ∃ fz', Le fz H is fz' H is ∧ SR N σ H g fz' is ∧ RVRep N σ H g fz' is v (frz r) ∧ ∀ c, frz r ≠ .tmp c := by
  cases r with
  | d x => exact ⟨fz, .refl, sr, h, fun c e => by cases e⟩
  | own i => exact ⟨fz, .refl, sr, h, fun c e => by cases e⟩
  | tmp c =>
    obtain ⟨p, rfl, h1, h2, h3⟩ := h
    exact ⟨_, Le.frz p, sr.freeze ⟨h1, h3⟩ h2.some, (h2.mono (Le.frz p) rfl).rep (.inr rfl), fun c e => by cases e⟩
theorem Rep.look {x y : D} (h : Rep N.K is fz H v x) (sr : SR N σ H g fz is) (e : look x g = some y) : PRep N.K is fz H v y := by
  unfold Mx.look at e
  split at e
  · rename_i i
    split at e
    · rename_i c hc
      cases e
      cases h with
      | @obj _ a hi => exact .inr ⟨a, c, rfl, rfl, (sr.st i c a hc hi).2⟩
    · cases e
  · cases e; exact .inl h
/-- a settled value later -/
theorem RVRep.later (l : Le fz H is fz' H' is') {r : RV} (h : RVRep N σ H g fz is v r) (hr : ∀ c, r ≠ .tmp c) {x : D} (hx : peek r g' = some x) (sr : SR N σ H' g' fz' is') : PRep N.K is' fz' H' v x := by
  cases r with
  | d y => exact Rep.look (Rep.mono l h) sr hx
  | tmp c => exact absurd rfl (hr c)
  | own i =>
    simp only [peek] at hx
    split at hx
    · rename_i c hc
      cases hx
      obtain ⟨h1, _⟩ := h
      obtain ⟨p, h2, h3, h4⟩ := sr.own_at hc
      rw [h1] at h2; cases h2
      exact .inr ⟨p, c, rfl, rfl, h4⟩
    · cases hx
theorem toD_ok (sr : SR N σ H g fz is) {r : RV} (h : RVRep N σ H g fz is v r) {x : D} {g' : Sg} (e : toD r g = .ok x g') : ∃ fz', Le fz H is fz' H is ∧ SR N σ H g' fz' is ∧ Rep N.K is fz' H v x := by
  cases r with
  | d y => cases e; exact ⟨fz, .refl, sr, h⟩
  | tmp c =>
    cases e
    obtain ⟨p, rfl, h1, h2, h3⟩ := h
    exact ⟨_, Le.frz p, sr.freeze ⟨h1, h3⟩ h2.some, (h2.mono (Le.frz p) rfl).rep (.inr rfl)⟩
  | own i =>
    simp only [toD] at e
    split at e
    · rename_i c hc
      cases e
      obtain ⟨h1, _⟩ := h
      obtain ⟨p, h2, h3, h4⟩ := sr.own_at hc
      rw [h1] at h2; cases h2
      have := sr.freezeSlot hc h1
      exact ⟨_, Le.frz p, this.1, this.2⟩
    · cases e
end
end Mx

set_option Elab.async false
set_option linter.all false
set_option maxRecDepth 100000
/-! expressions -/
namespace Mx
open PySem PySem.Spec PyProof.Rows L2

/-- what the context of a body gives -/
structure MC (X : Cx) (N : En) (W : WX) : Prop where
  hK : N.K = X.K
  nd : X.N.Nodup
  calm : X.calm = true
  un : X.A.units + 65 < cLine
  tk : Takes X W

/-- an operation's result -/
inductive RN where
  | d (x : D) | new (c : C)
def RN.rv : RN → RV
  | .d x => .d x
  | .new c => .tmp c
inductive Grow (fz : Addr → Prop) (H : Hp) : (Addr → Prop) → Hp → Prop
  | same : Grow fz H fz H
  | new (p : Addr) (o : HO) : H p = none → Grow fz H (fun b => fz b ∨ b = p) (upd H p o)
def Fin (K : PySem.W.Frag) (is : List Addr) (fz : Addr → Prop) (H : Hp) (Q : VK) : RN → Prop
  | .d z => ∀ v fz' H', Grow fz H fz' H' → Rep K is fz' H' v z → Q v H'
  | .new c => ∀ p o, H p = none → CAt K is fz (upd H p o) p c → Q (.ref p) (upd H p o)

section
variable {N : En} {xm : XM} {W : WX} {σ : L2.St} {H H1 : Hp} {g : Sg} {fz fz1 : Addr → Prop} {is is1 : List Addr} {Q : VK} {v : V}
theorem Grow.le (sr : SR N σ H g fz is) {fz' : Addr → Prop} {H' : Hp} (gr : Grow fz H fz' H') : Le fz H is fz' H' is := by
  cases gr with
  | same => exact .refl
  | new p o h =>
    have f := sr.free h
    exact (Le.alloc f.own.nf).trans (Le.frz p)
theorem Grow.sr (sr : SR N σ H g fz is) {fz' : Addr → Prop} {H' : Hp} (gr : Grow fz H fz' H') : SR N σ H' g fz' is := by
  cases gr with
  | same => exact sr
  | new p o h =>
    have f := sr.free h
    exact (sr.alter f o).freeze f ⟨_, upd_same⟩
theorem Grow.dom {fz' : Addr → Prop} {H' : Hp} (d : ∀ b, fz b → ∃ o, H b = some o) (gr : Grow fz H fz' H') : ∀ b, fz' b → ∃ o, H' b = some o := by
  cases gr with
  | same => exact d
  | new p o h =>
    intro b hb
    by_cases e : b = p
    · subst e; exact ⟨_, upd_same⟩
    · rcases hb with hb | hb
      · obtain ⟨u, q⟩ := d b hb; exact ⟨u, by rw [upd_ne e]; exact q⟩
      · exact absurd hb e
theorem postE.later (l : Le fz H is fz1 H1 is1) {x : R RV} (h : postE N xm W σ H fz is Q x) : postE N xm W σ H1 fz1 is1 Q x := by
  cases x with
  | stuck => exact h
  | ok r g' => exact fun v H' fz' is' l' => h v H' fz' is' (l.trans l')
  | exc e g' => exact fun cls od H' fz' is' l' => h cls od H' fz' is' (l.trans l')
theorem lift_of {m : ST RV} (sr : SR N σ H g fz is) (h : postE N xm W σ H fz is Q (m g)) : lift N xm W m σ H Q := ⟨g, fz, is, sr, h⟩
/-- a part is evaluated, then the rest -/
theorem step {m : ST RV} {f : RV → ST RV} {Q' : VK} (sr : SR N σ H g fz is) (h : postE N xm W σ H fz is Q ((m g).bind f))
    (k : ∀ r g1 v H1 fz1 is1, Le fz H is fz1 H1 is1 → SR N σ H1 g1 fz1 is1 → RVRep N σ H1 g1 fz1 is1 v r → postE N xm W σ H1 fz1 is1 Q (f r g1) → Q' v H1) : lift N xm W m σ H Q' := by
  refine ⟨g, fz, is, sr, ?_⟩
  cases e : m g with
  | stuck => rw [e] at h; exact h
  | exc x g' => rw [e] at h; exact h
  | ok r g1 =>
    rw [e] at h
    intro v H1 fz1 is1 l sr1 rep
    exact k r g1 v H1 fz1 is1 l sr1 rep (postE.later l h)
theorem fin_ok (sr : SR N σ H g fz is) {rn : RN} (h : postE N xm W σ H fz is Q (.ok rn.rv g)) : Fin N.K is fz H Q rn := by
  cases rn with
  | d z => exact fun v fz' H' gr rep => h v H' fz' is (gr.le sr) (gr.sr sr) rep
  | new c =>
    intro p o hp hc
    have f := sr.free hp
    exact h (.ref p) _ fz is (Le.alloc f.own.nf) (sr.alter f o) ⟨p, rfl, f.own, hc, f.ns⟩
/-- the end of an evaluation -/
theorem fin_d (sr : SR N σ H g fz is) {z : D} (h : postE N xm W σ H fz is Q (.ok (.d z) g)) (r : Rep N.K is fz H v z) : Q v H := h v H fz is .refl sr r
end

/-! ### names and constants -/
def mVar (i : Nat) : ST RV := fun g => match g.env[i]? with
  | some (some (.d x)) => .ok (.d x) g
  | some (some (.own _)) => .ok (.own i) g
  | _ => .stuck
def mD (d : D) : ST RV := ret (.d d)
section
variable {X : Cx} {N : En} {xm : XM} {W : WX}
theorem e_var (c : MC X N W) (i : Nat) {x : Str} {pos : Pos} (h : PE X (.Name x pos) (tVar i)) : PE X (.Name x pos) (lift N xm W (mVar i)) := by
  refine imp h fun σ H Q ⟨g, fz, is, sr, h⟩ => ?_
  simp only [mVar] at h
  split at h
  · rename_i y hy
    obtain ⟨v, h1, h2⟩ := sr.env i _ hy
    exact ⟨v, h1, h v H fz is .refl sr h2⟩
  · rename_i y hy
    obtain ⟨p, h1, h2, h3⟩ := sr.own_at hy
    exact ⟨.ref p, h1, h _ H fz is .refl sr ⟨h1, y, hy⟩⟩
  · exact h.elim
theorem e_c {e : Expr} {v : V} {z : D} (c : MC X N W) (h : PE X e (tC v)) (r : ∀ is fz H, Rep X.K is fz H v z) : PE X e (lift N xm W (mD z)) := by
  refine imp h fun σ H Q ⟨g, fz, is, sr, h⟩ => ?_
  exact h v H fz is .refl sr (by show Rep N.K is fz H v z; rw [c.hK]; exact r is fz H)
theorem e_int {i j pos} (c : MC X N W) : PE X (.Constant (.int i) j pos) (lift N xm W (mD (.int i))) := e_c c pe_int fun _ _ _ => .int i
theorem e_bl {b j pos} (c : MC X N W) : PE X (.Constant (.bool b) j pos) (lift N xm W (mD (.bl b))) := e_c c pe_bl fun _ _ _ => .bl b
theorem e_non {j pos} (c : MC X N W) : PE X (.Constant .none j pos) (lift N xm W (mD .non)) := e_c c pe_non fun _ _ _ => .non
theorem e_str {x j pos} (c : MC X N W) (h : okS x = true := by decide +kernel) (hl : (decide (x.length ≤ sizeLine)) = true := by decide +kernel) : PE X (.Constant (.str x) j pos) (lift N xm W (mD (.str x))) := e_c c pe_str fun _ _ _ => .str x ⟨h, of_decide_eq_true hl⟩
/-- a module's constant -/
theorem e_glob {x : Str} {v : V} {u : Value} {z : D} {pos : Pos} (c : MC X N W) (hg : Gl X x) (hm : X.mg x = some u) (r : RelV v u) (rz : ∀ is fz H, Rep X.K is fz H v z) (hd : (x == ("__debug__" : Str)) = false := by decide) :
    PE X (.Name x pos) (lift N xm W (mD z)) := e_c c (pe_glob hg hm r hd) rz

/-! ### two operands -/
def opt (o : Option RN) : ST RV := fun g => match o with
  | some r => .ok r.rv g
  | none => .stuck
def pk2 (f : D → D → Option RN) (a b : RV) (g : Sg) : Option RN := match peek a g, peek b g with
  | some x, some y => f x y
  | _, _ => none
def mBin (f : D → D → Option RN) (ma mb : ST RV) : ST RV := bnd ma fun a => bnd mb fun b => fun g => opt (pk2 f (frz a) (frz b) g) g
/-- an operation by values does what f says of the data -/
def OpF (K : PySem.W.Frag) (r : R2) (f : D → D → Option RN) : Prop := ∀ is fz H v w x y rn Q, (∀ b, fz b → ∃ o, H b = some o) → PRep K is fz H v x → PRep K is fz H w y → f x y = some rn → Fin K is fz H Q rn → r v w H Q
theorem bin_tOp {r : R2} {f : D → D → Option RN} {ma mb : ST RV} (c : MC X N W) (hf : OpF X.K r f) {σ : L2.St} {H : Hp} {Q : VK} (h : lift N xm W (mBin f ma mb) σ H Q) : tOp r (lift N xm W ma) (lift N xm W mb) σ H Q := by
  obtain ⟨g, fz, is, sr, h⟩ := h
  refine step sr h fun ra g1 v H1 fz1 is1 l1 sr1 rep1 h1 => ?_
  obtain ⟨fz1', l1', sr1', rep1', nt1⟩ := frz_ok sr1 rep1
  have h1 := h1.later l1'
  refine step sr1' h1 fun rb g2 w H2 fz2 is2 l2 sr2 rep2 h2 => ?_
  obtain ⟨fz2', l2', sr2', rep2', nt2⟩ := frz_ok sr2 rep2
  have h2 := h2.later l2'
  simp only [opt, pk2] at h2
  split at h2
  · rename_i rn hrn
    split at hrn
    · rename_i x y hx hy
      have px := RVRep.later (l2.trans l2') rep1' nt1 hx sr2'
      have py := RVRep.later .refl rep2' nt2 hy sr2'
      rw [c.hK] at px py
      have fin := fin_ok sr2' h2
      rw [c.hK] at fin
      exact hf is2 fz2' H2 v w x y rn Q sr2'.dom px py hrn fin
    · cases hrn
  · exact h2.elim
theorem e_bin {a b : Expr} {pos : Pos} {op : Operator} {r : R2} {f : D → D → Option RN} {ma mb : ST RV} (c : MC X N W) (ho : OpR X (binaryOp op) r) (hf : OpF X.K r f) (ha : PE X a (lift N xm W ma)) (hb : PE X b (lift N xm W mb)) :
    PE X (.BinOp a op b pos) (lift N xm W (mBin f ma mb)) := imp (pe_op ho ha hb) fun _ _ _ h => bin_tOp c hf h
theorem e_cmp {a b : Expr} {pos : Pos} {op : CmpOp} {r : R2} {f : D → D → Option RN} {ma mb : ST RV} (c : MC X N W) (ho : OpR X (compareOp op) r) (hf : OpF X.K r f) (ha : PE X a (lift N xm W ma)) (hb : PE X b (lift N xm W mb)) (hm : behindInMarks op b = false) :
    PE X (.Compare a [op] [b] pos) (lift N xm W (mBin f ma mb)) := imp (pe_cmpR ho ha hb hm) fun _ _ _ h => bin_tOp c hf h
theorem e_ix {a b : Expr} {pos : Pos} {r : R2} {f : D → D → Option RN} {ma mb : ST RV} (c : MC X N W) (ho : IxR X r) (hf : OpF X.K r f) (ha : PE X a (lift N xm W ma)) (hb : PE X b (lift N xm W mb)) (hs : PlainIx b) :
    PE X (.Subscript a b pos) (lift N xm W (mBin f ma mb)) := imp (pe_ix ho ha hb hs) fun _ _ _ h => bin_tOp c hf h

/-! ### tests -/
def postB (N : En) (xm : XM) (W : WX) (σ : L2.St) (H : Hp) (fz : Addr → Prop) (is : List Addr) (Q : Bool → Hp → Prop) : R Bool → Prop
  | .stuck => False
  | .ok r g' => ∀ H' fz' is', Le fz H is fz' H' is' → SR N σ H' g' fz' is' → Q r H'
  | .exc e g' => ∀ cls od H' fz' is', Le fz H is fz' H' is' → SR N σ H' g' fz' is' → ExRep xm N.K is' fz' H' e cls od → W cls od σ H'
def liftB (N : En) (xm : XM) (W : WX) (m : ST Bool) : TT := fun σ H Q => ∃ g fz is, SR N σ H g fz is ∧ postB N xm W σ H fz is Q (m g)
theorem impT {e : Expr} {t t' : TT} (h : PT X e t) (i : ∀ σ H Q, t' σ H Q → t σ H Q) : PT X e t' := ⟨fun pins s σ H Q I q => h.run pins s σ H Q I (i σ H Q q)⟩
theorem impW {e : Expr} {t t' : TT} (h : PW X e t) (i : ∀ σ H Q, t' σ H Q → t σ H Q) : PW X e t' := ⟨fun wh pins s σ H Q I q => h.run wh pins s σ H Q I (i σ H Q q)⟩
/-- a truth value that is known -/
def asB (r : RV) : ST Bool := fun g => match r with
  | .d (.bl b) => .ok b g
  | _ => .stuck
def mTest (m : ST RV) : ST Bool := bnd m asB
theorem postB.later {σ : L2.St} {H H1 : Hp} {fz fz1 : Addr → Prop} {is is1 : List Addr} {Q : Bool → Hp → Prop} (l : Le fz H is fz1 H1 is1) {x : R Bool} (h : postB N xm W σ H fz is Q x) : postB N xm W σ H1 fz1 is1 Q x := by
  cases x with
  | stuck => exact h
  | ok r g' => exact fun H' fz' is' l' => h H' fz' is' (l.trans l')
  | exc e g' => exact fun cls od H' fz' is' l' => h cls od H' fz' is' (l.trans l')
/-- from a value to a test -/
theorem stepB {m : ST RV} {f : RV → ST Bool} {Q : Bool → Hp → Prop} {Q' : VK} {σ : L2.St} {H : Hp} {g : Sg} {fz : Addr → Prop} {is : List Addr} (sr : SR N σ H g fz is) (h : postB N xm W σ H fz is Q ((m g).bind f))
    (k : ∀ r g1 v H1 fz1 is1, Le fz H is fz1 H1 is1 → SR N σ H1 g1 fz1 is1 → RVRep N σ H1 g1 fz1 is1 v r → postB N xm W σ H1 fz1 is1 Q (f r g1) → Q' v H1) : lift N xm W m σ H Q' := by
  refine ⟨g, fz, is, sr, ?_⟩
  cases e : m g with
  | stuck => rw [e] at h; exact h
  | exc x g' => rw [e] at h; exact h
  | ok r g1 =>
    rw [e] at h
    intro v H1 fz1 is1 l sr1 rep
    exact k r g1 v H1 fz1 is1 l sr1 rep (postB.later l h)
/-- from a test to a test -/
theorem stepT {m : ST Bool} {f : Bool → ST Bool} {Q Q' : Bool → Hp → Prop} {σ : L2.St} {H : Hp} {g : Sg} {fz : Addr → Prop} {is : List Addr} (sr : SR N σ H g fz is) (h : postB N xm W σ H fz is Q ((m g).bind f))
    (k : ∀ r g1 H1 fz1 is1, SR N σ H1 g1 fz1 is1 → postB N xm W σ H1 fz1 is1 Q (f r g1) → Q' r H1) : liftB N xm W m σ H Q' := by
  refine ⟨g, fz, is, sr, ?_⟩
  cases e : m g with
  | stuck => rw [e] at h; exact h
  | exc x g' => rw [e] at h; exact h
  | ok r g1 =>
    rw [e] at h
    intro H1 fz1 is1 l sr1
    exact k r g1 H1 fz1 is1 sr1 (postB.later l h)
/-- from a test to a value -/
theorem stepV {m : ST Bool} {f : Bool → ST RV} {Q : VK} {Q' : Bool → Hp → Prop} {σ : L2.St} {H : Hp} {g : Sg} {fz : Addr → Prop} {is : List Addr} (sr : SR N σ H g fz is) (h : postE N xm W σ H fz is Q ((m g).bind f))
    (k : ∀ r g1 H1 fz1 is1, SR N σ H1 g1 fz1 is1 → postE N xm W σ H1 fz1 is1 Q (f r g1) → Q' r H1) : liftB N xm W m σ H Q' := by
  refine ⟨g, fz, is, sr, ?_⟩
  cases e : m g with
  | stuck => rw [e] at h; exact h
  | exc x g' => rw [e] at h; exact h
  | ok r g1 =>
    rw [e] at h
    intro H1 fz1 is1 l sr1
    exact k r g1 H1 fz1 is1 sr1 (postE.later l h)
theorem asB_ok {r : RV} {g : Sg} {Q : Bool → Hp → Prop} {σ : L2.St} {H : Hp} {fz : Addr → Prop} {is : List Addr} {v : V} (sr : SR N σ H g fz is) (rep : RVRep N σ H g fz is v r) (h : postB N xm W σ H fz is Q (asB r g)) : ∃ b, v = .bl b ∧ Q b H := by
  simp only [asB] at h
  split at h
  · rename_i b
    cases (show Rep N.K is fz H v (.bl b) from rep)
    exact ⟨b, rfl, h H fz is .refl sr⟩
  · exact h.elim
/-- a comparison as a test -/
theorem t_cmp {a b : Expr} {pos : Pos} {op : CmpOp} {r : R2} {f : D → D → Option RN} {ma mb : ST RV} (c : MC X N W) (ho : OpR X (compareOp op) r) (hf : OpF X.K r f) (ha : PE X a (lift N xm W ma)) (hb : PE X b (lift N xm W mb)) (hm : behindInMarks op b = false) :
    PT X (.Compare a [op] [b] pos) (liftB N xm W (mTest (mBin f ma mb))) := by
  refine impT (pt_cmpR ho ha hb hm) fun σ H Q ⟨g, fz, is, sr, h⟩ => ?_
  have h' : lift N xm W (mBin f ma mb) σ H (fun x H' => ∃ k, x = .bl k ∧ Q k H') := stepB sr h fun r g1 v H1 fz1 is1 _ sr1 rep1 h1 => asB_ok sr1 rep1 h1
  exact bin_tOp c hf h'
/-- any expression that gives a bool, as a test -/
theorem t_val {e : Expr} {m : ST RV} (h : PE X e (lift N xm W m)) (he : ∀ whole, isTrue e X.env whole = (do let v ← whole; standAt e.pos; holding [v] (truthy v)) := by intro _; rfl) : PT X e (liftB N xm W (mTest m)) := by
  refine impT (pt_val h he) fun σ H Q ⟨g, fz, is, sr, h⟩ => ?_
  exact stepB sr h fun r g1 v H1 fz1 is1 _ sr1 rep1 h1 => asB_ok sr1 rep1 h1
def mNot (m : ST Bool) : ST Bool := bnd m fun b => ret (!b)
def mAnd (m n : ST Bool) : ST Bool := bnd m fun b => if b = true then n else ret false
def mOr (m n : ST Bool) : ST Bool := bnd m fun b => if b = true then ret true else n
def mIf {α : Type} (t : ST Bool) (m n : ST α) : ST α := bnd t fun b => if b = true then m else n
theorem t_not {a : Expr} {pos : Pos} {m : ST Bool} (ha : PT X a (liftB N xm W m)) : PT X (.UnaryOp .Not a pos) (liftB N xm W (mNot m)) :=
  impT (pt_not ha) fun σ H Q ⟨g, fz, is, sr, h⟩ => stepT sr h fun r g1 H1 fz1 is1 sr1 h1 => h1 H1 fz1 is1 .refl sr1
theorem w_and1 {a : Expr} {pos : Pos} {m : ST Bool} (ha : PT X a (liftB N xm W m)) : PW X (.BoolOp .And [a] pos) (liftB N xm W m) := pw_and1 ha
theorem w_or1 {a : Expr} {pos : Pos} {m : ST Bool} (ha : PT X a (liftB N xm W m)) : PW X (.BoolOp .Or [a] pos) (liftB N xm W m) := pw_or1 ha
theorem w_and {a b : Expr} {rest : List Expr} {pos : Pos} {m n : ST Bool} (ha : PT X a (liftB N xm W m)) (hb : PW X (.BoolOp .And (b :: rest) pos) (liftB N xm W n)) : PW X (.BoolOp .And (a :: b :: rest) pos) (liftB N xm W (mAnd m n)) := by
  refine impW (pw_and ha hb) fun σ H Q ⟨g, fz, is, sr, h⟩ => stepT sr h fun r g1 H1 fz1 is1 sr1 h1 => ?_
  cases r with
  | true => exact iteT ⟨g1, fz1, is1, sr1, h1⟩
  | false => exact iteF (h1 H1 fz1 is1 .refl sr1)
theorem w_or {a b : Expr} {rest : List Expr} {pos : Pos} {m n : ST Bool} (ha : PT X a (liftB N xm W m)) (hb : PW X (.BoolOp .Or (b :: rest) pos) (liftB N xm W n)) : PW X (.BoolOp .Or (a :: b :: rest) pos) (liftB N xm W (mOr m n)) := by
  refine impW (pw_or ha hb) fun σ H Q ⟨g, fz, is, sr, h⟩ => stepT sr h fun r g1 H1 fz1 is1 sr1 h1 => ?_
  cases r with
  | true => exact iteT (h1 H1 fz1 is1 .refl sr1)
  | false => exact iteF ⟨g1, fz1, is1, sr1, h1⟩
theorem e_if {a b t : Expr} {pos : Pos} {m n : ST RV} {mt : ST Bool} (ht : PT X t (liftB N xm W mt)) (ha : PE X a (lift N xm W m)) (hb : PE X b (lift N xm W n)) : PE X (.IfExp t a b pos) (lift N xm W (mIf mt m n)) := by
  refine imp (pe_ifExp ht ha hb) fun σ H Q ⟨g, fz, is, sr, h⟩ => stepV sr h fun r g1 H1 fz1 is1 sr1 h1 => ?_
  cases r with
  | true => exact iteT ⟨g1, fz1, is1, sr1, h1⟩
  | false => exact iteF ⟨g1, fz1, is1, sr1, h1⟩
/-! as values: all operands bools -/
def ofB (m : ST Bool) : ST RV := bnd m fun b => ret (.d (.bl b))
def mAndV (m n : ST RV) : ST RV := bnd m fun r => bnd (asB r) fun b => if b = true then n else ret (.d (.bl false))
def mOrV (m n : ST RV) : ST RV := bnd m fun r => bnd (asB r) fun b => if b = true then ret (.d (.bl true)) else n
def mNotV (m : ST RV) : ST RV := bnd m fun r => bnd (asB r) fun b => ret (.d (.bl (!b)))
theorem asB_v {r : RV} {g : Sg} {f : Bool → ST RV} {Q : VK} {σ : L2.St} {H : Hp} {fz : Addr → Prop} {is : List Addr} {v : V} (rep : RVRep N σ H g fz is v r) (h : postE N xm W σ H fz is Q ((asB r g).bind f)) :
    ∃ b, v = .bl b ∧ postE N xm W σ H fz is Q (f b g) := by
  simp only [asB] at h
  split at h
  · rename_i b
    cases (show Rep N.K is fz H v (.bl b) from rep)
    exact ⟨b, rfl, h⟩
  · exact h.elim
theorem v_one {op} {a : Expr} {pos : Pos} {t : TE} (h : PE X a t) : PE X (.BoolOp op [a] pos) t := pe_one h
theorem v_and {a b : Expr} {rest : List Expr} {pos : Pos} {m n : ST RV} (ha : PE X a (lift N xm W m)) (hb : PE X (.BoolOp .And (b :: rest) pos) (lift N xm W n)) : PE X (.BoolOp .And (a :: b :: rest) pos) (lift N xm W (mAndV m n)) := by
  refine imp (pe_and ha hb) fun σ H Q ⟨g, fz, is, sr, h⟩ => step sr h fun r g1 v H1 fz1 is1 l sr1 rep h1 => ?_
  obtain ⟨b, rfl, h2⟩ := asB_v rep h1
  refine ⟨b, rfl, ?_⟩
  cases b with
  | true => exact iteT ⟨g1, fz1, is1, sr1, h2⟩
  | false => exact iteF (h2 _ H1 fz1 is1 .refl sr1 (.bl false))
theorem v_or {a b : Expr} {rest : List Expr} {pos : Pos} {m n : ST RV} (ha : PE X a (lift N xm W m)) (hb : PE X (.BoolOp .Or (b :: rest) pos) (lift N xm W n)) : PE X (.BoolOp .Or (a :: b :: rest) pos) (lift N xm W (mOrV m n)) := by
  refine imp (pe_or ha hb) fun σ H Q ⟨g, fz, is, sr, h⟩ => step sr h fun r g1 v H1 fz1 is1 l sr1 rep h1 => ?_
  obtain ⟨b, rfl, h2⟩ := asB_v rep h1
  refine ⟨b, rfl, ?_⟩
  cases b with
  | true => exact iteT (h2 _ H1 fz1 is1 .refl sr1 (.bl true))
  | false => exact iteF ⟨g1, fz1, is1, sr1, h2⟩
theorem v_not {a : Expr} {pos : Pos} {m : ST RV} (ha : PE X a (lift N xm W m)) : PE X (.UnaryOp .Not a pos) (lift N xm W (mNotV m)) := by
  refine imp (pe_not ha) fun σ H Q ⟨g, fz, is, sr, h⟩ => step sr h fun r g1 v H1 fz1 is1 l sr1 rep h1 => ?_
  obtain ⟨b, rfl, h2⟩ := asB_v rep h1
  exact ⟨b, rfl, h2 _ H1 fz1 is1 .refl sr1 (.bl _)⟩
/-- a op1 b op2 c -/
def mChain (f f' : D → D → Option RN) (ma mb mc : ST RV) : ST RV := bnd ma fun a => bnd mb fun b => fun g =>
  (opt (pk2 f (frz a) (frz b) g) g).bind fun r => bnd (asB r) fun k => if k = true then bnd mc fun z => fun g => opt (pk2 f' (frz b) (frz z) g) g else ret (.d (.bl false))
theorem chain_ok {r r' : R2} {f f' : D → D → Option RN} {ma mb mc : ST RV} (c : MC X N W) (hf : OpF X.K r f) (hf' : OpF X.K r' f') {σ : L2.St} {H : Hp} {Q : VK} (h : lift N xm W (mChain f f' ma mb mc) σ H Q) :
    tChain r r' (lift N xm W ma) (lift N xm W mb) (lift N xm W mc) σ H Q := by
  obtain ⟨g, fz, is, sr, h⟩ := h
  refine step sr h fun ra g1 v H1 fz1 is1 l1 sr1 rep1 h1 => ?_
  obtain ⟨fz1', l1', sr1', rep1', nt1⟩ := frz_ok sr1 rep1
  refine step sr1' (h1.later l1') fun rb g2 w H2 fz2 is2 l2 sr2 rep2 h2 => ?_
  obtain ⟨fz2', l2', sr2', rep2', nt2⟩ := frz_ok sr2 rep2
  have h2 := h2.later l2'
  simp only [opt, pk2] at h2
  split at h2
  · rename_i rn hrn
    split at hrn
    · rename_i x y hx hy
      have px := RVRep.later (l2.trans l2') rep1' nt1 hx sr2'
      have py := RVRep.later .refl rep2' nt2 hy sr2'
      have hK := c.hK
      rw [hK] at px py
      refine hf is2 fz2' H2 v w x y rn _ sr2'.dom px py hrn ?_
      cases rn with
      | new c => exact h2.elim
      | d z =>
        intro v3 fz3 H3 gr rep3
        have l3 := gr.le sr2'
        have sr3 := gr.sr sr2'
        obtain ⟨k, rfl, h3⟩ := asB_v (v := v3) (H := H3) (fz := fz3) (is := is2) (N := N) (σ := σ) (show RVRep N σ H3 g2 fz3 is2 v3 (.d z) by show Rep N.K is2 fz3 H3 v3 z; rw [hK]; exact rep3) (h2.later l3)
        refine ⟨k, rfl, ?_⟩
        cases k with
        | false => exact iteF (h3 _ H3 fz3 is2 .refl sr3 (.bl false))
        | true =>
          refine iteT (step sr3 h3 fun rz g4 w4 H4 fz4 is4 l4 sr4 rep4 h4 => ?_)
          obtain ⟨fz4', l4', sr4', rep4', nt4⟩ := frz_ok sr4 rep4
          have h4 : postE N xm W σ H4 fz4' is4 Q (opt (pk2 f' (frz rb) (frz rz) g4) g4) := h4.later l4'
          simp only [opt, pk2] at h4
          split at h4
          · rename_i rn' hrn'
            split at hrn'
            · rename_i x' y' hx' hy'
              have px := RVRep.later (l3.trans (l4.trans l4')) rep2' nt2 hx' sr4'
              have py := RVRep.later .refl rep4' nt4 hy' sr4'
              rw [hK] at px py
              have fin := fin_ok sr4' h4
              rw [hK] at fin
              exact hf' is4 fz4' H4 w w4 x' y' rn' Q sr4'.dom px py hrn' fin
            · cases hrn'
          · exact h4.elim
    · cases hrn
  · exact h2.elim
theorem e_chain {a b z : Expr} {op op' : CmpOp} {r r' : R2} {f f' : D → D → Option RN} {ma mb mc : ST RV} {pos : Pos} (c : MC X N W) (ho : OpR X (compareOp op) r) (ho' : OpR X (compareOp op') r') (hf : OpF X.K r f) (hf' : OpF X.K r' f') (ha : PE X a (lift N xm W ma)) (hb : PE X b (lift N xm W mb)) (hc : PE X z (lift N xm W mc))
    (hm : lastMarks [op, op'] [b, z] = false := by with_unfolding_all rfl) : PE X (.Compare a [op, op'] [b, z] pos) (lift N xm W (mChain f f' ma mb mc)) := imp (pe_chain ho ho' ha hb hc hm) fun _ _ _ h => chain_ok c hf hf' h
theorem t_chain {a b z : Expr} {op op' : CmpOp} {r r' : R2} {f f' : D → D → Option RN} {ma mb mc : ST RV} {pos : Pos} (c : MC X N W) (ho : OpR X (compareOp op) r) (ho' : OpR X (compareOp op') r') (hf : OpF X.K r f) (hf' : OpF X.K r' f') (ha : PE X a (lift N xm W ma)) (hb : PE X b (lift N xm W mb)) (hc : PE X z (lift N xm W mc))
    (hm : lastMarks [op, op'] [b, z] = false := by with_unfolding_all rfl) : PT X (.Compare a [op, op'] [b, z] pos) (liftB N xm W (mTest (mChain f f' ma mb mc))) := by
  refine impT (pt_chain ho ho' ha hb hc hm) fun σ H Q ⟨g, fz, is, sr, h⟩ => ?_
  have h' : lift N xm W (mChain f f' ma mb mc) σ H (fun x H' => ∃ k, x = .bl k ∧ Q k H') := stepB sr h fun r g1 v H1 fz1 is1 _ sr1 rep1 h1 => asB_ok sr1 rep1 h1
  exact chain_ok c hf hf' h'
end
end Mx

set_option Elab.async false
set_option linter.all false
set_option maxRecDepth 100000
/-! argument lists, displays, calls -/
namespace Mx
open PySem PySem.Spec PyProof.Rows L2

/-! ### operands of a built-in: new containers frozen, own ones left -/
def argsP : List (ST RV) → ST (List RV)
  | [] => ret []
  | m :: ms => bnd m fun r => bnd (argsP ms) fun rs => ret (frz r :: rs)
/-- .. of a def, items of a display: all frozen -/
def argsD : List (ST RV) → ST (List D)
  | [] => ret []
  | m :: ms => bnd m fun r => bnd (toD r) fun x => bnd (argsD ms) fun xs => ret (x :: xs)
def RVw (N : En) (σ : L2.St) (H : Hp) (fz : Addr → Prop) (is : List Addr) (v : V) : RV → Prop
  | .d x => Rep N.K is fz H v x
  | .own i => σ[i]? = some (some v)
  | .tmp _ => False
inductive RVs (N : En) (σ : L2.St) (H : Hp) (fz : Addr → Prop) (is : List Addr) : List V → List RV → Prop
  | nil : RVs N σ H fz is [] []
  | cons {v : V} {vs : List V} {r : RV} {rs : List RV} : RVw N σ H fz is v r → RVs N σ H fz is vs rs → RVs N σ H fz is (v :: vs) (r :: rs)
inductive PReps (K : PySem.W.Frag) (is : List Addr) (fz : Addr → Prop) (H : Hp) : List V → List D → Prop
  | nil : PReps K is fz H [] []
  | cons {v : V} {vs : List V} {x : D} {xs : List D} : PRep K is fz H v x → PReps K is fz H vs xs → PReps K is fz H (v :: vs) (x :: xs)
def peeks : List RV → Sg → Option (List D)
  | [], _ => some []
  | r :: rs, g => match peek r g, peeks rs g with
    | some x, some xs => some (x :: xs)
    | _, _ => none
section
variable {N : En} {σ : L2.St} {H H' : Hp} {g g' : Sg} {fz fz' : Addr → Prop} {is is' : List Addr} {v : V}
theorem RVw.of {r : RV} (h : RVRep N σ H g fz is v r) (nt : ∀ c, r ≠ .tmp c) : RVw N σ H fz is v r := by
  cases r with
  | d x => exact h
  | own i => exact h.1
  | tmp c => exact absurd rfl (nt c)
theorem RVw.mono (l : Le fz H is fz' H' is') {r : RV} (h : RVw N σ H fz is v r) : RVw N σ H' fz' is' v r := by
  cases r with
  | d x => exact Rep.mono l h
  | own i => exact h
  | tmp c => exact h
theorem RVs.mono (l : Le fz H is fz' H' is') : ∀ {vs : List V} {rs : List RV}, RVs N σ H fz is vs rs → RVs N σ H' fz' is' vs rs
  | _, _, .nil => .nil
  | _, _, .cons h t => .cons (h.mono l) (RVs.mono l t)
theorem RVw.at {r : RV} (h : RVw N σ H fz is v r) (sr : SR N σ H g fz is) {x : D} (hx : peek r g = some x) : PRep N.K is fz H v x := by
  cases r with
  | d y => exact Rep.look h sr hx
  | tmp c => exact h.elim
  | own i =>
    simp only [peek] at hx
    split at hx
    · rename_i c hc
      cases hx
      obtain ⟨p, h2, h3, h4⟩ := sr.own_at hc
      have h : σ[i]? = some (some v) := h
      rw [h] at h2; cases h2
      exact .inr ⟨p, c, rfl, rfl, h4⟩
    · cases hx
theorem RVs.at (sr : SR N σ H g fz is) : ∀ {vs : List V} {rs : List RV} {xs : List D}, RVs N σ H fz is vs rs → peeks rs g = some xs → PReps N.K is fz H vs xs
  | _, _, xs, .nil, e => by cases e; exact .nil
  | _, r :: rs, xs, .cons h t, e => by
    simp only [peeks] at e
    split at e
    · rename_i x ys h1 h2
      cases e
      exact .cons (h.at sr h1) (RVs.at sr t h2)
    · cases e
end

section
variable {X : Cx} {N : En} {xm : XM} {W : WX}
def postP (N : En) (xm : XM) (W : WX) (σ : L2.St) (H : Hp) (fz : Addr → Prop) (is : List Addr) (Q : List V → Hp → Prop) : R (List RV) → Prop
  | .stuck => False
  | .ok rs g' => ∀ vs H' fz' is', Le fz H is fz' H' is' → SR N σ H' g' fz' is' → RVs N σ H' fz' is' vs rs → Q vs H'
  | .exc e g' => ∀ cls od H' fz' is', Le fz H is fz' H' is' → SR N σ H' g' fz' is' → ExRep xm N.K is' fz' H' e cls od → W cls od σ H'
def liftP (N : En) (xm : XM) (W : WX) (ms : List (ST RV)) : TA := fun σ H Q => ∃ g fz is, SR N σ H g fz is ∧ postP N xm W σ H fz is Q (argsP ms g)
def postD (N : En) (xm : XM) (W : WX) (σ : L2.St) (H : Hp) (fz : Addr → Prop) (is : List Addr) (Q : List V → Hp → Prop) : R (List D) → Prop
  | .stuck => False
  | .ok rs g' => ∀ vs H' fz' is', Le fz H is fz' H' is' → SR N σ H' g' fz' is' → RepA N.K is' fz' H' vs rs → Q vs H'
  | .exc e g' => ∀ cls od H' fz' is', Le fz H is fz' H' is' → SR N σ H' g' fz' is' → ExRep xm N.K is' fz' H' e cls od → W cls od σ H'
def liftD (N : En) (xm : XM) (W : WX) (ms : List (ST RV)) : TA := fun σ H Q => ∃ g fz is, SR N σ H g fz is ∧ postD N xm W σ H fz is Q (argsD ms g)
theorem postP.later {σ : L2.St} {H H1 : Hp} {fz fz1 : Addr → Prop} {is is1 : List Addr} {Q : List V → Hp → Prop} (l : Le fz H is fz1 H1 is1) {x : R (List RV)} (h : postP N xm W σ H fz is Q x) : postP N xm W σ H1 fz1 is1 Q x := by
  cases x with
  | stuck => exact h
  | ok r g' => exact fun vs H' fz' is' l' => h vs H' fz' is' (l.trans l')
  | exc e g' => exact fun cls od H' fz' is' l' => h cls od H' fz' is' (l.trans l')
theorem postD.later {σ : L2.St} {H H1 : Hp} {fz fz1 : Addr → Prop} {is is1 : List Addr} {Q : List V → Hp → Prop} (l : Le fz H is fz1 H1 is1) {x : R (List D)} (h : postD N xm W σ H fz is Q x) : postD N xm W σ H1 fz1 is1 Q x := by
  cases x with
  | stuck => exact h
  | ok r g' => exact fun vs H' fz' is' l' => h vs H' fz' is' (l.trans l')
  | exc e g' => exact fun cls od H' fz' is' l' => h cls od H' fz' is' (l.trans l')
theorem impA {es : List Expr} {t t' : TA} (h : PA X es t) (i : ∀ σ H Q, t' σ H Q → t σ H Q) : PA X es t' := ⟨fun pos pins s σ H Q I q => h.run pos pins s σ H Q I (i σ H Q q)⟩
theorem p_nil : PA X [] (liftP N xm W []) := impA pa_nil fun σ H Q ⟨g, fz, is, sr, h⟩ => h [] H fz is .refl sr .nil
theorem d_nil : PA X [] (liftD N xm W []) := impA pa_nil fun σ H Q ⟨g, fz, is, sr, h⟩ => h [] H fz is .refl sr .nil
theorem p_cons {e : Expr} {es : List Expr} {m : ST RV} {ms : List (ST RV)} (ha : PE X e (lift N xm W m)) (hr : PA X es (liftP N xm W ms)) (hs : starEach (e :: es) X.env = (false, eval e X.env) :: starEach es X.env := by rfl) : PA X (e :: es) (liftP N xm W (m :: ms)) := by
  refine impA (pa_cons ha hr hs) fun σ H Q ⟨g, fz, is, sr, h⟩ => ⟨g, fz, is, sr, ?_⟩
  simp only [argsP, bnd] at h
  cases e1 : m g with
  | stuck => rw [e1] at h; exact h
  | exc x g' => rw [e1] at h; exact h
  | ok r g1 =>
    rw [e1, bind_ok] at h
    simp only [bnd] at h
    intro v H1 fz1 is1 l1 sr1 rep1
    obtain ⟨fz1', l1', sr1', rep1', nt1⟩ := frz_ok sr1 rep1
    have h := (h.later l1).later l1'
    refine ⟨g1, fz1', is1, sr1', ?_⟩
    cases e2 : argsP ms g1 with
    | stuck => rw [e2] at h; exact h
    | exc x g' => rw [e2] at h; exact h
    | ok rs g2 =>
      rw [e2, bind_ok] at h
      intro vs H2 fz2 is2 l2 sr2 rep2
      exact h (v :: vs) H2 fz2 is2 l2 sr2 (.cons ((RVw.of rep1' nt1).mono l2) rep2)
theorem d_cons {e : Expr} {es : List Expr} {m : ST RV} {ms : List (ST RV)} (ha : PE X e (lift N xm W m)) (hr : PA X es (liftD N xm W ms)) (hs : starEach (e :: es) X.env = (false, eval e X.env) :: starEach es X.env := by rfl) : PA X (e :: es) (liftD N xm W (m :: ms)) := by
  refine impA (pa_cons ha hr hs) fun σ H Q ⟨g, fz, is, sr, h⟩ => ⟨g, fz, is, sr, ?_⟩
  simp only [argsD, bnd] at h
  cases e1 : m g with
  | stuck => rw [e1] at h; exact h
  | exc x g' => rw [e1] at h; exact h
  | ok r g1 =>
    rw [e1, bind_ok] at h
    simp only [bnd] at h
    intro v H1 fz1 is1 l1 sr1 rep1
    cases e3 : toD r g1 with
    | stuck => rw [e3] at h; exact h.elim
    | exc x g' =>
      exfalso
      cases r <;> simp only [toD, ret] at e3
      · cases e3
      · cases e3
      · split at e3 <;> cases e3
    | ok x g3 =>
      rw [e3, bind_ok] at h
      simp only [bnd] at h
      obtain ⟨fz1', l1', sr1', rep1'⟩ := toD_ok sr1 rep1 e3
      have h := (h.later l1).later l1'
      refine ⟨g3, fz1', is1, sr1', ?_⟩
      cases e2 : argsD ms g3 with
      | stuck => rw [e2] at h; exact h
      | exc x g' => rw [e2] at h; exact h
      | ok rs g2 =>
        rw [e2, bind_ok] at h
        intro vs H2 fz2 is2 l2 sr2 rep2
        exact h (v :: vs) H2 fz2 is2 l2 sr2 (.cons (rep1'.mono l2) rep2)

/-! ### (a, b), [a, b] -/
def mTup (ms : List (ST RV)) : ST RV := bnd (argsD ms) fun xs => if xs.length ≤ sizeLine then ret (.d (.tup xs)) else stop
def mLst (ms : List (ST RV)) : ST RV := bnd (argsD ms) fun xs => if xs.length ≤ sizeLine then ret (.tmp (.lst xs)) else stop
/-- through a list of frozen arguments -/
theorem stepD {ms : List (ST RV)} {f : List D → ST RV} {Q : VK} {Q' : List V → Hp → Prop} {σ : L2.St} {H : Hp} {g : Sg} {fz : Addr → Prop} {is : List Addr} (sr : SR N σ H g fz is) (h : postE N xm W σ H fz is Q ((argsD ms g).bind f))
    (k : ∀ xs g1 vs H1 fz1 is1, Le fz H is fz1 H1 is1 → SR N σ H1 g1 fz1 is1 → RepA N.K is1 fz1 H1 vs xs → postE N xm W σ H1 fz1 is1 Q (f xs g1) → Q' vs H1) : liftD N xm W ms σ H Q' := by
  refine ⟨g, fz, is, sr, ?_⟩
  cases e : argsD ms g with
  | stuck => rw [e] at h; exact h
  | exc x g' => rw [e] at h; exact h
  | ok r g1 =>
    rw [e] at h
    intro vs H1 fz1 is1 l sr1 rep
    exact k r g1 vs H1 fz1 is1 l sr1 rep (postE.later l h)
theorem stepP {ms : List (ST RV)} {f : List RV → ST RV} {Q : VK} {Q' : List V → Hp → Prop} {σ : L2.St} {H : Hp} {g : Sg} {fz : Addr → Prop} {is : List Addr} (sr : SR N σ H g fz is) (h : postE N xm W σ H fz is Q ((argsP ms g).bind f))
    (k : ∀ xs g1 vs H1 fz1 is1, Le fz H is fz1 H1 is1 → SR N σ H1 g1 fz1 is1 → RVs N σ H1 fz1 is1 vs xs → postE N xm W σ H1 fz1 is1 Q (f xs g1) → Q' vs H1) : liftP N xm W ms σ H Q' := by
  refine ⟨g, fz, is, sr, ?_⟩
  cases e : argsP ms g with
  | stuck => rw [e] at h; exact h
  | exc x g' => rw [e] at h; exact h
  | ok r g1 =>
    rw [e] at h
    intro vs H1 fz1 is1 l sr1 rep
    exact k r g1 vs H1 fz1 is1 l sr1 rep (postE.later l h)
/-- a new frozen tuple -/
theorem new_tup {σ : L2.St} {H : Hp} {g : Sg} {fz : Addr → Prop} {is : List Addr} {Q : VK} {vs : List V} {xs : List D} (sr : SR N σ H g fz is) (h : postE N xm W σ H fz is Q (.ok (.d (.tup xs)) g)) (r : RepA N.K is fz H vs xs) : ∀ p, H p = none → Q (.ref p) (upd H p (.tup vs)) := by
  intro p hp
  have gr : Grow fz H _ _ := Grow.new p (.tup vs) hp
  exact h (.ref p) _ _ is (gr.le sr) (gr.sr sr) (.tup (.inl ⟨.inr rfl, upd_same⟩) (r.mono (gr.le sr)))
theorem new_lst {σ : L2.St} {H : Hp} {g : Sg} {fz : Addr → Prop} {is : List Addr} {Q : VK} {vs : List V} {xs : List D} (sr : SR N σ H g fz is) (h : postE N xm W σ H fz is Q (.ok (.tmp (.lst xs)) g)) (r : RepA N.K is fz H vs xs) : ∀ p, H p = none → Q (.ref p) (upd H p (.lst vs)) := by
  intro p hp
  have f := sr.free hp
  exact h (.ref p) _ fz is (Le.alloc f.own.nf) (sr.alter f _) ⟨p, rfl, f.own, ⟨vs, upd_same, r.mono (Le.alloc f.own.nf)⟩, f.ns⟩
theorem e_tup {es : List Expr} {k : Nat} {pos : Pos} {ms : List (ST RV)} (c : MC X N W) (h : PA X es (liftD N xm W ms)) : PE X (.Tuple es k pos) (lift N xm W (mTup ms)) := by
  refine imp (pe_tup h) fun σ H Q ⟨g, fz, is, sr, h⟩ => stepD sr h fun xs g1 vs H1 fz1 is1 l1 sr1 rep h1 => ?_
  by_cases hz : xs.length ≤ sizeLine
  · rw [if_pos hz] at h1
    exact ⟨by rw [rep.length]; exact hz, new_tup sr1 h1 rep⟩
  · rw [if_neg hz] at h1; exact h1.elim
theorem e_lst {es : List Expr} {pos : Pos} {ms : List (ST RV)} (c : MC X N W) (h : PA X es (liftD N xm W ms)) : PE X (.List es pos) (lift N xm W (mLst ms)) := by
  refine imp (pe_lst h) fun σ H Q ⟨g, fz, is, sr, h⟩ => stepD sr h fun xs g1 vs H1 fz1 is1 l1 sr1 rep h1 => ?_
  by_cases hz : xs.length ≤ sizeLine
  · rw [if_pos hz] at h1
    exact ⟨by rw [rep.length]; exact hz, new_lst sr1 h1 rep⟩
  · rw [if_neg hz] at h1; exact h1.elim

/-! ### built-ins by name -/
def mAps (f : List D → Option RN) (ms : List (ST RV)) : ST RV := bnd (argsP ms) fun rs => fun g => match peeks rs g with
  | some xs => opt (f xs) g
  | none => .stuck
def CallF (K : PySem.W.Frag) (r : List V → Hp → VK → Prop) (f : List D → Option RN) : Prop := ∀ is fz H vs xs rn Q, (∀ b, fz b → ∃ o, H b = some o) → PReps K is fz H vs xs → f xs = some rn → Fin K is fz H Q rn → r vs H Q
theorem aps_ok {r : List V → Hp → VK → Prop} {f : List D → Option RN} {ms : List (ST RV)} (c : MC X N W) (hf : CallF X.K r f) {σ : L2.St} {H : Hp} {Q : VK} (h : lift N xm W (mAps f ms) σ H Q) : tCB r (liftP N xm W ms) σ H Q := by
  obtain ⟨g, fz, is, sr, h⟩ := h
  refine stepP sr h fun rs g1 vs H1 fz1 is1 l1 sr1 rep h1 => ?_
  split at h1
  · rename_i xs hxs
    simp only [opt] at h1
    split at h1
    · rename_i rn hrn
      have px := RVs.at sr1 rep hxs
      have fin := fin_ok sr1 h1
      have hK := c.hK
      rw [hK] at px fin
      exact hf is1 fz1 H1 vs xs rn Q sr1.dom px hrn fin
    · exact h1.elim
  · exact h1.elim
theorem e_callB {x : Str} {id : String} {p pos : Pos} {e : Expr} {es : List Expr} {r : List V → Hp → VK → Prop} {f : List D → Option RN} {ms : List (ST RV)} (c : MC X N W) (hc : CallR X (.builtin id) r) (hf : CallF X.K r f) (hg : Gl X x) (hm : X.mg x = none) (hv : bootBuiltins x = some (.builtin id))
    (ha : PA X (e :: es) (liftP N xm W ms)) (hn : x ≠ "__name__" := by decide) (hdb : (x == ("__debug__" : Str)) = false := by decide)
    (he : starEach (e :: es) X.env = (false, eval e X.env) :: starEach es X.env := by rfl) (hpl : (backTo pos (starEach es X.env)).any (·.1) = false := by rfl) : PE X (.Call (.Name x p) (e :: es) [] pos) (lift N xm W (mAps f ms)) :=
  imp (pe_callB hc hg hm hv ha hn hdb he hpl) fun _ _ _ h => aps_ok c hf h
theorem e_callTy {x : Str} {T : String} {p pos : Pos} {e : Expr} {es : List Expr} {r : List V → Hp → VK → Prop} {f : List D → Option RN} {ms : List (ST RV)} (c : MC X N W) (hc : CallR X (.type T) r) (hf : CallF X.K r f) (hg : Gl X x) (hm : X.mg x = none) (hv : bootBuiltins x = some (.type T))
    (ha : PA X (e :: es) (liftP N xm W ms)) (hn : x ≠ "__name__" := by decide) (hdb : (x == ("__debug__" : Str)) = false := by decide)
    (he : starEach (e :: es) X.env = (false, eval e X.env) :: starEach es X.env := by rfl) (hpl : (backTo pos (starEach es X.env)).any (·.1) = false := by rfl) : PE X (.Call (.Name x p) (e :: es) [] pos) (lift N xm W (mAps f ms)) :=
  imp (pe_callTy hc hg hm hv ha hn hdb he hpl) fun _ _ _ h => aps_ok c hf h

/-! ### defs of the text -/
inductive RF where
  | stuck
  | ok (r : RN) (S : List C)
  | exc (e : Ex) (S : List C)
abbrev FM := List D → List C → RF
/-- what stands at a call: the store, what is frozen -/
structure Pre (K : PySem.W.Frag) (H : Hp) (S : List C) (fz : Addr → Prop) (is : List Addr) : Prop where
  dom : ∀ b, fz b → ∃ o, H b = some o
  stl : S.length = is.length
  st : ∀ (i : Nat) (c : C) (a : Addr), S[i]? = some c → is[i]? = some a → ¬ fz a ∧ CAt K is fz H a c
  nd : is.Nodup
/-- what a call leaves -/
structure Aft (K : PySem.W.Frag) (H : Hp) (fz : Addr → Prop) (is : List Addr) (H' : Hp) (S' : List C) (fz' : Addr → Prop) (is' : List Addr) : Prop where
  pre : Pre K H' S' fz' is'
  le : Le fz H is fz' H' is'
  frame : ∀ b o, H b = some o → b ∉ is → H' b = some o
  fzn : ∀ b, fz' b → fz b ∨ H b = none
  isn : ∀ a ∈ is', a ∈ is ∨ H a = none
def RNRep (K : PySem.W.Frag) (H : Hp) (fz' : Addr → Prop) (is' : List Addr) (H' : Hp) (v : V) : RN → Prop
  | .d x => Rep K is' fz' H' v x
  | .new c => ∃ p, v = .ref p ∧ H p = none ∧ ¬ fz' p ∧ p ∉ is' ∧ CAt K is' fz' H' p c
def postF (K : PySem.W.Frag) (xm : XM) (H : Hp) (fz : Addr → Prop) (is : List Addr) (Q : VK) (E : XK) : RF → Prop
  | .stuck => False
  | .ok r S' => ∀ v H' fz' is', Aft K H fz is H' S' fz' is' → RNRep K H fz' is' H' v r → Q v H'
  | .exc e S' => ∀ cls od H' fz' is', Aft K H fz is H' S' fz' is' → ExRep xm K is' fz' H' e cls od → E cls od H'
/-- the promise of a def: it does what F says -/
def spF (K : PySem.W.Frag) (xm : XM) (n : Nat) (F : FM) : Sp := fun vs H Q E => vs.length = n ∧ ∃ ds S fz is, Pre K H S fz is ∧ RepA K is fz H vs ds ∧ postF K xm H fz is Q E (F ds S)
def ofF (r : RF) (g : Sg) : R RV := match r with
  | .stuck => .stuck
  | .ok r S => .ok r.rv { g with st := S }
  | .exc e S => .exc e { g with st := S }
def mCall (F : FM) (ms : List (ST RV)) : ST RV := bnd (argsD ms) fun ds => fun g => ofF (F ds g.st) g
theorem SR.pre {σ : L2.St} {H : Hp} {g : Sg} {fz : Addr → Prop} {is : List Addr} (sr : SR N σ H g fz is) : Pre N.K H g.st fz is := ⟨sr.dom, sr.stl, sr.st, sr.nd⟩
/-- behind a call -/
theorem SR.after {σ : L2.St} {H H' : Hp} {g : Sg} {fz fz' : Addr → Prop} {is is' : List Addr} {S' : List C} (sr : SR N σ H g fz is) (a : Aft N.K H fz is H' S' fz' is') : SR N σ H' { g with st := S' } fz' is' := by
  refine ⟨fun i x h => ?_, sr.dist, sr.len, sr.sz, a.pre.dom, a.pre.stl, a.pre.st, a.pre.nd, fun b o h1 h2 => ?_, fun b hb => ?_, fun b hb => a.le.up b (sr.fz0 b hb), sr.isx.trans a.le.ix, fun b hb => ?_⟩
  · obtain ⟨v, h1, h2⟩ := sr.env i x h
    refine ⟨v, h1, ?_⟩
    cases x with
    | d x => exact Rep.mono a.le h2
    | own c =>
      obtain ⟨p, rfl, h3, h4⟩ := h2
      obtain ⟨o, ho⟩ := h4.some
      refine ⟨p, rfl, ⟨fun z => ?_, fun z => ?_, h3.new⟩, h4.mono a.le ?_⟩
      · rcases a.fzn p z with z | z
        · exact h3.nf z
        · rw [ho] at z; cases z
      · rcases a.isn p z with z | z
        · exact h3.ni z
        · rw [ho] at z; cases z
      · rw [ho]; exact a.frame p o ho h3.ni
  · have h3 := sr.frame b o h1 h2
    by_cases hb : b ∈ is
    · rcases sr.isn b hb with z | z
      · exact absurd z h2
      · rw [h1] at z; cases z
    · exact a.frame b o h3 hb
  · rcases a.fzn b hb with z | z
    · exact sr.fzn b z
    · right
      cases q : N.H b with
      | none => rfl
      | some o =>
        by_cases hn : b ∈ N.is
        · obtain ⟨u, e⟩ := sr.isd b (sr.isx.subset hn)
          rw [z] at e; cases e
        · have := sr.frame b o q hn
          rw [z] at this; cases this
  · rcases a.isn b hb with z | z
    · exact sr.isn b z
    · right
      cases q : N.H b with
      | none => rfl
      | some o =>
        by_cases hn : b ∈ N.is
        · obtain ⟨u, e⟩ := sr.isd b (sr.isx.subset hn)
          rw [z] at e; cases e
        · have := sr.frame b o q hn
          rw [z] at this; cases this
theorem call_ok {F : FM} {n : Nat} {σ : L2.St} {H : Hp} {Q : VK} {ms : List (ST RV)} (c : MC X N W) (h : lift N xm W (mCall F ms) σ H Q) (hn : ms.length = n) :
    tCallSD (spF X.K xm n F) [] (fun σ cls od H => W cls od σ H) (liftD N xm W ms) σ H Q := by
  have hK := c.hK
  obtain ⟨g, fz, is, sr, h⟩ := h
  have hl : ∀ (ms : List (ST RV)) (g g1 : Sg) (xs : List D), argsD ms g = .ok xs g1 → xs.length = ms.length := by
    intro ms
    induction ms with
    | nil => intro g g1 xs e; cases e; rfl
    | cons m ms ih =>
      intro g g1 xs e
      simp only [argsD, bnd] at e
      cases e1 : m g with
      | stuck => rw [e1] at e; cases e
      | exc x g' => rw [e1] at e; cases e
      | ok r g2 =>
        rw [e1, bind_ok] at e
        simp only [bnd] at e
        cases e3 : toD r g2 with
        | stuck => rw [e3] at e; cases e
        | exc x g' => rw [e3] at e; cases e
        | ok x g3 =>
          rw [e3, bind_ok] at e
          simp only [bnd] at e
          cases e2 : argsD ms g3 with
          | stuck => rw [e2] at e; cases e
          | exc x g' => rw [e2] at e; cases e
          | ok rs g4 =>
            rw [e2] at e
            cases e
            simp [ih _ _ _ e2]
  refine ⟨g, fz, is, sr, ?_⟩
  simp only [mCall, bnd] at h
  cases e : argsD ms g with
  | stuck => rw [e] at h; exact h
  | exc x g' => rw [e] at h; exact h
  | ok xs g1 =>
    rw [e, bind_ok] at h
    intro vs H1 fz1 is1 l1 sr1 rep
    have h := postE.later l1 h
    have pr := sr1.pre
    rw [hK] at rep pr
    refine ⟨by rw [List.append_nil, rep.length, hl _ _ _ _ e]; exact hn, xs, g1.st, fz1, is1, pr, by rw [List.append_nil]; exact rep, ?_⟩
    cases e2 : F xs g1.st with
    | stuck => rw [e2] at h; exact h
    | exc x S' =>
      rw [e2] at h
      intro cls od H' fz' is' a rx
      rw [← hK] at a rx
      exact h cls od H' fz' is' a.le (sr1.after a) rx
    | ok r S' =>
      rw [e2] at h
      intro v H' fz' is' a rx
      rw [← hK] at a rx
      refine h v H' fz' is' a.le (sr1.after a) ?_
      cases r with
      | d x => exact rx
      | new c =>
        obtain ⟨p, rfl, hp, h1, h2, h3⟩ := rx
        have f := sr1.free hp
        exact ⟨p, rfl, ⟨h1, h2, f.own.new⟩, h3, f.ns⟩
theorem e_call {k : Nat} {f : Addr} {fd : FuncData} {ps : List Str} {x : Str} {p pos : Pos} {e : Expr} {es : List Expr} {F : FM} {n : Nat} {ms : List (ST RV)} (c : MC X N W) (hF : FnOk X.prog X.w X.K X.mg X.base (L2.CX X.prog X.w) k f fd ps (spF X.K xm n F)) (hr : Room k X.A) (hg : Gl X x) (hm : X.mg x = some (.ref f)) (hk : PySem.W.keepIn X.K (.ref f) = true)
    (hb : Binds X.K fd ps []) (ha : PA X (e :: es) (liftD N xm W ms)) (hn : ms.length = n := by rfl) (hdb : (x == ("__debug__" : Str)) = false := by decide) (he : starEach (e :: es) X.env = (false, eval e X.env) :: starEach es X.env := by rfl) (hpl : (backTo pos (starEach es X.env)).any (·.1) = false := by rfl) :
    PE X (.Call (.Name x p) (e :: es) [] pos) (lift N xm W (mCall F ms)) :=
  imp (pe_callSD hF hr hg hm hk hb .nil (fun σ => passAt c.tk σ) ha hdb he hpl) fun _ _ _ h => call_ok c h hn
end
end Mx

set_option Elab.async false
set_option linter.all false
set_option maxRecDepth 100000
/-! statements -/
namespace Mx
open PySem PySem.Spec PyProof.Rows L2

inductive RS where
  | stuck
  | nx (g : Sg)
  | ret (r : RN) (S : List C)
  | bk (g : Sg)
  | ct (g : Sg)
  | exc (e : Ex) (g : Sg)
abbrev SM := Sg → RS
def postS (N : En) (xm : XM) (W : WX) (D : Ends) (fz : Addr → Prop) (H : Hp) (is : List Addr) : RS → Prop
  | .stuck => False
  | .nx g' => ∀ σ' H' fz' is', Le fz H is fz' H' is' → SR N σ' H' g' fz' is' → D.nx σ' H'
  | .bk g' => ∀ σ' H' fz' is', Le fz H is fz' H' is' → SR N σ' H' g' fz' is' → D.bk σ' H'
  | .ct g' => ∀ σ' H' fz' is', Le fz H is fz' H' is' → SR N σ' H' g' fz' is' → D.ct σ' H'
  | .ret r S' => ∀ v H' fz' is', Aft N.K N.H N.fz N.is H' S' fz' is' → RNRep N.K N.H fz' is' H' v r → D.rt v H'
  | .exc e g' => ∀ cls od σ' H' fz' is', Le fz H is fz' H' is' → SR N σ' H' g' fz' is' → ExRep xm N.K is' fz' H' e cls od → W cls od σ' H'
def liftS (N : En) (xm : XM) (W : WX) (m : SM) : TS := fun D σ H => ∃ g fz is, SR N σ H g fz is ∧ postS N xm W D fz H is (m g)
theorem impS {X : Cx} {s : Stmt} {t t' : TS} (h : PS X s t) (i : ∀ D σ H, t' D σ H → t D σ H) : PS X s t' := ⟨fun pins s σ H D I q => h.run pins s σ H D I (i D σ H q)⟩
theorem impSs {X : Cx} {s : List Stmt} {t t' : TS} (h : PSs X s t) (i : ∀ D σ H, t' D σ H → t D σ H) : PSs X s t' := ⟨fun pins s σ H D I q => h.run pins s σ H D I (i D σ H q)⟩
def RS.bind : RS → SM → RS
  | .nx g, f => f g
  | r, _ => r
@[simp] theorem RS.bind_nx (g : Sg) (f : SM) : (RS.nx g).bind f = f g := rfl
@[simp] theorem RS.bind_stuck (f : SM) : RS.stuck.bind f = .stuck := rfl
@[simp] theorem RS.bind_ret (r : RN) (S : List C) (f : SM) : (RS.ret r S).bind f = .ret r S := rfl
@[simp] theorem RS.bind_bk (g : Sg) (f : SM) : (RS.bk g).bind f = .bk g := rfl
@[simp] theorem RS.bind_ct (g : Sg) (f : SM) : (RS.ct g).bind f = .ct g := rfl
@[simp] theorem RS.bind_exc (e : Ex) (g : Sg) (f : SM) : (RS.exc e g).bind f = .exc e g := rfl
/-- from an evaluation to a statement -/
def R.to {α : Type} : R α → (α → SM) → RS
  | .stuck, _ => .stuck
  | .ok a g, f => f a g
  | .exc e g, _ => .exc e g
@[simp] theorem R.to_ok {α : Type} (a : α) (g : Sg) (f : α → SM) : (R.ok a g).to f = f a g := rfl
@[simp] theorem R.to_stuck {α : Type} (f : α → SM) : (R.stuck).to f = .stuck := rfl
@[simp] theorem R.to_exc {α : Type} (e : Ex) (g : Sg) (f : α → SM) : (R.exc e g).to f = .exc e g := rfl

section
variable {X : Cx} {N : En} {xm : XM} {W : WX}
theorem postS.later {D : Ends} {H H1 : Hp} {fz fz1 : Addr → Prop} {is is1 : List Addr} (l : Le fz H is fz1 H1 is1) {x : RS} (h : postS N xm W D fz H is x) : postS N xm W D fz1 H1 is1 x := by
  cases x with
  | stuck => exact h
  | nx g' => exact fun σ' H' fz' is' l' => h σ' H' fz' is' (l.trans l')
  | bk g' => exact fun σ' H' fz' is' l' => h σ' H' fz' is' (l.trans l')
  | ct g' => exact fun σ' H' fz' is' l' => h σ' H' fz' is' (l.trans l')
  | ret r S' => exact h
  | exc e g' => exact fun cls od σ' H' fz' is' l' => h cls od σ' H' fz' is' (l.trans l')
def sSeq (m n : SM) : SM := fun g => (m g).bind n
def sNil : SM := fun g => .nx g
theorem s_nil : PSs X [] (liftS N xm W sNil) := impSs pss_nil fun D σ H ⟨g, fz, is, sr, h⟩ => h σ H fz is .refl sr
theorem seq_ok {m n : SM} {D : Ends} {σ : L2.St} {H : Hp} (h : liftS N xm W (sSeq m n) D σ H) : tSeq (liftS N xm W m) (liftS N xm W n) D σ H := by
  obtain ⟨g, fz, is, sr, h⟩ := h
  refine ⟨g, fz, is, sr, ?_⟩
  simp only [sSeq] at h
  cases e : m g with
  | nx g1 =>
    rw [e] at h
    exact fun σ1 H1 fz1 is1 l1 sr1 => ⟨g1, fz1, is1, sr1, postS.later l1 h⟩
  | _ => rw [e] at h; exact h
theorem s_cons {st : Stmt} {rest : List Stmt} {m n : SM} (h1 : PS X st (liftS N xm W m)) (h2 : PSs X rest (liftS N xm W n)) : PSs X (st :: rest) (liftS N xm W (sSeq m n)) := impSs (pss_cons h1 h2) fun _ _ _ => seq_ok
theorem s_one {st : Stmt} {m : SM} (h1 : PS X st (liftS N xm W m)) : PSs X [st] (liftS N xm W m) := pss_one h1
def sPass : SM := fun g => .nx g
def sBreak : SM := fun g => .bk g
def sCont : SM := fun g => .ct g
theorem s_pass {pos} : PS X (.Pass pos) (liftS N xm W sPass) := impS ps_pass fun D σ H ⟨g, fz, is, sr, h⟩ => h σ H fz is .refl sr
theorem s_break {pos} : PS X (.Break pos) (liftS N xm W sBreak) := impS ps_break fun D σ H ⟨g, fz, is, sr, h⟩ => h σ H fz is .refl sr
theorem s_cont {pos} : PS X (.Continue pos) (liftS N xm W sCont) := impS ps_continue fun D σ H ⟨g, fz, is, sr, h⟩ => h σ H fz is .refl sr
theorem s_doc {x j pos pos'} : PS X (.Expr (.Constant (.str x) j pos) pos') (liftS N xm W sPass) := impS ps_doc fun D σ H ⟨g, fz, is, sr, h⟩ => h σ H fz is .refl sr
/-- through an expression -/
theorem stepS {m : ST RV} {f : RV → SM} {D : Ends} {Q' : VK} {σ : L2.St} {H : Hp} {g : Sg} {fz : Addr → Prop} {is : List Addr} (sr : SR N σ H g fz is) (h : postS N xm W D fz H is ((m g).to f))
    (k : ∀ r g1 v H1 fz1 is1, Le fz H is fz1 H1 is1 → SR N σ H1 g1 fz1 is1 → RVRep N σ H1 g1 fz1 is1 v r → postS N xm W D fz1 H1 is1 (f r g1) → Q' v H1) : lift N xm W m σ H Q' := by
  refine ⟨g, fz, is, sr, ?_⟩
  cases e : m g with
  | stuck => rw [e] at h; exact h
  | exc x g' => rw [e] at h; exact fun cls od H' fz' is' l sr' => h cls od σ H' fz' is' l sr'
  | ok r g1 =>
    rw [e] at h
    intro v H1 fz1 is1 l sr1 rep
    exact k r g1 v H1 fz1 is1 l sr1 rep (postS.later l h)
theorem stepSB {m : ST Bool} {f : Bool → SM} {D : Ends} {Q' : Bool → Hp → Prop} {σ : L2.St} {H : Hp} {g : Sg} {fz : Addr → Prop} {is : List Addr} (sr : SR N σ H g fz is) (h : postS N xm W D fz H is ((m g).to f))
    (k : ∀ r g1 H1 fz1 is1, Le fz H is fz1 H1 is1 → SR N σ H1 g1 fz1 is1 → postS N xm W D fz1 H1 is1 (f r g1) → Q' r H1) : liftB N xm W m σ H Q' := by
  refine ⟨g, fz, is, sr, ?_⟩
  cases e : m g with
  | stuck => rw [e] at h; exact h
  | exc x g' => rw [e] at h; exact fun cls od H' fz' is' l sr' => h cls od σ H' fz' is' l sr'
  | ok r g1 =>
    rw [e] at h
    intro H1 fz1 is1 l sr1
    exact k r g1 H1 fz1 is1 l sr1 (postS.later l h)
/-! ### stores -/
/-- a slot takes a value: a new container is the slot's own -/
def put (i : Nat) (r : RV) : SM := fun g => match r with
  | .d x => .nx { g with env := g.env.set i (some (.d x)) }
  | .tmp c => .nx { g with env := g.env.set i (some (.own c)) }
  | .own j => match g.env[j]? with
    | some (some (.own c)) => .nx { g with env := (g.env.set j (some (.d c.d))).set i (some (.d c.d)) }
    | _ => .stuck
theorem put_ok {i : Nat} (hi : i < N.n) {r : RV} {D : Ends} {σ : L2.St} {H : Hp} {g : Sg} {fz : Addr → Prop} {is : List Addr} {v : V} (sr : SR N σ H g fz is) (rep : RVRep N σ H g fz is v r) (h : postS N xm W D fz H is (put i r g)) : D.nx (σ.set i (some v)) H := by
  have hs : i < σ.length := by rw [sr.sz]; exact hi
  cases r with
  | d x => exact h _ H fz is .refl (sr.setD rep hs)
  | tmp c =>
    obtain ⟨p, rfl, h1, h2, h3⟩ := rep
    exact h _ H fz is .refl (sr.setO ⟨h1, h3⟩ h2 hs)
  | own j =>
    simp only [put] at h
    split at h
    · rename_i c hc
      obtain ⟨h1, _⟩ := rep
      obtain ⟨p, h2, h3, h4⟩ := sr.own_at hc
      rw [h1] at h2; cases h2
      obtain ⟨sr2, rp⟩ := sr.freezeSlot hc h1
      exact h _ H _ is (Le.frz p) (sr2.setD rp hs)
    · exact h.elim
def sSet (i : Nat) (m : ST RV) : SM := fun g => (m g).to (put i)
theorem set_ok {i : Nat} {m : ST RV} (hi : i < N.n) {D : Ends} {σ : L2.St} {H : Hp} (h : liftS N xm W (sSet i m) D σ H) : tAsg (lift N xm W m) (gName i) D σ H := by
  obtain ⟨g, fz, is, sr, h⟩ := h
  exact stepS sr h fun r g1 v H1 fz1 is1 l1 sr1 rep h1 => put_ok hi sr1 rep h1
theorem s_set {i : Nat} {x : Str} {e : Expr} {m : ST RV} {pos pos' : Pos} (c : MC X N W) (hi : X.N[i]? = some x) (hx : Loc X.env.scope x) (he : PE X e (lift N xm W m)) (hn : i < N.n := by decide) (hs : swapsWith e (some (.Name x pos')) pos.line X.env = pure false := by rfl)
    (hf : X.fn x = true ∨ X.env.scope.names.lookup x = some .local := by first | exact .inl rfl | exact .inr rfl | assumption) : PS X (.Assign [.Name x pos'] e pos) (liftS N xm W (sSet i m)) := impS (ps_set c.nd hi hx he hs hf) fun _ _ _ => set_ok hn
/-- an expression, dropped -/
def sExpr (m : ST RV) : SM := fun g => (m g).to fun _ g => .nx g
theorem s_expr {e : Expr} {m : ST RV} {pos : Pos} (he : PE X e (lift N xm W m)) (hs : swapsWith e none pos.line X.env = pure false := by rfl) : PS X (.Expr e pos) (liftS N xm W (sExpr m)) :=
  impS (ps_expr he hs) fun D σ H ⟨g, fz, is, sr, h⟩ => stepS sr h fun r g1 v H1 fz1 is1 l1 sr1 rep h1 => h1 σ H1 fz1 is1 .refl sr1
/-- return -/
def outR (r : RV) (g : Sg) : Option RN := match r with
  | .d x => some (.d x)
  | .tmp c => some (.new c)
  | .own i => match g.env[i]? with
    | some (some (.own c)) => some (.new c)
    | _ => none
def sRet (m : ST RV) : SM := fun g => (m g).to fun r g => match outR r g with
  | some n => .ret n g.st
  | none => .stuck
/-- the entry is sound -/
def Ent (N : En) : Prop := ∃ S, Pre N.K N.H S N.fz N.is
theorem SR.aft {σ : L2.St} {H : Hp} {g : Sg} {fz : Addr → Prop} {is : List Addr} (sr : SR N σ H g fz is) (en : Ent N) : Aft N.K N.H N.fz N.is H g.st fz is := by
  obtain ⟨S, en⟩ := en
  refine ⟨sr.pre, ⟨sr.fz0, fun b hb => ?_, sr.isx⟩, sr.frame, sr.fzn, sr.isn⟩
  obtain ⟨o, ho⟩ := en.dom b hb
  rw [ho]
  refine sr.frame b o ho fun hm => ?_
  obtain ⟨i, hi, e⟩ := List.getElem_of_mem hm
  have hl : i < S.length := by rw [en.stl]; exact hi
  exact (en.st i S[i] b (List.getElem?_eq_getElem hl) (by rw [List.getElem?_eq_getElem hi, e])).1 hb
theorem s_ret {e : Expr} {m : ST RV} {pos : Pos} (en : Ent N) (he : PE X e (lift N xm W m)) : PS X (.Return (some e) pos) (liftS N xm W (sRet m)) := by
  refine impS (ps_ret he) fun D σ H ⟨g, fz, is, sr, h⟩ => stepS sr h fun r g1 v H1 fz1 is1 l1 sr1 rep h1 => ?_
  have a := sr1.aft en
  split at h1
  · rename_i n hn
    refine h1 v H1 fz1 is1 a ?_
    cases r with
    | d x => cases hn; exact rep
    | tmp c =>
      cases hn
      obtain ⟨p, rfl, h2, h3, h4⟩ := rep
      exact ⟨p, rfl, h2.new, h2.nf, h2.ni, h3⟩
    | own i =>
      simp only [outR] at hn
      split at hn
      · rename_i c hc
        cases hn
        obtain ⟨h2, _⟩ := rep
        obtain ⟨p, h3, h4, h5⟩ := sr1.own_at hc
        rw [h2] at h3; cases h3
        exact ⟨p, rfl, h4.new, h4.nf, h4.ni, h5⟩
      · cases hn
  · exact h1.elim
def sRetN : SM := fun g => .ret (.d .non) g.st
theorem s_retN {pos : Pos} (en : Ent N) : PS X (.Return none pos) (liftS N xm W sRetN) := impS ps_retN fun D σ H ⟨g, fz, is, sr, h⟩ => h .non H fz is (sr.aft en) .non
/-- if -/
def sIf (t : ST Bool) (m n : SM) : SM := fun g => (t g).to fun b => if b = true then m else n
theorem s_if {t : Expr} {a b : List Stmt} {pos : Pos} {mt : ST Bool} {m n : SM} (ht : PT X t (liftB N xm W mt)) (ha : PSs X a (liftS N xm W m)) (hb : PSs X b (liftS N xm W n)) : PS X (.If t a b pos) (liftS N xm W (sIf mt m n)) := by
  refine impS (ps_if ht ha hb) fun D σ H ⟨g, fz, is, sr, h⟩ => stepSB sr h fun r g1 H1 fz1 is1 l1 sr1 h1 => ?_
  cases r with
  | true => exact iteT ⟨g1, fz1, is1, sr1, h1⟩
  | false => exact iteF ⟨g1, fz1, is1, sr1, h1⟩
/-! ### while -/
def sWhile (t : ST Bool) (b : SM) : Nat → SM
  | 0 => fun _ => .stuck
  | n + 1 => fun g => (t g).to fun k g => if k = true then (match b g with
      | .nx g => sWhile t b n g
      | .ct g => sWhile t b n g
      | .bk g => .nx g
      | r => r) else .nx g
theorem s_while {t : Expr} {body : List Stmt} {pos : Pos} {mt : ST Bool} {m : SM} {n : Nat} (hp : PassesOwn (model X.prog X.w) X.A X.env X.xe) (ht : PT X t (liftB N xm W mt)) (hb : PSs X body (liftS N xm W m)) : PS X (.While t body [] pos) (liftS N xm W (sWhile mt m n)) := by
  refine impS (ps_while hp ht hb) fun D σ H ⟨g, fz, is, sr, h⟩ => ?_
  refine ⟨fun k σ H => ∃ g' fz' is', SR N σ H g' fz' is' ∧ postS N xm W D fz' H is' (sWhile mt m k g'), ⟨n, g, fz, is, sr, h⟩, ?_⟩
  rintro k σ1 H1 ⟨g1, fz1, is1, sr1, h1⟩
  cases k with
  | zero => exact h1.elim
  | succ k =>
    refine stepSB sr1 h1 fun r g2 H2 fz2 is2 l2 sr2 h2 => ?_
    cases r with
    | false => exact iteF (h2 σ1 H2 fz2 is2 .refl sr2)
    | true =>
      refine iteT ⟨fun σ H => ∃ g' fz' is', SR N σ H g' fz' is' ∧ postS N xm W D fz' H is' (sWhile mt m k g'), fun σ' H' q => ⟨k, Nat.lt_succ_self k, q⟩, g2, fz2, is2, sr2, ?_⟩
      simp only [if_true] at h2
      cases e : m g2 with
      | stuck => rw [e] at h2; exact h2
      | nx g3 => rw [e] at h2; exact fun σ3 H3 fz3 is3 l3 sr3 => ⟨g3, fz3, is3, sr3, h2.later l3⟩
      | ct g3 => rw [e] at h2; exact fun σ3 H3 fz3 is3 l3 sr3 => ⟨g3, fz3, is3, sr3, h2.later l3⟩
      | bk g3 => rw [e] at h2; exact h2
      | ret r S => rw [e] at h2; exact h2
      | exc x g3 => rw [e] at h2; exact h2

/-! ### a def by its body -/
/-- the slots at the entry -/
def env0 (n : Nat) (ds : List D) : List (Option SD) := ds.map (fun d => some (.d d)) ++ List.replicate (n - ds.length) none
/-- what a body makes of its arguments -/
def fnM (n : Nat) (b : SM) : FM := fun ds S => match b { env := env0 n ds, st := S } with
  | .nx g => .ok (.d .non) g.st
  | .ret r S => .ok r S
  | .exc e g => .exc e g.st
  | _ => .stuck
end
section
variable {P : Program} {w : World} {K : PySem.W.Frag} {mg : Str → Option Value} {base : Heap} {xm : XM}
theorem start_sr {n k : Nat} {Nm : List Str} {vs : List V} {ds : List D} {S : List C} {H : Hp} {fz : Addr → Prop} {is : List Addr} (pr : Pre K H S fz is) (rep : RepA K is fz H vs ds) (hn : Nm.length = n) (hl : vs.length ≤ n) :
    SR ⟨K, n, H, is, fz⟩ (L2.start Nm vs) H { env := env0 n ds, st := S } fz is := by
  have hd : ds.length = vs.length := rep.length.symm
  have el : ∀ (i : Nat) (x : SD), (env0 n ds)[i]? = some (some x) → ∃ d, ds[i]? = some d ∧ x = .d d := fun i x h => by
    unfold env0 at h
    by_cases hi : i < ds.length
    · rw [List.getElem?_append_left (by simpa using hi), List.getElem?_map] at h
      rw [List.getElem?_eq_getElem hi] at h ⊢
      cases h
      exact ⟨_, rfl, rfl⟩
    · rw [List.getElem?_append_right (by simpa using hi), List.getElem?_replicate] at h
      split at h <;> cases h
  refine ⟨fun i x h => ?_, fun i j p ⟨c, h⟩ => ?_, ?_, ?_, pr.dom, pr.stl, pr.st, pr.nd, fun b o h _ => h, fun b hb => .inl hb, fun b hb => hb, List.prefix_refl _, fun a ha => .inl ha⟩
  · obtain ⟨d, h1, rfl⟩ := el i x h
    obtain ⟨v, h2, h3⟩ := rep.get h1
    refine ⟨v, ?_, h3⟩
    have hi := (List.getElem?_eq_some_iff.mp h2).1
    unfold L2.start
    rw [List.getElem?_append_left (by simpa using hi), List.getElem?_map, h2]
    rfl
  · obtain ⟨d, _, e⟩ := el i _ h
    cases e
  · simp only [env0, L2.start, List.length_append, List.length_map, List.length_replicate]
    omega
  · simp only [L2.start, List.length_append, List.length_map, List.length_replicate]
    omega
/-- THE RULE: a def of the text does what its body's reading does -/
theorem fn_ok {x qual : Str} {st : Stmt} {f : Addr} {fd : FuncData} {Nm ps : List Str} {k n np : Nat} {m : SM} (F : Fun K x qual st f fd) (S : FnScope Nm ps (defScope st)) (hn : Nm.length = n) (hp : ps.length = np)
    (hbody : ∀ (cdv : Value) (A : Around) (outer : List Env) (s : Shared) (H : Hp) (N : En) (E : XK), N.K = K → N.n = n → N.H = H → Ent N → Room k (A.deeper (envOfC qual (defScope st) s.heap.objs.size f cdv)) →
      MC (cxOf (L2.CX P w) P w K mg base Nm qual (defScope st) f cdv A outer s H E) N (fun cls od _ H' => E cls od H') →
      PassesOwn (model P w) (cxOf (L2.CX P w) P w K mg base Nm qual (defScope st) f cdv A outer s H E).A (cxOf (L2.CX P w) P w K mg base Nm qual (defScope st) f cdv A outer s H E).env (cxOf (L2.CX P w) P w K mg base Nm qual (defScope st) f cdv A outer s H E).xe →
      PSs (cxOf (L2.CX P w) P w K mg base Nm qual (defScope st) f cdv A outer s H E) (defBody st) (liftS N xm (fun cls od _ H' => E cls od H') m)) :
    FnOk P w K mg base (L2.CX P w) (k + 1) f fd ps (spF K xm np (fnM n m)) := by
  have hpn : np ≤ n := by
    have := congrArg List.length S.pre
    rw [List.length_take] at this
    omega
  refine F.okX S (fun vs H Q E h => h.1.trans hp.symm) fun cdv A outer s H vs Q E hr h => ?_
  obtain ⟨hl, ds, St, fz, is, pr, rep, h⟩ := h
  refine ⟨_, hbody cdv A outer s H ⟨K, n, H, is, fz⟩ E rfl rfl rfl ⟨St, pr⟩ hr ⟨rfl, S.nd, rfl, ?_, takes_of rfl rfl rfl rfl⟩ (passes_of rfl), ?_⟩
  · have := hr.un
    show (A.deeper _).units + 65 < _
    omega
  · refine ⟨{ env := env0 n ds, st := St }, fz, is, start_sr (k := k) pr rep hn (by omega), ?_⟩
    unfold fnM at h
    cases e : m { env := env0 n ds, st := St } with
    | stuck => rw [e] at h; exact h
    | bk g => rw [e] at h; exact h.elim
    | ct g => rw [e] at h; exact h.elim
    | nx g =>
      rw [e] at h
      intro σ' H' fz' is' l sr
      exact h .non H' fz' is' (sr.aft ⟨St, pr⟩) .non
    | ret r S' => rw [e] at h; exact h
    | exc x g =>
      rw [e] at h
      intro cls od σ' H' fz' is' l sr rx
      exact h cls od H' fz' is' (sr.aft ⟨St, pr⟩) rx
end
end Mx

set_option Elab.async false
set_option linter.all false
set_option maxRecDepth 100000
/-! for, comprehensions -/
namespace Mx
open PySem PySem.Spec PyProof.Rows L2

/-- J serves xs, whatever comes behind the state -/
structure Serves (K : PySem.W.Frag) (J : It) (xs : List D) (fz0 : Addr → Prop) (H0 : Hp) (is0 : List Addr) : Prop where
  ex : ∃ (G : Hp → Prop) (Y : Nat → Hp → V → Hp → Prop), Walk J xs.length G Y ∧ (∀ fz H is, Le fz0 H0 is0 fz H is → G H) ∧
    ∀ i x fz H is v H', xs[i]? = some x → Le fz0 H0 is0 fz H is → Y i H v H' → ∃ fz', Grow fz H fz' H' ∧ Rep K is fz' H' v x
def postI (N : En) (xm : XM) (W : WX) (σ : L2.St) (H : Hp) (fz : Addr → Prop) (is : List Addr) (Q : It → Hp → Prop) : R (List D) → Prop
  | .stuck => False
  | .ok xs g' => ∀ J H' fz' is', Le fz H is fz' H' is' → SR N σ H' g' fz' is' → Serves N.K J xs fz' H' is' → Q J H'
  | .exc e g' => ∀ cls od H' fz' is', Le fz H is fz' H' is' → SR N σ H' g' fz' is' → ExRep xm N.K is' fz' H' e cls od → W cls od σ H'
def liftI (N : En) (xm : XM) (W : WX) (m : ST (List D)) : TI := fun σ H Q => ∃ g fz is, SR N σ H g fz is ∧ postI N xm W σ H fz is Q (m g)
section
variable {X : Cx} {N : En} {xm : XM} {W : WX} {tg iter : Expr}
theorem impI {t t' : TI} (h : PI X tg iter t) (i : ∀ σ H Q, t' σ H Q → t σ H Q) : PI X tg iter t' := ⟨fun pins s σ H R I q => h.run pins s σ H R I (i σ H R q)⟩
theorem PI.or {t t' : TI} (h : PI X tg iter t) (h' : PI X tg iter t') : PI X tg iter (fun σ H R => t σ H R ∨ t' σ H R) := ⟨fun pins s σ H R I q => q.elim (h.run pins s σ H R I) (h'.run pins s σ H R I)⟩
theorem postI.later {σ : L2.St} {H H1 : Hp} {fz fz1 : Addr → Prop} {is is1 : List Addr} {Q : It → Hp → Prop} (l : Le fz H is fz1 H1 is1) {x : R (List D)} (h : postI N xm W σ H fz is Q x) : postI N xm W σ H1 fz1 is1 Q x := by
  cases x with
  | stuck => exact h
  | ok r g' => exact fun J H' fz' is' l' => h J H' fz' is' (l.trans l')
  | exc e g' => exact fun cls od H' fz' is' l' => h cls od H' fz' is' (l.trans l')
theorem stepI {m : ST RV} {f : RV → ST (List D)} {Q : It → Hp → Prop} {Q' : VK} {σ : L2.St} {H : Hp} {g : Sg} {fz : Addr → Prop} {is : List Addr} (sr : SR N σ H g fz is) (h : postI N xm W σ H fz is Q ((m g).bind f))
    (k : ∀ r g1 v H1 fz1 is1, m g = .ok r g1 → Le fz H is fz1 H1 is1 → SR N σ H1 g1 fz1 is1 → RVRep N σ H1 g1 fz1 is1 v r → postI N xm W σ H1 fz1 is1 Q (f r g1) → Q' v H1) : lift N xm W m σ H Q' := by
  refine ⟨g, fz, is, sr, ?_⟩
  cases e : m g with
  | stuck => rw [e] at h; exact h
  | exc x g' => rw [e] at h; exact h
  | ok r g1 =>
    rw [e] at h
    intro v H1 fz1 is1 l sr1 rep
    exact k r g1 v H1 fz1 is1 e l sr1 rep (postI.later l h)

/-! ### what is walked -/
def signs (s : Str) : List D := s.cps.toList.map fun c => D.str ⟨#[c]⟩
def items : D → Option (List D)
  | .lst xs => some xs
  | .tup xs => some xs
  | .scr ns => some (ns.map D.int)
  | .str s => some (signs s)
  | _ => none
def mItems (m : ST RV) : ST (List D) := bnd m fun r => bnd (toD r) fun x g => match items x with
  | some xs => .ok xs g
  | none => .stuck
theorem Rep.at (l : Le fz0 H0 is0 fz H is) {K : PySem.W.Frag} {vs : List V} {xs : List D} (r : RepA K is0 fz0 H0 vs xs) {i : Nat} {v : V} {x : D} (hx : xs[i]? = some x) (hv : vs[i]? = some v) : Rep K is fz H v x := by
  obtain ⟨v', h1, h2⟩ := r.get hx
  rw [hv] at h1; cases h1
  exact h2.mono l
theorem serves_list {K : PySem.W.Frag} {a : Addr} {vs : List V} {xs : List D} {fz : Addr → Prop} {H : Hp} {is : List Addr} (hz : fz a) (h : H a = some (.lst vs)) (r : RepA K is fz H vs xs) : Serves K (Itl K a) xs fz H is := by
  refine ⟨⟨_, _, r.length ▸ walk_list (K := K) (a := a) (xs := vs), fun fz' H' is' l => .of (by rw [l.hp a hz]; exact h), ?_⟩⟩
  rintro i x fz' H' is' v _ hx l ⟨rfl, hv⟩
  exact ⟨fz', .same, Rep.at l r hx hv⟩
theorem serves_tup {K : PySem.W.Frag} {a : Addr} {vs : List V} {xs : List D} {fz : Addr → Prop} {H : Hp} {is : List Addr} (h : (fz a ∧ H a = some (.tup vs)) ∨ StT K a vs) (r : RepA K is fz H vs xs) : Serves K (Itt K a) xs fz H is := by
  refine ⟨⟨_, _, r.length ▸ walk_tup (K := K) (a := a) (xs := vs), fun fz' H' is' l => ?_, ?_⟩⟩
  · rcases h with ⟨hz, h⟩ | h
    · exact .of (by rw [l.hp a hz]; exact h)
    · exact .inr h
  rintro i x fz' H' is' v _ hx l ⟨rfl, hv⟩
  exact ⟨fz', .same, Rep.at l r hx hv⟩
theorem serves_scr {K : PySem.W.Frag} {a : Addr} {ns : List Int} {fz : Addr → Prop} {H : Hp} {is : List Addr} (h : (fz a ∧ Rd H a (.lst (ns.map V.int))) ∨ StL K a (ns.map V.int)) : Serves K (Itl K a) (ns.map D.int) fz H is := by
  have e : (ns.map V.int).length = (ns.map D.int).length := by simp
  refine ⟨⟨_, _, e ▸ walk_list (K := K) (a := a) (xs := ns.map V.int), fun fz' H' is' l => ?_, ?_⟩⟩
  · rcases h with ⟨hz, h⟩ | h
    · exact .inl (by unfold Rd at h ⊢; rw [l.hp a hz]; exact h)
    · exact .inr h
  rintro i x fz' H' is' v _ hx l ⟨rfl, hv⟩
  refine ⟨fz', .same, ?_⟩
  rw [List.getElem?_map] at hx hv
  cases q : ns[i]? with
  | none => rw [q] at hx; cases hx
  | some n => rw [q] at hx hv; cases hx; cases hv; exact .int n
theorem strOk_sign {z : Str} (h : StrOk z) {c : Nat} (hc : c ∈ z.cps.toList) : StrOk ⟨#[c]⟩ := by
  have h1 := h.cps
  unfold okS at h1
  rw [Array.all_eq_true_iff_forall_mem] at h1
  refine ⟨?_, by show 1 ≤ sizeLine; decide⟩
  unfold okS
  have := h1 c (by simpa using hc)
  simpa using this
theorem serves_str {K : PySem.W.Frag} {z : Str} {fz : Addr → Prop} {H : Hp} {is : List Addr} (ok : StrOk z) : Serves K (Its z) (signs z) fz H is := by
  have e : z.cps.size = (signs z).length := by simp [signs]
  refine ⟨⟨_, _, e ▸ walk_str (z := z), fun _ _ _ _ => trivial, ?_⟩⟩
  rintro i x fz' H' is' v _ hx l ⟨rfl, c, hc, rfl⟩
  refine ⟨fz', .same, ?_⟩
  have : (signs z)[i]? = some (.str ⟨#[c]⟩) := by
    unfold signs
    rw [List.getElem?_map, Array.getElem?_toList, hc]
    rfl
  rw [this] at hx; cases hx
  exact .str _ (strOk_sign ok (by rw [← Array.getElem?_toList] at hc; exact List.mem_of_getElem? hc))
theorem items_ok {Q : It → Hp → Prop} {σ : L2.St} {H : Hp} {m : ST RV} (c : MC X N W) (h : liftI N xm W (mItems m) σ H Q) : (iList X.K (lift N xm W m) σ H Q ∨ iTup X.K (lift N xm W m) σ H Q) ∨ iStr (lift N xm W m) σ H Q := by
  have hK := c.hK
  obtain ⟨g, fz, is, sr, h⟩ := h
  simp only [mItems, bnd] at h
  cases e : m g with
  | stuck => rw [e] at h; exact h.elim
  | exc x g' =>
    rw [e] at h
    exact .inr ⟨g, fz, is, sr, by rw [e]; exact h⟩
  | ok r g1 =>
    rw [e, bind_ok] at h
    simp only [bnd] at h
    cases e2 : toD r g1 with
    | stuck => rw [e2] at h; exact h.elim
    | exc x g' =>
      exfalso
      cases r <;> simp only [toD, ret] at e2
      · cases e2
      · cases e2
      · split at e2 <;> cases e2
    | ok x g2 =>
      rw [e2, bind_ok] at h
      have go : ∀ {Q' : VK}, (∀ v H1 fz1 is1, Le fz H is fz1 H1 is1 → SR N σ H1 g2 fz1 is1 → Rep N.K is1 fz1 H1 v x → Q' v H1) → lift N xm W m σ H Q' := fun {Q'} k => by
        refine ⟨g, fz, is, sr, ?_⟩
        rw [e]
        intro v H1 fz1 is1 l sr1 rep
        obtain ⟨fz2, l2, sr2, rep2⟩ := toD_ok sr1 rep e2
        exact k v H1 fz2 is1 (l.trans l2) sr2 rep2
      cases x with
      | lst xs =>
        refine .inl (.inl (go fun v H1 fz1 is1 l sr1 rep => ?_))
        cases rep with
        | @lst a vs _ hz ha hr => exact ⟨a, rfl, ⟨vs, .of ha⟩, h _ H1 fz1 is1 l sr1 (by rw [hK] at hr ⊢; exact serves_list hz ha hr)⟩
      | tup xs =>
        refine .inl (.inr (go fun v H1 fz1 is1 l sr1 rep => ?_))
        cases rep with
        | @tup a vs _ ha hr =>
          rw [hK] at ha
          refine ⟨a, rfl, ⟨vs, ?_⟩, h _ H1 fz1 is1 l sr1 (by rw [hK] at hr ⊢; exact serves_tup ha hr)⟩
          rcases ha with ⟨_, ha⟩ | ha
          · exact .of ha
          · exact .inr ha
      | scr ns =>
        refine .inl (.inl (go fun v H1 fz1 is1 l sr1 rep => ?_))
        cases rep with
        | @scr a _ ha =>
          rw [hK] at ha
          refine ⟨a, rfl, ⟨ns.map V.int, ?_⟩, h _ H1 fz1 is1 l sr1 (by rw [hK]; exact serves_scr ha)⟩
          rcases ha with ⟨_, ha⟩ | ha
          · exact .inl ha
          · exact .inr ha
      | str z =>
        refine .inr (go fun v H1 fz1 is1 l sr1 rep => ?_)
        cases rep with
        | str _ ok => exact ⟨z, rfl, h _ H1 fz1 is1 l sr1 (serves_str ok)⟩
      | _ => exact h.elim
theorem i_any {m : ST RV} (c : MC X N W) (he : PE X iter (lift N xm W m)) : PI X tg iter (liftI N xm W (mItems m)) := impI (PI.or (PI.or (pi_list he) (pi_tup he)) (pi_str he)) fun _ _ _ h => items_ok c h
/-! range -/
def rng (lo : Int) (n : Nat) : List D := (List.range n).map fun (i : Nat) => D.int (lo + (i : Int))
def rng1 : List D → Option (List D)
  | [.int j] => if -(2 ^ 62) ≤ j ∧ j < 2 ^ 62 then some (rng 0 j.toNat) else none
  | _ => none
def rng2 : List D → Option (List D)
  | [.int i, .int j] => if -(2 ^ 62) ≤ i ∧ i < 2 ^ 62 ∧ -(2 ^ 62) ≤ j ∧ j < 2 ^ 62 then some (rng i (j - i).toNat) else none
  | _ => none
def mRange (f : List D → Option (List D)) (ms : List (ST RV)) : ST (List D) := bnd (argsD ms) fun xs g => match f xs with
  | some ys => .ok ys g
  | none => .stuck
theorem serves_rng {K : PySem.W.Frag} {lo : Int} {n : Nat} {fz : Addr → Prop} {H : Hp} {is : List Addr} : Serves K (Itr lo n) (rng lo n) fz H is := by
  have e : n = (rng lo n).length := by simp [rng]
  have w := walk_range (lo := lo) (n := n)
  have w' : Walk (Itr lo n) (rng lo n).length (fun _ => True) (YFn fun i => .int (lo + i)) := by rw [← e]; exact w
  refine ⟨⟨_, _, w', fun _ _ _ _ => trivial, ?_⟩⟩
  rintro i x fz' H' is' v _ hx l ⟨rfl, rfl⟩
  refine ⟨fz', .same, ?_⟩
  unfold rng at hx
  rw [List.getElem?_map] at hx
  by_cases hi : i < n
  · rw [List.getElem?_range hi] at hx
    cases hx
    exact .int _
  · rw [List.getElem?_eq_none (by simpa using hi)] at hx; cases hx
theorem stepID {ms : List (ST RV)} {f : List D → ST (List D)} {Q : It → Hp → Prop} {Q' : List V → Hp → Prop} {σ : L2.St} {H : Hp} {g : Sg} {fz : Addr → Prop} {is : List Addr} (sr : SR N σ H g fz is) (h : postI N xm W σ H fz is Q ((argsD ms g).bind f))
    (k : ∀ xs g1 vs H1 fz1 is1, Le fz H is fz1 H1 is1 → SR N σ H1 g1 fz1 is1 → RepA N.K is1 fz1 H1 vs xs → postI N xm W σ H1 fz1 is1 Q (f xs g1) → Q' vs H1) : liftD N xm W ms σ H Q' := by
  refine ⟨g, fz, is, sr, ?_⟩
  cases e : argsD ms g with
  | stuck => rw [e] at h; exact h
  | exc x g' => rw [e] at h; exact h
  | ok r g1 =>
    rw [e] at h
    intro vs H1 fz1 is1 l sr1 rep
    exact k r g1 vs H1 fz1 is1 l sr1 rep (postI.later l h)
theorem i_range1 {a : Expr} {m : ST RV} {p pos : Pos} (c : MC X N W) (hg : Gl X "range") (hm : X.mg "range" = none) (ha : PA X [a] (liftD N xm W [m])) (hs : starEach [a] X.env = [(false, eval a X.env)] := by rfl) :
    PI X tg (.Call (.Name "range" p) [a] [] pos) (liftI N xm W (mRange rng1 [m])) := by
  refine impI (pi_range1 hg hm ha hs) fun σ H Q ⟨g, fz, is, sr, h⟩ => stepID sr h fun xs g1 vs H1 fz1 is1 l1 sr1 rep h1 => ?_
  split at h1
  · rename_i ys hys
    unfold rng1 at hys
    split at hys
    · rename_i j
      split at hys
      · rename_i hj
        cases hys
        cases rep with
        | cons r t =>
          cases t
          cases r
          exact ⟨j, rfl, hj.1, hj.2, h1 _ H1 fz1 is1 .refl sr1 serves_rng⟩
      · cases hys
    · cases hys
  · exact h1.elim
theorem i_range2 {a b : Expr} {m m' : ST RV} {p pos : Pos} (c : MC X N W) (hg : Gl X "range") (hm : X.mg "range" = none) (ha : PA X [a, b] (liftD N xm W [m, m'])) (hs : starEach [a, b] X.env = [(false, eval a X.env), (false, eval b X.env)] := by rfl) (hs2 : starEach [b] X.env = [(false, eval b X.env)] := by rfl) :
    PI X tg (.Call (.Name "range" p) [a, b] [] pos) (liftI N xm W (mRange rng2 [m, m'])) := by
  refine impI (pi_range2 hg hm ha hs hs2) fun σ H Q ⟨g, fz, is, sr, h⟩ => stepID sr h fun xs g1 vs H1 fz1 is1 l1 sr1 rep h1 => ?_
  split at h1
  · rename_i ys hys
    unfold rng2 at hys
    split at hys
    · rename_i i j
      split at hys
      · rename_i hj
        cases hys
        cases rep with
        | cons r t =>
          cases t with
          | cons r' t =>
            cases t
            cases r
            cases r'
            exact ⟨i, j, rfl, hj, h1 _ H1 fz1 is1 .refl sr1 serves_rng⟩
      · cases hys
    · cases hys
  · exact h1.elim

/-! ### targets -/
abbrev TgM := D → Sg → Option Sg
/-- a target sets the slots ts alone -/
def TgF (N : En) (ts : List Nat) (gt : TG) (t : TgM) : Prop := ∀ σ H g fz is v x g' (Q : L2.St → Hp → Prop), SR N σ H g fz is → Rep N.K is fz H v x → t x g = some g' →
  (∀ σ', SR N σ' H g' fz is → (∀ vs, (∀ i ∈ ts, i ∈ vs) → wipe σ' vs = wipe σ vs) → Q σ' H) → gt v σ H Q
theorem wipe_get {σ : L2.St} : ∀ (vs : List Nat) (i : Nat), (wipe σ vs)[i]? = if i ∈ vs ∧ i < σ.length then some none else σ[i]?
  | [], i => by simp [wipe]
  | v :: vs, i => by
    unfold wipe
    by_cases hv : v = i
    · subst hv
      by_cases hl : v < σ.length
      · rw [List.getElem?_set_self (by rw [wipe_length]; exact hl), if_pos ⟨List.mem_cons_self, hl⟩]
      · rw [List.getElem?_eq_none (by rw [List.length_set, wipe_length]; omega), if_neg (fun h => hl h.2), List.getElem?_eq_none (by omega)]
    · rw [List.getElem?_set_ne hv, wipe_get vs i]
      have : (i ∈ v :: vs ∧ i < σ.length) ↔ (i ∈ vs ∧ i < σ.length) := by simp [List.mem_cons, Ne.symm hv]
      by_cases h : i ∈ vs ∧ i < σ.length
      · rw [if_pos h, if_pos (this.mpr h)]
      · rw [if_neg h, if_neg (fun z => h (this.mp z))]
theorem wipe_set {σ : L2.St} {i : Nat} {x : Option V} {vs : List Nat} (h : i ∈ vs) : wipe (σ.set i x) vs = wipe σ vs := by
  apply List.ext_getElem?
  intro j
  rw [wipe_get, wipe_get, List.length_set]
  by_cases hj : j ∈ vs ∧ j < σ.length
  · rw [if_pos hj, if_pos hj]
  · rw [if_neg hj, if_neg hj]
    by_cases e : i = j
    · subst e
      by_cases hl : i < σ.length
      · exact absurd ⟨h, hl⟩ hj
      · rw [List.getElem?_eq_none (by rw [List.length_set]; omega), List.getElem?_eq_none (by omega)]
    · rw [List.getElem?_set_ne e]
def tName (i : Nat) : TgM := fun x g => some { g with env := g.env.set i (some (.d x)) }
theorem tg_name {i : Nat} (hi : i < N.n) : TgF N [i] (gName i) (tName i) := by
  intro σ H g fz is v x g' Q sr rep e q
  cases e
  exact q _ (sr.setD rep (by rw [sr.sz]; exact hi)) fun vs h => wipe_set (h i (by simp))
def tNames : List Nat → List D → Sg → Option Sg
  | [], [], g => some g
  | i :: is, x :: xs, g => (tName i x g).bind (tNames is xs)
  | _, _, _ => none
def gNames : List Nat → TGs
  | [] => gNil
  | i :: is => gCons (gName i) (gNames is)
def tPair (is : List Nat) : TgM := fun x g => match x with
  | .tup xs => if xs.length = is.length then tNames is xs g else none
  | _ => none
theorem names_ok : ∀ (ts : List Nat) (hi : ∀ i ∈ ts, i < N.n) (σ : L2.St) (H : Hp) (g : Sg) (fz : Addr → Prop) (is : List Addr) (vs : List V) (xs : List D) (g' : Sg) (Q : L2.St → Hp → Prop), SR N σ H g fz is → RepA N.K is fz H vs xs → tNames ts xs g = some g' →
    (∀ σ', SR N σ' H g' fz is → (∀ ws, (∀ i ∈ ts, i ∈ ws) → wipe σ' ws = wipe σ ws) → Q σ' H) → gNames ts vs σ H Q
  | [], _, σ, H, g, fz, is, vs, xs, g', Q, sr, rep, e, q => by
    cases xs with
    | nil => cases e; cases rep; exact ⟨rfl, q σ sr fun _ _ => rfl⟩
    | cons => cases e
  | i :: ts, hi, σ, H, g, fz, is, vs, xs, g', Q, sr, rep, e, q => by
    cases xs with
    | nil => cases e
    | cons x xs =>
      cases rep with
      | cons r rr =>
        refine ⟨_, _, rfl, ?_⟩
        have sr1 := sr.setD r (by rw [sr.sz]; exact hi i (by simp) : i < σ.length)
        refine names_ok ts (fun j hj => hi j (by simp [hj])) _ H _ fz is _ xs g' Q sr1 rr e fun σ' sr' hw => q σ' sr' fun ws h => ?_
        rw [hw ws (fun j hj => h j (by simp [hj])), wipe_set (h i (by simp))]
theorem tg_pair {ts : List Nat} (hi : ∀ i ∈ ts, i < N.n) (hK : N.K = X.K) : TgF N ts (gTup X.K ts.length (gNames ts)) (tPair ts) := by
  intro σ H g fz is v x g' Q sr rep e q
  cases x with
  | tup xs =>
    simp only [tPair] at e
    split at e
    · rename_i hl
      cases rep with
      | @tup a vs _ ha hr =>
        refine ⟨a, vs, rfl, ?_, by rw [hr.length]; exact hl, names_ok ts hi σ H g fz is vs xs g' Q sr hr e q⟩
        rw [hK] at ha
        rcases ha with ⟨_, ha⟩ | ha
        · exact .of ha
        · exact .inr ha
    · cases e
  | _ => cases e

/-! ### for -/
def forM (tg : TgM) (b : SM) : List D → SM
  | [] => fun g => .nx g
  | x :: xs => fun g => match tg x g with
    | none => .stuck
    | some g => match b g with
      | .nx g => forM tg b xs g
      | .ct g => forM tg b xs g
      | .bk g => .nx g
      | r => r
def sFor (mi : ST (List D)) (tg : TgM) (b : SM) : SM := fun g => (mi g).to (forM tg b)
theorem s_for {body : List Stmt} {mi : ST (List D)} {ts : List Nat} {gt : TG} {t : TgM} {m : SM} {pos : Pos} (c : MC X N W) (hp : PassesOwn (model X.prog X.w) X.A X.env X.xe) (hi : PI X tg iter (liftI N xm W mi)) (hg : PG X tg gt) (ht : TgF N ts gt t) (hb : PSs X body (liftS N xm W m))
    (hs : ∀ x, foldedSetIterable iter X.env x = pure x := by intro _; rfl) : PS X (.For tg iter body [] pos) (liftS N xm W (sFor mi t m)) := by
  refine impS (ps_for hp c.calm hi hg hb hs) fun D σ H ⟨g, fz, is, sr, h⟩ => ?_
  refine ⟨g, fz, is, sr, ?_⟩
  simp only [sFor] at h
  cases e : mi g with
  | stuck => rw [e] at h; exact h
  | exc x g' => rw [e] at h; exact fun cls od H' fz' is' l sr' => h cls od σ H' fz' is' l sr'
  | ok xs g1 =>
    rw [e, R.to_ok] at h
    intro J H1 fz1 is1 l1 sr1 ⟨G, Y, wk, hG, hY⟩
    have h := postS.later l1 h
    refine for_it wk (fun i σ H => ∃ g fz is, SR N σ H g fz is ∧ Le fz1 H1 is1 fz H is ∧ postS N xm W D fz H is (forM t m (xs.drop i) g)) ⟨g1, fz1, is1, sr1, .refl, h⟩ (fun i σ H _ ⟨g, fz, is, _, l, _⟩ => hG fz H is l) ?_ ?_
    · rintro i v σ2 H2 H2' hlt ⟨g2, fz2, is2, sr2, l2, h2⟩ y
      have hx : xs[i]? = some xs[i] := by simp [hlt]
      obtain ⟨fz3, gr, rep⟩ := hY i xs[i] fz2 H2 is2 v H2' hx l2 y
      have sr3 := gr.sr sr2
      have l3 := gr.le sr2
      rw [List.drop_eq_getElem_cons hlt] at h2
      simp only [forM] at h2
      cases e2 : t xs[i] g2 with
      | none => rw [e2] at h2; exact h2.elim
      | some g3 =>
        rw [e2] at h2
        dsimp only at h2
        refine ht σ2 H2' g2 fz3 is2 v xs[i] g3 _ sr3 rep e2 fun σ3 sr3' _ => ?_
        refine ⟨g3, fz3, is2, sr3', ?_⟩
        have h2 := h2.later l3
        cases e3 : m g3 with
        | stuck => rw [e3] at h2; exact h2
        | nx g4 => rw [e3] at h2; exact fun σ4 H4 fz4 is4 l4 sr4 => ⟨g4, fz4, is4, sr4, (l2.trans l3).trans l4, h2.later l4⟩
        | ct g4 => rw [e3] at h2; exact fun σ4 H4 fz4 is4 l4 sr4 => ⟨g4, fz4, is4, sr4, (l2.trans l3).trans l4, h2.later l4⟩
        | bk g4 => rw [e3] at h2; exact h2
        | ret r S => rw [e3] at h2; exact h2
        | exc x g4 => rw [e3] at h2; exact h2
    · rintro σ2 H2 ⟨g2, fz2, is2, sr2, l2, h2⟩
      rw [List.drop_length] at h2
      exact h2 σ2 H2 fz2 is2 .refl sr2

/-! ### list comprehensions -/
def wipeE (env : List (Option SD)) : List Nat → List (Option SD)
  | [] => env
  | v :: vs => (wipeE env vs).set v none
def keepD : Option SD → Option SD
  | some (.d x) => some (.d x)
  | _ => none
/-- slots vs as they were -/
def backE (old env : List (Option SD)) : List Nat → List (Option SD)
  | [] => env
  | v :: vs => (backE old env vs).set v (keepD (old.getD v none))
theorem wipeE_length (env : List (Option SD)) : ∀ vs, (wipeE env vs).length = env.length
  | [] => rfl
  | v :: vs => by simp [wipeE, wipeE_length env vs]
theorem backE_length (old env : List (Option SD)) : ∀ vs, (backE old env vs).length = env.length
  | [] => rfl
  | v :: vs => by simp [backE, backE_length old env vs]
theorem wipeE_some {env : List (Option SD)} {i : Nat} {x : SD} : ∀ {vs : List Nat}, (wipeE env vs)[i]? = some (some x) → env[i]? = some (some x) ∧ i ∉ vs
  | [], h => ⟨h, by simp⟩
  | v :: vs, h => by
    unfold wipeE at h
    by_cases hi : v = i
    · subst hi
      by_cases hv : v < (wipeE env vs).length
      · rw [List.getElem?_set_self hv] at h; cases h
      · rw [List.getElem?_eq_none (by simpa using hv)] at h; cases h
    · rw [List.getElem?_set_ne hi] at h
      obtain ⟨h1, h2⟩ := wipeE_some h
      exact ⟨h1, by simp only [List.mem_cons, not_or]; exact ⟨fun e => hi e.symm, h2⟩⟩
theorem backE_some {old env : List (Option SD)} {i : Nat} {x : SD} : ∀ {vs : List Nat}, (backE old env vs)[i]? = some (some x) → (i ∈ vs ∧ old[i]? = some (some x) ∧ ∃ d, x = .d d) ∨ (i ∉ vs ∧ env[i]? = some (some x))
  | [], h => .inr ⟨by simp, h⟩
  | v :: vs, h => by
    unfold backE at h
    by_cases hi : v = i
    · subst hi
      by_cases hv : v < (backE old env vs).length
      · rw [List.getElem?_set_self hv] at h
        left
        refine ⟨by simp, ?_⟩
        rw [List.getD_eq_getElem?_getD] at h
        cases q : old[v]? with
        | none => rw [q] at h; simp [keepD] at h
        | some y =>
          rw [q] at h
          cases y with
          | none => simp [keepD] at h
          | some y =>
            cases y with
            | own c => simp [keepD] at h
            | d y => simp [keepD] at h; subst h; exact ⟨rfl, y, rfl⟩
      · rw [List.getElem?_eq_none (by simpa using hv)] at h; cases h
    · rw [List.getElem?_set_ne hi] at h
      rcases backE_some h with ⟨h1, h2⟩ | ⟨h1, h2⟩
      · exact .inl ⟨by simp [h1], h2⟩
      · exact .inr ⟨by simp only [List.mem_cons, not_or]; exact ⟨fun e => hi e.symm, h1⟩, h2⟩
theorem wipe_keep {σ : L2.St} {vs : List Nat} {i : Nat} (h : i ∉ vs) : (wipe σ vs)[i]? = σ[i]? := by
  rw [wipe_get, if_neg (fun z => h z.1)]
theorem SR.wipe {σ : L2.St} {H : Hp} {g : Sg} {fz : Addr → Prop} {is : List Addr} (sr : SR N σ H g fz is) (vs : List Nat) : SR N (L2.wipe σ vs) H { g with env := wipeE g.env vs } fz is := by
  refine ⟨fun i x h => ?_, fun i j p ⟨c, h1⟩ ⟨c', h2⟩ h3 h4 => ?_, by simp [wipeE_length, wipe_length, sr.len], by rw [wipe_length]; exact sr.sz, sr.dom, sr.stl, sr.st, sr.nd, sr.frame, sr.fzn, sr.fz0, sr.isx, sr.isn⟩
  · obtain ⟨h1, h2⟩ := wipeE_some h
    obtain ⟨v, h3, h4⟩ := sr.env i x h1
    exact ⟨v, by rw [wipe_keep h2]; exact h3, h4⟩
  · obtain ⟨h1, n1⟩ := wipeE_some h1
    obtain ⟨h2, n2⟩ := wipeE_some h2
    rw [wipe_keep n1] at h3
    rw [wipe_keep n2] at h4
    exact sr.dist i j p ⟨c, h1⟩ ⟨c', h2⟩ h3 h4
/-- back in the block around: the wiped slots are as they were -/
theorem SR.back {σ : L2.St} {H H' : Hp} {g g' : Sg} {fz fz' : Addr → Prop} {is is' : List Addr} {vs : List Nat} (sr : SR N σ H g fz is) (l : Le fz H is fz' H' is') (sr' : SR N (L2.wipe σ vs) H' { g' with env := wipeE g'.env vs } fz' is') :
    SR N σ H' { g' with env := backE g.env g'.env vs } fz' is' := by
  have up : ∀ i x, i ∉ vs → g'.env[i]? = some (some x) → (wipeE g'.env vs)[i]? = some (some x) := by
    intro i x
    induction vs with
    | nil => exact fun _ h => h
    | cons v vs ih =>
      intro hn h
      simp only [List.mem_cons, not_or] at hn
      unfold wipeE
      rw [List.getElem?_set_ne (Ne.symm hn.1)]
      have : ∀ ws, i ∉ ws → (wipeE g'.env ws)[i]? = some (some x) := by
        intro ws
        induction ws with
        | nil => exact fun _ => h
        | cons w ws ih2 =>
          intro hw
          simp only [List.mem_cons, not_or] at hw
          unfold wipeE
          rw [List.getElem?_set_ne (Ne.symm hw.1)]
          exact ih2 hw.2
      exact this vs hn.2
  refine ⟨fun i x h => ?_, fun i j p ⟨c, h1⟩ ⟨c', h2⟩ h3 h4 => ?_, ?_, sr.sz, sr'.dom, sr'.stl, sr'.st, sr'.nd, sr'.frame, sr'.fzn, sr'.fz0, sr'.isx, sr'.isn⟩
  · rcases backE_some h with ⟨h1, h2, d, rfl⟩ | ⟨h1, h2⟩
    · obtain ⟨v, h3, h4⟩ := sr.env i _ h2
      exact ⟨v, h3, Rep.mono l h4⟩
    · obtain ⟨v, h3, h4⟩ := sr'.env i x (up i x h1 h2)
      rw [wipe_keep h1] at h3
      exact ⟨v, h3, h4⟩
  · rcases backE_some h1 with ⟨_, _, d, e⟩ | ⟨n1, h1⟩
    · cases e
    rcases backE_some h2 with ⟨_, _, d, e⟩ | ⟨n2, h2⟩
    · cases e
    exact sr'.dist i j p ⟨c, up i _ n1 h1⟩ ⟨c', up j _ n2 h2⟩ (by rw [wipe_keep n1]; exact h3) (by rw [wipe_keep n2]; exact h4)
  · have := sr'.len
    simp only [wipeE_length, wipe_length] at this
    simp only [backE_length]
    exact this
/-- an object that nobody else may change counts as the entry's -/
def En.with (N : En) (p : Addr) (o : HO) : En := { N with H := upd N.H p o }
theorem SR.guard {σ : L2.St} {H : Hp} {g : Sg} {fz : Addr → Prop} {is : List Addr} {p : Addr} {o : HO} (sr : SR N σ H g fz is) (f : Free N σ g fz is p) (h : H p = some o) : SR (N.with p o) σ H g fz is := by
  refine ⟨fun i x e => ?_, sr.dist, sr.len, sr.sz, sr.dom, sr.stl, sr.st, sr.nd, fun b u h1 h2 => ?_, fun b hb => ?_, sr.fz0, sr.isx, fun b hb => ?_⟩
  · obtain ⟨v, h1, h2⟩ := sr.env i x e
    refine ⟨v, h1, ?_⟩
    cases x with
    | d x => exact h2
    | own c =>
      obtain ⟨q, rfl, h3, h4⟩ := h2
      refine ⟨q, rfl, ⟨h3.nf, h3.ni, ?_⟩, h4⟩
      show upd N.H p o q = none
      rw [upd_ne (fun (z : q = p) => f.ns i ⟨c, e⟩ (z ▸ h1))]
      exact h3.new
  · have h1 : upd N.H p o b = some u := h1
    by_cases e : b = p
    · subst e; rw [upd_same] at h1; cases h1; exact h
    · rw [upd_ne e] at h1; exact sr.frame b u h1 h2
  · rcases sr.fzn b hb with z | z
    · exact .inl z
    · right
      show upd N.H p o b = none
      rw [upd_ne (fun (e : b = p) => f.own.nf (e ▸ hb))]; exact z
  · rcases sr.isn b hb with z | z
    · exact .inl z
    · right
      show upd N.H p o b = none
      rw [upd_ne (fun (e : b = p) => f.own.ni (e ▸ hb))]; exact z
theorem SR.unguard {σ : L2.St} {H : Hp} {g : Sg} {fz : Addr → Prop} {is : List Addr} {p : Addr} {o : HO} (sr : SR (N.with p o) σ H g fz is) (hz : ¬ N.fz p) (hi : p ∉ N.is) (hn : N.H p = none) : SR N σ H g fz is ∧ Free N σ g fz is p ∧ H p = some o := by
  have ne : ∀ b, upd N.H p o b = none → b ≠ p ∧ N.H b = none := fun b h => by
    by_cases e : b = p
    · subst e; rw [upd_same] at h; cases h
    · rw [upd_ne e] at h; exact ⟨e, h⟩
  have nf : ¬ fz p := fun z => by
    rcases sr.fzn p z with q | q
    · exact hz q
    · exact (ne p q).1 rfl
  have ni : p ∉ is := fun z => by
    rcases sr.isn p z with q | q
    · exact hi q
    · exact (ne p q).1 rfl
  refine ⟨⟨fun i x e => ?_, sr.dist, sr.len, sr.sz, sr.dom, sr.stl, sr.st, sr.nd, fun b u h1 h2 => ?_, fun b hb => ?_, sr.fz0, sr.isx, fun b hb => ?_⟩, ⟨⟨nf, ni, hn⟩, fun i ⟨c, e⟩ h1 => ?_⟩, sr.frame p o upd_same hi⟩
  · obtain ⟨v, h1, h2⟩ := sr.env i x e
    refine ⟨v, h1, ?_⟩
    cases x with
    | d x => exact h2
    | own c =>
      obtain ⟨q, rfl, h3, h4⟩ := h2
      exact ⟨q, rfl, ⟨h3.nf, h3.ni, (ne q h3.new).2⟩, h4⟩
  · refine sr.frame b u ?_ h2
    show upd N.H p o b = some u
    rw [upd_ne (fun e => by subst e; rw [hn] at h1; cases h1)]; exact h1
  · rcases sr.fzn b hb with z | z
    · exact .inl z
    · exact .inr (ne b z).2
  · rcases sr.isn b hb with z | z
    · exact .inl z
    · exact .inr (ne b z).2
  · obtain ⟨q, h2, h3, _⟩ := sr.own_at e
    rw [h1] at h2; cases h2
    exact (ne p h3.new).1 rfl
def compM (vs : List Nat) (t : TgM) (tt : ST Bool) (me : ST RV) : List D → List D → Sg → R (List D)
  | [], acc, g => .ok acc g
  | x :: xs, acc, g => match t x { g with env := wipeE g.env vs } with
    | none => .stuck
    | some g => match tt g with
      | .ok false g => compM vs t tt me xs acc g
      | .ok true g => match me g with
        | .ok r g => match toD r g with
          | .ok d g => if acc.length < sizeLine then compM vs t tt me xs (acc ++ [d]) g else .stuck
          | _ => .stuck
        | _ => .stuck
      | _ => .stuck
def endC (g0 : Sg) (vs : List Nat) : R (List D) → R RV
  | .ok ys g => .ok (.tmp (.lst ys)) { g with env := backE g0.env g.env vs }
  | _ => .stuck
def mComp (mi : ST (List D)) (vs : List Nat) (t : TgM) (tt : ST Bool) (me : ST RV) : ST RV := bnd mi fun xs g => endC g vs (compM vs t tt me xs [] g)
def mYes : ST Bool := ret true
abbrev WF : WX := fun _ _ _ _ => False
/-- a reading for every entry of that kind -/
def anyE (N : En) (xm : XM) (m : ST RV) : TE := fun σ H Q => ∃ N' : En, N'.K = N.K ∧ N'.n = N.n ∧ lift N' xm WF m σ H Q
def anyT (N : En) (xm : XM) (m : ST Bool) : TT := fun σ H Q => ∃ N' : En, N'.K = N.K ∧ N'.n = N.n ∧ liftB N' xm WF m σ H Q
theorem postE_exc {N : En} {σ : L2.St} {H : Hp} {fz : Addr → Prop} {is : List Addr} {Q : VK} {e : Ex} {g : Sg} (h : False) : postE N xm WF σ H fz is Q (.exc e g) := h.elim
theorem comp_ok {mi : ST (List D)} {vs ts : List Nat} {gt : TG} {t : TgM} {tt : ST Bool} {me : ST RV} (c : MC X N W) (ht : ∀ N' : En, N'.n = N.n → N'.K = N.K → TgF N' ts gt t) (hts : ∀ i ∈ ts, i ∈ vs) {σ : L2.St} {H : Hp} {Q : VK} (h : lift N xm W (mComp mi vs t tt me) σ H Q) :
    tLc (liftI N xm W mi) gt (anyT N xm tt) (anyE N xm me) vs σ H Q := by
  obtain ⟨g, fz, is, sr, h⟩ := h
  refine ⟨g, fz, is, sr, ?_⟩
  simp only [mComp, bnd] at h
  cases e : mi g with
  | stuck => rw [e] at h; exact h
  | exc x g' => rw [e] at h; exact h
  | ok xs g1 =>
    rw [e, bind_ok] at h
    intro J H1 fz1 is1 l1 sr1 ⟨G, Y, wk, hG, hY⟩
    have h := postE.later l1 h
    intro P hP
    have fP := sr1.free hP
    have lP : Le fz1 H1 is1 fz1 (upd H1 P (.lst [])) is1 := Le.alloc fP.own.nf
    have sr1' := sr1.alter fP (.lst [])
    have h := h.later lP
    -- what stands between two turns
    refine lc_it wk (fun i H => ∃ g fz is us acc, SR N (L2.wipe σ vs) H { g with env := wipeE g.env vs } fz is ∧ Le fz1 H1 is1 fz H is ∧ Free N (L2.wipe σ vs) { g with env := wipeE g.env vs } fz is P ∧ H P = some (.lst us) ∧ RepA N.K is fz H us acc ∧
      postE N xm W σ H fz is Q (endC g1 vs (compM vs t tt me (xs.drop i) acc g))) ?_ (fun i H _ ⟨g, fz, is, us, acc, _, l, _⟩ => hG fz H is l) ?_ ?_
    · refine ⟨g1, fz1, is1, [], [], sr1'.wipe vs, lP, ?_, upd_same, .nil, h⟩
      refine ⟨fP.own, fun i ⟨c, hc⟩ z => ?_⟩
      obtain ⟨h1, h2⟩ := wipeE_some hc
      rw [wipe_keep h2] at z
      exact fP.ns i ⟨c, h1⟩ z
    · rintro i v H2 H2' hlt ⟨g2, fz2, is2, us, acc, sr2, l2, f2, hP2, ra, h2⟩ y
      have hx : xs[i]? = some xs[i] := by simp [hlt]
      obtain ⟨fz3, gr, rep⟩ := hY i xs[i] fz2 H2 is2 v H2' hx l2 y
      have l3 := gr.le sr2
      have sr3 := gr.sr sr2
      -- P is still alone
      have hP3 : H2' P = some (.lst us) := by
        cases gr with
        | same => exact hP2
        | new p o hp => rw [upd_ne (fun z => by subst z; rw [hP2] at hp; cases hp)]; exact hP2
      have f3 : Free N (L2.wipe σ vs) { g2 with env := wipeE g2.env vs } fz3 is2 P := by
        refine ⟨⟨fun z => ?_, f2.own.ni, f2.own.new⟩, f2.ns⟩
        cases gr with
        | same => exact f2.own.nf z
        | new p o hp =>
          rcases z with z | z
          · exact f2.own.nf z
          · subst z; rw [hP2] at hp; cases hp
      have nz : ¬ N.fz P := fun z => f3.own.nf (sr3.fz0 P z)
      have ni : P ∉ N.is := fun z => f3.own.ni (sr3.isx.subset z)
      have nn := f3.own.new
      have sg := sr3.guard f3 hP3
      rw [List.drop_eq_getElem_cons hlt] at h2
      simp only [compM] at h2
      cases e2 : t xs[i] { g2 with env := wipeE g2.env vs } with
      | none => rw [e2] at h2; exact h2.elim
      | some g3 =>
        rw [e2] at h2
        dsimp only at h2
        have h2 := h2.later l3
        refine ht (N.with P (.lst us)) rfl rfl (L2.wipe σ vs) H2' _ fz3 is2 v xs[i] g3 _ sg rep e2 fun σ3 sr3' hw => ?_
        have hw := hw vs hts
        have hww : ∀ vs, L2.wipe (L2.wipe σ vs) vs = L2.wipe σ vs := fun vs => by
          apply List.ext_getElem?
          intro j
          rw [wipe_get, wipe_get, wipe_length]
          by_cases hj : j ∈ vs ∧ j < σ.length
          · rw [if_pos hj, if_pos hj]
          · rw [if_neg hj, if_neg hj]
        rw [hww] at hw
        refine ⟨hw, N.with P (.lst us), rfl, rfl, g3, fz3, is2, sr3', ?_⟩
        -- behind a turn
        have fin : ∀ {g4 : Sg} {H4 : Hp} {fz4 : Addr → Prop} {is4 : List Addr} {us' : List V} {acc' : List Mx.D}, Le fz3 H2' is2 fz4 H4 is4 → SR (N.with P (.lst us)) σ3 H4 g4 fz4 is4 → RepA N.K is4 fz4 H4 us' acc' →
            postE N xm W σ H2' fz3 is2 Q (endC g1 vs (compM vs t tt me (xs.drop (i + 1)) acc' g4)) → ∃ g fz is us acc, SR N (L2.wipe σ vs) (upd H4 P (.lst us')) { g with env := wipeE g.env vs } fz is ∧ Le fz1 H1 is1 fz (upd H4 P (.lst us')) is ∧ Free N (L2.wipe σ vs) { g with env := wipeE g.env vs } fz is P ∧ (upd H4 P (.lst us')) P = some (.lst us) ∧ RepA N.K is fz (upd H4 P (.lst us')) us acc ∧
              postE N xm W σ (upd H4 P (.lst us')) fz is Q (endC g1 vs (compM vs t tt me (xs.drop (i + 1)) acc g)) := by
          intro g4 H4 fz4 is4 us' acc' l4 sr4 ra4 h4
          obtain ⟨s5, f5, _⟩ := (sr4.wipe vs).unguard nz ni nn
          rw [hw] at s5 f5
          have la : Le fz4 H4 is4 fz4 (upd H4 P (.lst us')) is4 := Le.alloc f5.own.nf
          exact ⟨g4, fz4, is4, us', acc', s5.alter f5 _, ((l2.trans l3).trans l4).trans la, f5, upd_same, ra4.mono la, (h4.later l4).later la⟩
        cases e3 : tt g3 with
        | stuck => rw [e3] at h2; exact h2.elim
        | exc x g' => rw [e3] at h2; exact h2.elim
        | ok b g4 =>
          rw [e3] at h2
          intro H4 fz4 is4 l4 sr4
          cases b with
          | false =>
            refine iteF ?_
            obtain ⟨g5, fz5, is5, us5, acc5, q1, q2, q3, q4, q5, q6⟩ := fin l4 sr4 ((ra.mono l3).mono l4) h2
            have hP4 : H4 P = some (.lst us) := sr4.frame P _ upd_same ni
            have : upd H4 P (.lst us) = H4 := by
              funext b
              by_cases e : b = P
              · subst e; rw [upd_same, hP4]
              · rw [upd_ne e]
            rw [this] at q1 q2 q4 q5 q6
            exact ⟨g5, fz5, is5, us5, acc5, q1, q2, q3, q4, q5, q6⟩
          | true =>
            refine iteT ⟨N.with P (.lst us), rfl, rfl, g4, fz4, is4, sr4, ?_⟩
            dsimp only at h2
            cases e4 : me g4 with
            | stuck => rw [e4] at h2; exact h2.elim
            | exc x g' => rw [e4] at h2; exact h2.elim
            | ok r g5 =>
              rw [e4] at h2
              dsimp only at h2
              intro v5 H5 fz5 is5 l5 sr5 rep5
              cases e5 : toD r g5 with
              | stuck => rw [e5] at h2; exact h2.elim
              | exc x g' => rw [e5] at h2; exact h2.elim
              | ok d g6 =>
                rw [e5] at h2
                dsimp only at h2
                obtain ⟨fz6, l6, sr6, rep6⟩ := toD_ok sr5 rep5 e5
                by_cases hz : acc.length < sizeLine
                · rw [if_pos hz] at h2
                  have hP5 : H5 P = some (.lst us) := sr6.frame P _ upd_same ni
                  have ra6 := (((ra.mono l3).mono l4).mono l5).mono l6
                  refine ⟨us, hP5, by rw [ra.length]; exact hz, ?_⟩
                  exact fin ((l4.trans l5).trans l6) sr6 (ra6.append (.cons rep6 .nil)) h2
                · rw [if_neg hz] at h2; exact h2.elim
    · rintro H2 ⟨g2, fz2, is2, us, acc, sr2, l2, f2, hP2, ra, h2⟩
      rw [List.drop_length] at h2
      have sb := SR.back sr1 l2 sr2
      refine h2 (.ref P) H2 fz2 is2 .refl sb ⟨P, rfl, f2.own, ⟨us, hP2, ra⟩, fun i ⟨c, hc⟩ z => ?_⟩
      rcases backE_some hc with ⟨_, _, d, e⟩ | ⟨n1, h3⟩
      · cases e
      · have : ∀ ws, i ∉ ws → (wipeE g2.env ws)[i]? = some (some (.own c)) := by
          intro ws
          induction ws with
          | nil => exact fun _ => h3
          | cons w ws ih2 =>
            intro hw
            simp only [List.mem_cons, not_or] at hw
            unfold wipeE
            rw [List.getElem?_set_ne (Ne.symm hw.1)]
            exact ih2 hw.2
        exact f2.ns i ⟨c, this vs n1⟩ (by rw [wipe_keep n1]; exact z)

/-! ### the comprehension's rules -/
section
variable {X' : Cx} {e : Expr}
theorem any_e {N : En} {m : ST RV} (h : ∀ N' : En, N'.K = N.K → N'.n = N.n → PE X' e (lift N' xm WF m)) : PE X' e (anyE N xm m) := ⟨fun pins s σ H Q I ⟨N', h1, h2, q⟩ => (h N' h1 h2).run pins s σ H Q I q⟩
theorem any_t {N : En} {ifs : List Expr} {m : ST Bool} (h : ∀ N' : En, N'.K = N.K → N'.n = N.n → PTs X' ifs (liftB N' xm WF m)) : PTs X' ifs (anyT N xm m) := ⟨fun pins s σ H Q I ⟨N', h1, h2, q⟩ => (h N' h1 h2).run pins s σ H Q I q⟩
theorem ts_nil : PTs X' [] (liftB N xm W mYes) := ⟨fun pins s σ H Q I ⟨g, fz, is, sr, q⟩ => pts_nil.run pins s σ H Q I (q H fz is .refl sr)⟩
theorem ts_one {m : ST Bool} (h : PT X' e (liftB N xm W m)) : PTs X' [e] (liftB N xm W m) := pts_one h
end
theorem MC.blk (c : MC X N W) {N' : En} (h : N'.K = N.K) {s : Shared} {H : Hp} {scope : Scope} {cenv : Env} {fp : List Addr} : MC (X.blk s H scope cenv fp) N' WF := ⟨h.trans c.hK, c.nd, c.calm, c.un, L2.takes0⟩
theorem e_comp {elt : Expr} {ifs : List Expr} {scope : Scope} {own : List (Str × Nat)} {pos : Pos} {mi : ST (List D)} {ts : List Nat} {gt : TG} {t : TgM} {tt : ST Bool} {me : ST RV} (c : MC X N W) (hi : PI X tg iter (liftI N xm W mi)) (ok : BlkOk X.N X.env.scope scope own)
    (hg : ∀ (s : Shared) (H : Hp) (C : Addr) (cl : List (Str × Addr)) (fp : List Addr), PG (X.blk s H scope (compEnvC scope cl C X.env) fp) tg gt) (ht : ∀ N' : En, N'.n = N.n → N'.K = N.K → TgF N' ts gt t) (hts : ∀ i ∈ ts, i ∈ own.map (·.2))
    (htt : ∀ (s : Shared) (H : Hp) (C : Addr) (cl : List (Str × Addr)) (fp : List Addr) (N' : En), N'.n = N.n → MC (X.blk s H scope (compEnvC scope cl C X.env) fp) N' WF → PTs (X.blk s H scope (compEnvC scope cl C X.env) fp) ifs (liftB N' xm WF tt))
    (he : ∀ (s : Shared) (H : Hp) (C : Addr) (cl : List (Str × Addr)) (fp : List Addr) (N' : En), N'.n = N.n → MC (X.blk s H scope (compEnvC scope cl C X.env) fp) N' WF → PE (X.blk s H scope (compEnvC scope cl C X.env) fp) elt (lift N' xm WF me)) (hs : ∀ x, foldedSetIterable iter X.env x = pure x := by intro _; rfl) :
    PE X (.ListComp elt [⟨tg, iter, ifs, 0⟩] scope pos) (lift N xm W (mComp mi (own.map (·.2)) t tt me)) :=
  imp (pe_lc c.calm c.nd hi ok hg (fun s H C cl fp => any_t fun N' h1 h2 => htt s H C cl fp N' h2 (c.blk h1)) (fun s H C cl fp => any_e fun N' h1 h2 => he s H C cl fp N' h2 (c.blk h1)) hs) fun σ H Q h => comp_ok c ht hts h
theorem s_setC {i : Nat} {y : Str} {py : Pos} {elt : Expr} {ifs : List Expr} {scope : Scope} {own : List (Str × Nat)} {pos spos : Pos} {mi : ST (List D)} {ts : List Nat} {gt : TG} {t : TgM} {tt : ST Bool} {me : ST RV} (c : MC X N W) (hy : X.N[i]? = some y) (hyl : X.env.scope.names.lookup y = some .local)
    (hsw : swapsWith (.ListComp elt [⟨tg, iter, ifs, 0⟩] scope pos) (some (.Name y py)) spos.line X.env = pure true) (hi : PI X tg iter (liftI N xm W mi)) (ok : BlkOk X.N X.env.scope scope own)
    (hg : ∀ (s : Shared) (H : Hp) (C : Addr) (cl : List (Str × Addr)) (fp : List Addr), PG (X.blk s H scope (compEnvC scope cl C X.env) fp) tg gt) (ht : ∀ N' : En, N'.n = N.n → N'.K = N.K → TgF N' ts gt t) (hts : ∀ i ∈ ts, i ∈ own.map (·.2))
    (htt : ∀ (s : Shared) (H : Hp) (C : Addr) (cl : List (Str × Addr)) (fp : List Addr) (N' : En), N'.n = N.n → MC (X.blk s H scope (compEnvC scope cl C X.env) fp) N' WF → PTs (X.blk s H scope (compEnvC scope cl C X.env) fp) ifs (liftB N' xm WF tt))
    (he : ∀ (s : Shared) (H : Hp) (C : Addr) (cl : List (Str × Addr)) (fp : List Addr) (N' : En), N'.n = N.n → MC (X.blk s H scope (compEnvC scope cl C X.env) fp) N' WF → PE (X.blk s H scope (compEnvC scope cl C X.env) fp) elt (lift N' xm WF me)) (hn : i < N.n) (hs : ∀ x, foldedSetIterable iter X.env x = pure x := by intro _; rfl) :
    PS X (.Assign [.Name y py] (.ListComp elt [⟨tg, iter, ifs, 0⟩] scope pos) spos) (liftS N xm W (sSet i (mComp mi (own.map (·.2)) t tt me))) := by
  refine impS (ps_setLc c.calm c.nd hy hyl hsw hi ok hg (fun s H C cl fp => any_t (N := N) fun N' h1 h2 => htt s H C cl fp N' h2 (c.blk h1)) (fun s H C cl fp => any_e (N := N) fun N' h1 h2 => he s H C cl fp N' h2 (c.blk h1)) hs) fun D σ H h => ?_
  have h' : lift N xm W (mComp mi (own.map (·.2)) t tt me) σ H (fun x H1 => gName i x σ H1 D.nx) := set_ok hn h
  exact comp_ok c ht hts h'
end
end Mx

set_option Elab.async false
set_option linter.all false
set_option maxRecDepth 100000
/-! operators by data -/
namespace Mx
open PySem PySem.Spec PyProof.Rows L2

section
variable {K : PySem.W.Frag} {is : List Addr} {fz : Addr → Prop} {H : Hp} {v : V}
theorem PRep.non (h : PRep K is fz H v .non) : v = .non := by
  rcases h with h | ⟨p, c, _, e, _⟩
  · cases h; rfl
  · cases c <;> cases e
theorem PRep.bl {b : Bool} (h : PRep K is fz H v (.bl b)) : v = .bl b := by
  rcases h with h | ⟨p, c, _, e, _⟩
  · cases h; rfl
  · cases c <;> cases e
theorem PRep.int {i : Int} (h : PRep K is fz H v (.int i)) : v = .int i := by
  rcases h with h | ⟨p, c, _, e, _⟩
  · cases h; rfl
  · cases c <;> cases e
theorem PRep.str {x : Str} (h : PRep K is fz H v (.str x)) : v = .str x ∧ StrOk x := by
  rcases h with h | ⟨p, c, _, e, _⟩
  · cases h with
    | str _ ok => exact ⟨rfl, ok⟩
  · cases c <;> cases e
theorem PRep.ty {n : String} (h : PRep K is fz H v (.ty n)) : v = .ty n := by
  rcases h with h | ⟨p, c, _, e, _⟩
  · cases h; rfl
  · cases c <;> cases e
theorem PRep.tup {xs : List D} (h : PRep K is fz H v (.tup xs)) : ∃ a vs, v = .ref a ∧ ((fz a ∧ H a = some (.tup vs)) ∨ StT K a vs) ∧ RepA K is fz H vs xs := by
  rcases h with h | ⟨p, c, _, e, _⟩
  · cases h with
    | tup h r => exact ⟨_, _, rfl, h, r⟩
  · cases c <;> cases e
theorem PRep.lst {xs : List D} (h : PRep K is fz H v (.lst xs)) : ∃ a vs, v = .ref a ∧ H a = some (.lst vs) ∧ RepA K is fz H vs xs := by
  rcases h with h | ⟨p, c, rfl, e, h⟩
  · cases h with
    | lst _ h r => exact ⟨_, _, rfl, h, r⟩
  · cases c with
    | lst ys => cases e; obtain ⟨vs, h1, h2⟩ := h; exact ⟨p, vs, rfl, h1, h2⟩
    | dct ys => cases e
theorem PRep.dct {xs : List (D × D)} (h : PRep K is fz H v (.dct xs)) : ∃ a vs, v = .ref a ∧ Rd H a (.dK vs) ∧ RepK K is fz H vs xs := by
  rcases h with h | ⟨p, c, rfl, e, h⟩
  · cases h with
    | dct _ h r => exact ⟨_, _, rfl, h, r⟩
  · cases c with
    | lst ys => cases e
    | dct ys => cases e; obtain ⟨vs, h1, h2⟩ := h; exact ⟨p, vs, rfl, .inl h1, h2⟩
theorem PRep.scr {ns : List Int} (h : PRep K is fz H v (.scr ns)) : ∃ a, v = .ref a ∧ SqL K H a (ns.map V.int) := by
  rcases h with h | ⟨p, c, rfl, e, h⟩
  · cases h with
    | scr h =>
      refine ⟨_, rfl, ?_⟩
      rcases h with ⟨_, h⟩ | h
      · exact .inl h
      · exact .inr h
  · cases c <;> cases e
theorem sqT_of {a : Addr} {vs : List V} (h : (fz a ∧ H a = some (.tup vs)) ∨ StT K a vs) : SqT K H a vs := by
  rcases h with ⟨_, h⟩ | h
  · exact .of h
  · exact .inr h
theorem Fin.sc {Q : VK} {z : D} {v : V} (h : Fin K is fz H Q (.d z)) (r : Rep K is fz H v z) : Q v H := h v fz H .same r
theorem Fin.lst {Q : VK} {xs : List D} {vs : List V} (d : ∀ b, fz b → ∃ o, H b = some o) (h : Fin K is fz H Q (.new (.lst xs))) (r : RepA K is fz H vs xs) : ∀ p, H p = none → Q (.ref p) (upd H p (.lst vs)) :=
  fun p hp => h p _ hp ⟨vs, upd_same, r.mono (Le.alloc fun z => by obtain ⟨o, e⟩ := d p z; rw [hp] at e; cases e)⟩
theorem Fin.tup {Q : VK} {xs : List D} {vs : List V} (d : ∀ b, fz b → ∃ o, H b = some o) (h : Fin K is fz H Q (.d (.tup xs))) (r : RepA K is fz H vs xs) : ∀ p, H p = none → Q (.ref p) (upd H p (.tup vs)) := by
  intro p hp
  have nz : ¬ fz p := fun z => by obtain ⟨o, e⟩ := d p z; rw [hp] at e; cases e
  have l : Le fz H is (fun b => fz b ∨ b = p) (upd H p (.tup vs)) is := (Le.alloc nz).trans (Le.frz p)
  exact h _ _ _ (.new p _ hp) (.tup (.inl ⟨.inr rfl, upd_same⟩) (r.mono l))
end

/-! ### + - * // % ** -/
theorem strOk_app {x y : Str} (hx : StrOk x) (hy : StrOk y) (h : x.length + y.length ≤ sizeLine) : StrOk (x ++ y) := by
  refine ⟨?_, ?_⟩
  · have h1 := hx.cps
    have h2 := hy.cps
    unfold okS at h1 h2 ⊢
    show (x.cps ++ y.cps).all _ = true
    rw [Array.all_append, h1, h2]; rfl
  · show (x.cps ++ y.cps).size ≤ sizeLine
    rw [Array.size_append]; exact h
def fAdd : D → D → Option RN
  | .int i, .int j => some (.d (.int (i + j)))
  | .str x, .str y => if x.length + y.length ≤ sizeLine then some (.d (.str (x ++ y))) else none
  | .lst xs, .lst ys => if xs.length + ys.length ≤ sizeLine then some (.new (.lst (xs ++ ys))) else none
  | .tup xs, .tup ys => if xs.length + ys.length ≤ sizeLine then some (.d (.tup (xs ++ ys))) else none
  | _, _ => none
def rAddS : R2 := fun x y H Q => ∃ i j, x = .str i ∧ y = .str j ∧ i.length + j.length ≤ sizeLine ∧ Q (.str (i ++ j)) H
def rAddAll (K : PySem.W.Frag) : R2 := fun x y H Q => ((rI0 fun i j => .int (i + j)) x y H Q ∨ rAddS x y H Q) ∨ (rCat x y H Q ∨ rCatA K x y H Q)
theorem op_addAll {X : Cx} : OpR X (binaryOp .Add) (rAddAll X.K) := (op_add.or op_add_str).or (op_cat.or op_catA)
theorem f_add {K : PySem.W.Frag} : OpF K (rAddAll K) fAdd := by
  intro is fz H v w x y rn Q dm hx hy e fin
  unfold fAdd at e
  split at e
  · cases e
    rw [hx.int, hy.int]
    exact .inl (.inl ⟨_, _, rfl, rfl, fin.sc (.int _)⟩)
  · split at e
    · rename_i hz
      cases e
      obtain ⟨rfl, o1⟩ := hx.str
      obtain ⟨rfl, o2⟩ := hy.str
      exact .inl (.inr ⟨_, _, rfl, rfl, hz, fin.sc (.str _ (strOk_app o1 o2 hz))⟩)
    · cases e
  · split at e
    · rename_i hz
      cases e
      obtain ⟨a, vs, rfl, h1, r1⟩ := hx.lst
      obtain ⟨b, ws, rfl, h2, r2⟩ := hy.lst
      exact .inr (.inl ⟨_, _, _, _, rfl, rfl, h1, h2, by rw [r1.length, r2.length]; exact hz, fin.lst dm (r1.append r2)⟩)
    · cases e
  · split at e
    · rename_i hz
      cases e
      obtain ⟨a, vs, rfl, h1, r1⟩ := hx.tup
      obtain ⟨b, ws, rfl, h2, r2⟩ := hy.tup
      refine .inr (.inr ⟨_, _, _, _, rfl, rfl, sqT_of h1, sqT_of h2, by rw [r1.length, r2.length]; exact hz, fun e => ?_, fun _ e => ?_, fun _ _ => fin.tup dm (r1.append r2)⟩)
      · subst e
        cases r1
        exact fin.sc (.tup h2 r2)
      · subst e
        cases r2
        rw [List.append_nil] at fin
        exact fin.sc (.tup h1 r1)
    · cases e
  · cases e
/-- ints, by a rule with a condition -/
def fI (C : Int → Int → Bool) (g : Int → Int → D) : D → D → Option RN
  | .int i, .int j => if C i j = true then some (.d (g i j)) else none
  | _, _ => none
theorem f_rI {K : PySem.W.Frag} {C : Int → Int → Prop} {b : Int → Int → Bool} {g : Int → Int → V} {d : Int → Int → D} (hc : ∀ i j, b i j = true → C i j) (hg : ∀ i j is fz H, Rep K is fz H (g i j) (d i j)) : OpF K (rI C g) (fI b d) := by
  intro is fz H v w x y rn Q dm hx hy e fin
  unfold fI at e
  split at e
  · split at e
    · rename_i hz
      cases e
      rw [hx.int, hy.int]
      exact ⟨_, _, rfl, rfl, hc _ _ hz, fin.sc (hg _ _ _ _ _)⟩
    · cases e
  · cases e
theorem f_rI0 {K : PySem.W.Frag} {g : Int → Int → V} {d : Int → Int → D} (hg : ∀ i j is fz H, Rep K is fz H (g i j) (d i j)) : OpF K (rI0 g) (fI (fun _ _ => true) d) := by
  intro is fz H v w x y rn Q dm hx hy e fin
  unfold fI at e
  split at e
  · rw [if_pos rfl] at e
    cases e
    rw [hx.int, hy.int]
    exact ⟨_, _, rfl, rfl, fin.sc (hg _ _ _ _ _)⟩
  · cases e
abbrev fSub : D → D → Option RN := fI (fun _ _ => true) fun i j => .int (i - j)
theorem f_sub {K : PySem.W.Frag} : OpF K (rI0 fun i j => .int (i - j)) fSub := f_rI0 fun _ _ _ _ _ => .int _
abbrev fMod : D → D → Option RN := fI (fun _ j => decide (0 < j)) fun i j => .int (i % j)
theorem f_mod {K : PySem.W.Frag} : OpF K (rI (fun _ j => 0 < j) fun i j => .int (i % j)) fMod := f_rI (fun _ _ h => of_decide_eq_true h) fun _ _ _ _ _ => .int _
abbrev fFdiv : D → D → Option RN := fI (fun _ j => decide (0 < j ∧ j < 1073741824)) fun i j => .int (i / j)
theorem f_fdiv {K : PySem.W.Frag} : OpF K (rI CDiv fun i j => .int (i / j)) fFdiv := f_rI (fun i j h => (of_decide_eq_true h : 0 < j ∧ j < 1073741824)) fun _ _ _ _ _ => .int _
abbrev fPow : D → D → Option RN := fI (fun i j => decide (0 ≤ j ∧ j ≤ 1000000 ∧ i.natAbs < 2 ^ 64)) fun i j => .int (i ^ j.toNat)
theorem f_pow {K : PySem.W.Frag} : OpF K (rI CPow fun i j => .int (i ^ j.toNat)) fPow := f_rI (fun i j h => (of_decide_eq_true h : 0 ≤ j ∧ j ≤ 1000000 ∧ i.natAbs < 2 ^ 64)) fun _ _ _ _ _ => .int _
abbrev fShl : D → D → Option RN := fI (fun i j => decide (0 ≤ j ∧ j ≤ 1000000 ∧ i.natAbs < 2 ^ 64)) fun i j => .int (i * 2 ^ j.toNat)
theorem f_shl {K : PySem.W.Frag} : OpF K (rI CPow fun i j => .int (i * 2 ^ j.toNat)) fShl := f_rI (fun i j h => (of_decide_eq_true h : 0 ≤ j ∧ j ≤ 1000000 ∧ i.natAbs < 2 ^ 64)) fun _ _ _ _ _ => .int _
def fMul : D → D → Option RN
  | .int i, .int j => if (-(2 ^ 64) < i ∧ i < 2 ^ 64) ∨ (-(2 ^ 64) < j ∧ j < 2 ^ 64) then some (.d (.int (i * j))) else none
  | .lst xs, .int k => if -(2 ^ 63) ≤ k ∧ k < 2 ^ 63 ∧ xs.length * k.toNat ≤ sizeLine then some (.new (.lst (List.replicate k.toNat xs).flatten)) else none
  | _, _ => none
def rMulAll : R2 := fun x y H Q => (rI CMul fun i j => .int (i * j)) x y H Q ∨ rRep x y H Q
theorem op_mulAll {X : Cx} : OpR X (binaryOp .Mult) rMulAll := op_mul.or op_rep
theorem RepA.rep {K : PySem.W.Frag} {is : List Addr} {fz : Addr → Prop} {H : Hp} {vs : List V} {xs : List D} (r : RepA K is fz H vs xs) : ∀ n, RepA K is fz H (List.replicate n vs).flatten (List.replicate n xs).flatten
  | 0 => by simp; exact .nil
  | n + 1 => by
    rw [List.replicate_succ, List.replicate_succ, List.flatten_cons, List.flatten_cons]
    exact r.append (RepA.rep r n)
theorem f_mul {K : PySem.W.Frag} : OpF K rMulAll fMul := by
  intro is fz H v w x y rn Q dm hx hy e fin
  unfold fMul at e
  split at e
  · split at e
    · rename_i hz
      cases e
      rw [hx.int, hy.int]
      exact .inl ⟨_, _, rfl, rfl, hz, fin.sc (.int _)⟩
    · cases e
  · split at e
    · rename_i hz
      cases e
      obtain ⟨a, vs, rfl, h1, r1⟩ := hx.lst
      rw [hy.int]
      exact .inr ⟨_, _, _, rfl, rfl, h1, hz.1, hz.2.1, by rw [r1.length]; exact hz.2.2, fin.lst dm (r1.rep _)⟩
    · cases e
  · cases e
/-! ### comparisons -/
abbrev fLt : D → D → Option RN := fI (fun _ _ => true) fun i j => .bl (decide (i < j))
abbrev fLe : D → D → Option RN := fI (fun _ _ => true) fun i j => .bl (decide (i ≤ j))
abbrev fGt : D → D → Option RN := fI (fun _ _ => true) fun i j => .bl (decide (j < i))
abbrev fGe : D → D → Option RN := fI (fun _ _ => true) fun i j => .bl (decide (j ≤ i))
theorem f_lt {K : PySem.W.Frag} : OpF K (rI0 fun i j => .bl (decide (i < j))) fLt := f_rI0 fun _ _ _ _ _ => .bl _
theorem f_le {K : PySem.W.Frag} : OpF K (rI0 fun i j => .bl (decide (i ≤ j))) fLe := f_rI0 fun _ _ _ _ _ => .bl _
theorem f_gt {K : PySem.W.Frag} : OpF K (rI0 fun i j => .bl (decide (j < i))) fGt := f_rI0 fun _ _ _ _ _ => .bl _
theorem f_ge {K : PySem.W.Frag} : OpF K (rI0 fun i j => .bl (decide (j ≤ i))) fGe := f_rI0 fun _ _ _ _ _ => .bl _
/-! == -/
mutual
def fits : Nat → D → Bool
  | _, .non => true | _, .bl _ => true | _, .int _ => true | _, .str _ => true
  | 0, _ => false
  | n + 1, .tup xs => fitsA n xs
  | n + 1, .lst xs => fitsA n xs
  | _, _ => false
def fitsA : Nat → List D → Bool
  | _, [] => true
  | n, x :: xs => fits n x && fitsA n xs
end
mutual
def eqD : D → D → Bool
  | .non, .non => true
  | .bl a, .bl b => a == b
  | .bl a, .int j => (if a then 1 else 0) == j
  | .int i, .bl b => i == (if b then 1 else 0)
  | .int i, .int j => i == j
  | .str x, .str y => x == y
  | .lst xs, .lst ys => eqA xs ys
  | .tup xs, .tup ys => eqA xs ys
  | _, _ => false
def eqA : List D → List D → Bool
  | [], [] => true
  | x :: xs, y :: ys => eqD x y && eqA xs ys
  | _, _ => false
end
mutual
def toPy : D → PyData
  | .bl b => .bool b
  | .int i => .int i
  | .str s => .str s
  | .lst xs => .list (toPyA xs)
  | .tup xs => .tuple (toPyA xs)
  | _ => .none
def toPyA : List D → List PyData
  | [] => []
  | x :: xs => toPy x :: toPyA xs
end
mutual
theorem eqv_eq : ∀ (n m : Nat) (x y : D), fits n x = true → fits m y = true → PyData.eqv (toPy x) (toPy y) = eqD x y
  | n, m, .lst xs, .lst ys, hx, hy => by
    cases n with
    | zero => simp [fits] at hx
    | succ n =>
      cases m with
      | zero => simp [fits] at hy
      | succ m =>
        simp only [fits] at hx hy
        simp only [toPy, PyData.eqv, eqD]
        exact eqv_eqA n m xs ys hx hy
  | n, m, .tup xs, .tup ys, hx, hy => by
    cases n with
    | zero => simp [fits] at hx
    | succ n =>
      cases m with
      | zero => simp [fits] at hy
      | succ m =>
        simp only [fits] at hx hy
        simp only [toPy, PyData.eqv, eqD]
        exact eqv_eqA n m xs ys hx hy
  | n, m, .non, y, hx, hy => by
    cases y <;> first
      | (simp [toPy, PyData.eqv, eqD]; done)
      | (cases m <;> simp [fits] at hy)
  | n, m, .bl b, y, hx, hy => by
    cases y <;> first
      | (simp [toPy, PyData.eqv, eqD]; done)
      | (cases m <;> simp [fits] at hy)
  | n, m, .int i, y, hx, hy => by
    cases y <;> first
      | (simp [toPy, PyData.eqv, eqD]; done)
      | (cases m <;> simp [fits] at hy)
  | n, m, .str s, y, hx, hy => by
    cases y <;> first
      | (simp [toPy, PyData.eqv, eqD]; done)
      | (cases m <;> simp [fits] at hy)
  | n, m, .lst xs, .non, hx, hy => by simp [toPy, PyData.eqv, eqD]
  | n, m, .lst xs, .bl _, hx, hy => by simp [toPy, PyData.eqv, eqD]
  | n, m, .lst xs, .int _, hx, hy => by simp [toPy, PyData.eqv, eqD]
  | n, m, .lst xs, .str _, hx, hy => by simp [toPy, PyData.eqv, eqD]
  | n, m, .lst xs, .tup _, hx, hy => by simp [toPy, PyData.eqv, eqD]
  | n, m, .tup xs, .non, hx, hy => by simp [toPy, PyData.eqv, eqD]
  | n, m, .tup xs, .bl _, hx, hy => by simp [toPy, PyData.eqv, eqD]
  | n, m, .tup xs, .int _, hx, hy => by simp [toPy, PyData.eqv, eqD]
  | n, m, .tup xs, .str _, hx, hy => by simp [toPy, PyData.eqv, eqD]
  | n, m, .tup xs, .lst _, hx, hy => by simp [toPy, PyData.eqv, eqD]
  | n, m, .lst xs, .ty _, hx, hy => by cases m <;> simp [fits] at hy
  | n, m, .lst xs, .fn _, hx, hy => by cases m <;> simp [fits] at hy
  | n, m, .lst xs, .obj _, hx, hy => by cases m <;> simp [fits] at hy
  | n, m, .lst xs, .dct _, hx, hy => by cases m <;> simp [fits] at hy
  | n, m, .lst xs, .scr _, hx, hy => by cases m <;> simp [fits] at hy
  | n, m, .tup xs, .ty _, hx, hy => by cases m <;> simp [fits] at hy
  | n, m, .tup xs, .fn _, hx, hy => by cases m <;> simp [fits] at hy
  | n, m, .tup xs, .obj _, hx, hy => by cases m <;> simp [fits] at hy
  | n, m, .tup xs, .dct _, hx, hy => by cases m <;> simp [fits] at hy
  | n, m, .tup xs, .scr _, hx, hy => by cases m <;> simp [fits] at hy
  | n, m, .ty _, y, hx, hy => by cases n <;> simp [fits] at hx
  | n, m, .fn _, y, hx, hy => by cases n <;> simp [fits] at hx
  | n, m, .obj _, y, hx, hy => by cases n <;> simp [fits] at hx
  | n, m, .dct _, y, hx, hy => by cases n <;> simp [fits] at hx
  | n, m, .scr _, y, hx, hy => by cases n <;> simp [fits] at hx
theorem eqv_eqA : ∀ (n m : Nat) (xs ys : List D), fitsA n xs = true → fitsA m ys = true → PyData.eqvAll (toPyA xs) (toPyA ys) = eqA xs ys
  | _, _, [], [], _, _ => by simp [toPyA, PyData.eqvAll, eqA]
  | _, _, [], y :: ys, _, _ => by simp [toPyA, PyData.eqvAll, eqA]
  | _, _, x :: xs, [], _, _ => by simp [toPyA, PyData.eqvAll, eqA]
  | n, m, x :: xs, y :: ys, hx, hy => by
    simp only [fitsA, Bool.and_eq_true] at hx hy
    simp only [toPyA, PyData.eqvAll, eqA]
    rw [eqv_eq n m x y hx.1 hy.1, eqv_eqA n m xs ys hx.2 hy.2]
end
mutual
theorem dp_of {K : PySem.W.Frag} {is : List Addr} {fz : Addr → Prop} {H : Hp} : ∀ (n : Nat) (x : D) (v : V), fits n x = true → PRep K is fz H v x → Dp K H v (toPy x) ∧ PyData.canLay0 (toPy x) = true ∧ PyData.depth (toPy x) ≤ n
  | n, .non, v, hf, h => by rw [h.non]; exact ⟨.non, rfl, Nat.zero_le _⟩
  | n, .bl b, v, hf, h => by rw [h.bl]; exact ⟨.bl b, rfl, Nat.zero_le _⟩
  | n, .int i, v, hf, h => by rw [h.int]; exact ⟨.int i, rfl, Nat.zero_le _⟩
  | n, .str s, v, hf, h => by
    obtain ⟨rfl, ok⟩ := h.str
    exact ⟨.str s, ok.cps, Nat.zero_le _⟩
  | n, .tup xs, v, hf, h => by
    cases n with
    | zero => simp [fits] at hf
    | succ n =>
      obtain ⟨a, vs, rfl, h1, r1⟩ := h.tup
      obtain ⟨q1, q2, q3⟩ := dp_ofA n xs vs (by simpa [fits] using hf) r1
      exact ⟨.tup (sqT_of h1) q1, q2, by show PyData.depthAll _ + 1 ≤ _; omega⟩
  | n, .lst xs, v, hf, h => by
    cases n with
    | zero => simp [fits] at hf
    | succ n =>
      obtain ⟨a, vs, rfl, h1, r1⟩ := h.lst
      obtain ⟨q1, q2, q3⟩ := dp_ofA n xs vs (by simpa [fits] using hf) r1
      exact ⟨.lst (.of h1) q1, q2, by show PyData.depthAll _ + 1 ≤ _; omega⟩
  | n, .ty _, v, hf, h => by cases n <;> simp [fits] at hf
  | n, .fn _, v, hf, h => by cases n <;> simp [fits] at hf
  | n, .obj _, v, hf, h => by cases n <;> simp [fits] at hf
  | n, .dct _, v, hf, h => by cases n <;> simp [fits] at hf
  | n, .scr _, v, hf, h => by cases n <;> simp [fits] at hf
theorem dp_ofA {K : PySem.W.Frag} {is : List Addr} {fz : Addr → Prop} {H : Hp} : ∀ (n : Nat) (xs : List D) (vs : List V), fitsA n xs = true → RepA K is fz H vs xs → DpAll K H vs (toPyA xs) ∧ PyData.canLayAll0 (toPyA xs) = true ∧ PyData.depthAll (toPyA xs) ≤ n
  | n, [], vs, hf, h => by cases h; exact ⟨.nil, rfl, Nat.zero_le _⟩
  | n, x :: xs, vs, hf, h => by
    cases h with
    | cons r t =>
      simp only [fitsA, Bool.and_eq_true] at hf
      obtain ⟨q1, q2, q3⟩ := dp_of n x _ hf.1 (.inl r)
      obtain ⟨p1, p2, p3⟩ := dp_ofA n xs _ hf.2 t
      refine ⟨.cons q1 p1, ?_, ?_⟩
      · show (PyData.canLay0 (toPy x) && PyData.canLayAll0 (toPyA xs)) = true
        rw [q2, p2]; rfl
      · show max (PyData.depth (toPy x)) (PyData.depthAll (toPyA xs)) ≤ n
        omega
end
theorem shaped_of {x : D} (h : PyData.canLay0 (toPy x) = true) (hd : PyData.depth (toPy x) ≤ 64) : SeqAt.shaped (toPy x) = true := by
  unfold SeqAt.shaped
  rw [h, decide_eq_true hd]; rfl
/-- equal by value; data of defs, classes, dicts are not compared -/
def fEq (neg : Bool) : D → D → Option RN := fun x y => if fits 64 x && fits 64 y then some (.d (.bl (if neg then !eqD x y else eqD x y))) else none
theorem f_eq {K : PySem.W.Frag} : OpF K (rEqD K) (fEq false) := by
  intro is fz H v w x y rn Q dm hx hy e fin
  unfold fEq at e
  split at e
  · rename_i hf
    rw [Bool.and_eq_true] at hf
    cases e
    obtain ⟨a1, a2, a3⟩ := dp_of 64 x v hf.1 hx
    obtain ⟨b1, b2, b3⟩ := dp_of 64 y w hf.2 hy
    refine ⟨_, _, a1, b1, shaped_of a2 a3, shaped_of b2 b3, ?_⟩
    rw [eqv_eq 64 64 x y hf.1 hf.2]
    exact fin.sc (.bl _)
  · cases e
theorem f_ne {K : PySem.W.Frag} : OpF K (rNeD K) (fEq true) := by
  intro is fz H v w x y rn Q dm hx hy e fin
  unfold fEq at e
  split at e
  · rename_i hf
    rw [Bool.and_eq_true] at hf
    cases e
    obtain ⟨a1, a2, a3⟩ := dp_of 64 x v hf.1 hx
    obtain ⟨b1, b2, b3⟩ := dp_of 64 y w hf.2 hy
    refine ⟨_, _, a1, b1, shaped_of a2 a3, shaped_of b2 b3, ?_⟩
    rw [eqv_eq 64 64 x y hf.1 hf.2]
    exact fin.sc (.bl _)
  · cases e
/-! is None -/
def fIsN (neg : Bool) : D → D → Option RN
  | .non, .non => some (.d (.bl (!neg)))
  | .bl _, .non => some (.d (.bl neg)) | .int _, .non => some (.d (.bl neg)) | .str _, .non => some (.d (.bl neg)) | .ty _, .non => some (.d (.bl neg))
  | .tup _, .non => some (.d (.bl neg)) | .lst _, .non => some (.d (.bl neg)) | .dct _, .non => some (.d (.bl neg)) | .scr _, .non => some (.d (.bl neg))
  | _, _ => none
theorem isN_val {K : PySem.W.Frag} {is : List Addr} {fz : Addr → Prop} {H : Hp} {v w : V} {x y : D} {rn : RN} {neg : Bool} (hx : PRep K is fz H v x) (hy : PRep K is fz H w y) (e : fIsN neg x y = some rn) : w = .non ∧ rn = .d (.bl (if neg then !decide (v = .non) else decide (v = .non))) := by
  unfold fIsN at e
  split at e
  · cases e
    rw [hx.non, hy.non]; cases neg <;> exact ⟨rfl, rfl⟩
  · cases e; rw [hx.bl, hy.non]; cases neg <;> exact ⟨rfl, rfl⟩
  · cases e; rw [hx.int, hy.non]; cases neg <;> exact ⟨rfl, rfl⟩
  · cases e; obtain ⟨rfl, _⟩ := hx.str; rw [hy.non]; cases neg <;> exact ⟨rfl, rfl⟩
  · cases e; rw [hx.ty, hy.non]; cases neg <;> exact ⟨rfl, rfl⟩
  · cases e; obtain ⟨a, vs, rfl, _⟩ := hx.tup; rw [hy.non]; cases neg <;> exact ⟨rfl, rfl⟩
  · cases e; obtain ⟨a, vs, rfl, _⟩ := hx.lst; rw [hy.non]; cases neg <;> exact ⟨rfl, rfl⟩
  · cases e; obtain ⟨a, vs, rfl, _⟩ := hx.dct; rw [hy.non]; cases neg <;> exact ⟨rfl, rfl⟩
  · cases e; obtain ⟨a, rfl, _⟩ := hx.scr; rw [hy.non]; cases neg <;> exact ⟨rfl, rfl⟩
  · cases e
def rIsN : R2 := fun x y H Q => y = .non ∧ Q (.bl (decide (x = .non))) H
def rNotN : R2 := fun x y H Q => y = .non ∧ Q (.bl (!decide (x = .non))) H
theorem f_isN {K : PySem.W.Frag} : OpF K rIsN (fIsN false) := by
  intro is fz H v w x y rn Q dm hx hy e fin
  obtain ⟨rfl, rfl⟩ := isN_val hx hy e
  exact ⟨rfl, fin.sc (.bl _)⟩
theorem f_notN {K : PySem.W.Frag} : OpF K rNotN (fIsN true) := by
  intro is fz H v w x y rn Q dm hx hy e fin
  obtain ⟨rfl, rfl⟩ := isN_val hx hy e
  exact ⟨rfl, fin.sc (.bl _)⟩
/-! in -/
def inD (x : D) : List D → Bool
  | [] => false
  | y :: ys => eqD y x || inD x ys
def flatD : D → Bool
  | .non => true | .bl _ => true | .int _ => true | .str _ => true
  | _ => false
/-- in a list or tuple; one sign in a text -/
def fIn (neg : Bool) : D → D → Option RN
  | x, .lst ys => if fits 63 x && fitsA 63 ys then some (.d (.bl (if neg then !inD x ys else inD x ys))) else none
  | x, .tup ys => if flatD x && ys.all flatD then some (.d (.bl (if neg then !inD x ys else inD x ys))) else none
  | .str c, .str z => if c.cps.size = 1 then some (.d (.bl (if neg then !decide (c.cps.getD 0 0 ∈ z.cps.toList) else decide (c.cps.getD 0 0 ∈ z.cps.toList)))) else none
  | _, _ => none
theorem flat_V {K : PySem.W.Frag} {is : List Addr} {fz : Addr → Prop} {H : Hp} {v : V} {x : D} (h : Rep K is fz H v x) (hf : flatD x = true) : flatV v = true := by
  cases h <;> first | rfl | simp [flatD] at hf
theorem eqV_D {K : PySem.W.Frag} {is : List Addr} {fz : Addr → Prop} {H : Hp} {v w : V} {x y : D} (h : Rep K is fz H v x) (h' : Rep K is fz H w y) (hf : flatD x = true) (hf' : flatD y = true) : eqV v w = eqD x y := by
  cases h <;> first | (simp [flatD] at hf; done) | (cases h' <;> first | (simp [flatD] at hf'; done) | (simp [eqV, eqD]; done))
theorem inV_D {K : PySem.W.Frag} {is : List Addr} {fz : Addr → Prop} {H : Hp} {v : V} {x : D} (h : Rep K is fz H v x) (hf : flatD x = true) : ∀ {vs : List V} {ys : List D}, RepA K is fz H vs ys → ys.all flatD = true → vs.all flatV = true ∧ inV v vs = inD x ys
  | _, _, .nil, _ => ⟨rfl, rfl⟩
  | w :: vs, y :: ys, .cons r t, e => by
    rw [List.all_cons, Bool.and_eq_true] at e
    obtain ⟨h1, h2⟩ := inV_D h hf t e.2
    refine ⟨by rw [List.all_cons, flat_V r e.1, h1]; rfl, ?_⟩
    show (eqV w v || inV v vs) = (eqD y x || inD x ys)
    rw [eqV_D r h e.1 hf, h2]
theorem any_D {x : D} (hx : fits 64 x = true) : ∀ (n : Nat) (ys : List D), fitsA n ys = true → ((toPyA ys).any fun z => PyData.eqv z (toPy x)) = inD x ys
  | _, [], _ => by simp [toPyA, inD]
  | n, y :: ys, h => by
    simp only [fitsA, Bool.and_eq_true] at h
    simp only [toPyA, List.any_cons, inD]
    rw [eqv_eq n 64 y x h.1 hx, any_D hx n ys h.2]
mutual
theorem fits_mono : ∀ (n m : Nat) (x : D), n ≤ m → fits n x = true → fits m x = true
  | n, m, .tup xs, h, e => by
    cases n with
    | zero => simp [fits] at e
    | succ n =>
      cases m with
      | zero => omega
      | succ m => simp only [fits] at e ⊢; exact fitsA_mono n m xs (by omega) e
  | n, m, .lst xs, h, e => by
    cases n with
    | zero => simp [fits] at e
    | succ n =>
      cases m with
      | zero => omega
      | succ m => simp only [fits] at e ⊢; exact fitsA_mono n m xs (by omega) e
  | n, m, .non, h, e => by cases m <;> simp [fits]
  | n, m, .bl _, h, e => by cases m <;> simp [fits]
  | n, m, .int _, h, e => by cases m <;> simp [fits]
  | n, m, .str _, h, e => by cases m <;> simp [fits]
  | n, m, .ty _, h, e => by cases n <;> simp [fits] at e
  | n, m, .fn _, h, e => by cases n <;> simp [fits] at e
  | n, m, .obj _, h, e => by cases n <;> simp [fits] at e
  | n, m, .dct _, h, e => by cases n <;> simp [fits] at e
  | n, m, .scr _, h, e => by cases n <;> simp [fits] at e
theorem fitsA_mono : ∀ (n m : Nat) (xs : List D), n ≤ m → fitsA n xs = true → fitsA m xs = true
  | _, _, [], _, _ => by simp [fitsA]
  | n, m, x :: xs, h, e => by
    simp only [fitsA, Bool.and_eq_true] at e ⊢
    exact ⟨fits_mono n m x h e.1, fitsA_mono n m xs h e.2⟩
end
def rInS : R2 := fun x y H Q => ∃ (c : Nat) (z : Str), x = .str ⟨#[c]⟩ ∧ y = .str z ∧ Q (.bl (decide (c ∈ z.cps.toList))) H
def rNotInS : R2 := fun x y H Q => ∃ (c : Nat) (z : Str), x = .str ⟨#[c]⟩ ∧ y = .str z ∧ Q (.bl (!decide (c ∈ z.cps.toList))) H
def rInAll (K : PySem.W.Frag) : R2 := fun x y H Q => (rIn K false x y H Q ∨ rInD K x y H Q) ∨ rInS x y H Q
def rNotInAll (K : PySem.W.Frag) : R2 := fun x y H Q => (rIn K true x y H Q ∨ rNotInD K x y H Q) ∨ rNotInS x y H Q
theorem op_inAll {X : Cx} (hu : X.A.units + 65 < cLine) : OpR X (compareOp .In) (rInAll X.K) := (op_in_seq.or (op_inD hu)).or op_in_sign
theorem op_notInAll {X : Cx} (hu : X.A.units + 65 < cLine) : OpR X (compareOp .NotIn) (rNotInAll X.K) := (op_notIn_seq.or (op_notInD hu)).or op_notIn_sign
theorem one_sign {c : Str} (h : c.cps.size = 1) : c = ⟨#[c.cps.getD 0 0]⟩ := by
  obtain ⟨⟨l⟩⟩ := c
  match l, h with
  | [a], _ => rfl
theorem in_parts {K : PySem.W.Frag} {is : List Addr} {fz : Addr → Prop} {H : Hp} {v w : V} {x y : D} {rn : RN} {neg : Bool} (hx : PRep K is fz H v x) (hy : PRep K is fz H w y) (e : fIn neg x y = some rn) :
    ∃ b, rn = .d (.bl (if neg then !b else b)) ∧ ((∃ p vs, w = .ref p ∧ (SqL K H p vs ∨ SqT K H p vs) ∧ flatV v = true ∧ vs.all flatV = true ∧ inV v vs = b) ∨
      (∃ d ds, Dp K H v d ∧ Dp K H w (.list ds) ∧ SeqAt.shaped d = true ∧ SeqAt.shaped (.list ds) = true ∧ (ds.any fun z => PyData.eqv z d) = b) ∨ ∃ (c : Nat) (z : Str), v = .str ⟨#[c]⟩ ∧ w = .str z ∧ decide (c ∈ z.cps.toList) = b) := by
  unfold fIn at e
  split at e
  · rename_i ys
    split at e
    · rename_i hf
      rw [Bool.and_eq_true] at hf
      cases e
      refine ⟨inD x ys, rfl, .inr (.inl ?_)⟩
      have f1 := fits_mono 63 64 x (by decide) hf.1
      obtain ⟨a1, a2, a3⟩ := dp_of 63 x v hf.1 hx
      obtain ⟨b1, b2, b3⟩ := dp_of 64 (.lst ys) w (by simpa [fits] using hf.2) hy
      exact ⟨toPy x, toPyA ys, a1, b1, shaped_of a2 (by omega), shaped_of (x := .lst ys) b2 b3, any_D f1 63 ys hf.2⟩
    · cases e
  · rename_i ys
    split at e
    · rename_i hf
      rw [Bool.and_eq_true] at hf
      cases e
      obtain ⟨p, vs, rfl, h1, r1⟩ := hy.tup
      have hx' : Rep K is fz H v x := by
        rcases hx with hx | ⟨p, c, _, e, _⟩
        · exact hx
        · subst e; cases c <;> simp [C.d, flatD] at hf
      obtain ⟨h2, h3⟩ := inV_D hx' hf.1 r1 hf.2
      exact ⟨inD x ys, rfl, .inl ⟨p, vs, rfl, .inr (sqT_of h1), flat_V hx' hf.1, h2, h3⟩⟩
    · cases e
  · rename_i c z
    split at e
    · rename_i h1
      cases e
      obtain ⟨rfl, _⟩ := hx.str
      obtain ⟨rfl, _⟩ := hy.str
      exact ⟨_, rfl, .inr (.inr ⟨_, z, by rw [← one_sign h1], rfl, rfl⟩)⟩
    · cases e
  · cases e
theorem f_in {K : PySem.W.Frag} : OpF K (rInAll K) (fIn false) := by
  intro is fz H v w x y rn Q dm hx hy e fin
  obtain ⟨b, rfl, h⟩ := in_parts hx hy e
  have q : Q (.bl b) H := fin.sc (.bl _)
  rcases h with ⟨p, vs, rfl, h1, h2, h3, h4⟩ | ⟨d, ds, h1, h2, h3, h4, h5⟩ | ⟨c, z, rfl, rfl, h⟩
  · exact .inl (.inl ⟨p, vs, rfl, h1, h2, h3, by rw [h4]; exact q⟩)
  · exact .inl (.inr ⟨d, ds, h1, h2, h3, h4, by rw [h5]; exact q⟩)
  · exact .inr ⟨c, z, rfl, rfl, by rw [h]; exact q⟩
theorem f_notIn {K : PySem.W.Frag} : OpF K (rNotInAll K) (fIn true) := by
  intro is fz H v w x y rn Q dm hx hy e fin
  obtain ⟨b, rfl, h⟩ := in_parts hx hy e
  have q : Q (.bl (!b)) H := fin.sc (.bl _)
  rcases h with ⟨p, vs, rfl, h1, h2, h3, h4⟩ | ⟨d, ds, h1, h2, h3, h4, h5⟩ | ⟨c, z, rfl, rfl, h⟩
  · exact .inl (.inl ⟨p, vs, rfl, h1, h2, h3, by rw [h4]; exact q⟩)
  · exact .inl (.inr ⟨d, ds, h1, h2, h3, h4, by rw [h5]; exact q⟩)
  · exact .inr ⟨c, z, rfl, rfl, by rw [h]; exact q⟩
end Mx

set_option Elab.async false
set_option linter.all false
set_option maxRecDepth 100000
/-! built-ins, subscripts, methods that change a container -/
namespace Mx
open PySem PySem.Spec PyProof.Rows L2

section
variable {K : PySem.W.Frag} {is : List Addr} {fz : Addr → Prop} {H : Hp} {v : V}
theorem PReps.one {vs : List V} {x : D} (h : PReps K is fz H vs [x]) : ∃ v, vs = [v] ∧ PRep K is fz H v x := by
  cases h with
  | cons r t => cases t; exact ⟨_, rfl, r⟩
theorem PReps.two {vs : List V} {x y : D} (h : PReps K is fz H vs [x, y]) : ∃ v w, vs = [v, w] ∧ PRep K is fz H v x ∧ PRep K is fz H w y := by
  cases h with
  | cons r t =>
    cases t with
    | cons r' t => cases t; exact ⟨_, _, rfl, r, r'⟩
theorem CallR.or {X : Cx} {f : Value} {r r' : List V → Hp → VK → Prop} (h : CallR X f r) (h' : CallR X f r') : CallR X f (fun xs H Q => r xs H Q ∨ r' xs H Q) := by
  intro pins s σ H xs us Q I r1 q
  rcases q with q | q
  · exact h pins s σ H xs us Q I r1 q
  · exact h' pins s σ H xs us Q I r1 q

/-! ### len -/
def fLen : List D → Option RN
  | [.str s] => some (.d (.int s.length))
  | [.lst xs] => some (.d (.int xs.length))
  | [.tup xs] => some (.d (.int xs.length))
  | [.scr ns] => some (.d (.int ns.length))
  | _ => none
def rLenA (K : PySem.W.Frag) : List V → Hp → VK → Prop := fun xs H Q => ∃ x n, xs = [x] ∧ LenV K x H n ∧ Q (.int n) H
theorem f_len : CallF K (rLenA K) fLen := by
  intro is fz H vs xs rn Q dm hx e fin
  unfold fLen at e
  split at e
  · cases e
    obtain ⟨v, rfl, h⟩ := hx.one
    obtain ⟨rfl, ok⟩ := h.str
    exact ⟨_, _, rfl, ⟨ok.len, rfl⟩, fin.sc (.int _)⟩
  · cases e
    obtain ⟨v, rfl, h⟩ := hx.one
    obtain ⟨a, ws, rfl, h1, r1⟩ := h.lst
    exact ⟨_, _, rfl, .inl ⟨ws, .of h1, rfl⟩, by rw [r1.length]; exact fin.sc (.int _)⟩
  · cases e
    obtain ⟨v, rfl, h⟩ := hx.one
    obtain ⟨a, ws, rfl, h1, r1⟩ := h.tup
    exact ⟨_, _, rfl, .inr ⟨ws, sqT_of h1, rfl⟩, by rw [r1.length]; exact fin.sc (.int _)⟩
  · cases e
    obtain ⟨v, rfl, h⟩ := hx.one
    obtain ⟨a, rfl, h1⟩ := h.scr
    exact ⟨_, _, rfl, .inl ⟨_, h1, rfl⟩, by rw [List.length_map]; exact fin.sc (.int _)⟩
  · cases e
/-! ### list(x), tuple(x) -/
def fList : List D → Option RN
  | [.lst xs] => some (.new (.lst xs))
  | [.tup xs] => some (.new (.lst xs))
  | [.scr ns] => some (.new (.lst (ns.map D.int)))
  | _ => none
def rListA (K : PySem.W.Frag) : List V → Hp → VK → Prop := fun xs H Q => ∃ p ys, xs = [.ref p] ∧ (SqL K H p ys ∨ SqT K H p ys) ∧ ∀ l, H l = none → Q (.ref l) (upd H l (.lst ys))
theorem rep_ints : ∀ ns : List Int, RepA K is fz H (ns.map V.int) (ns.map D.int)
  | [] => .nil
  | n :: ns => .cons (.int n) (rep_ints ns)
theorem f_list : CallF K (rListA K) fList := by
  intro is fz H vs xs rn Q dm hx e fin
  unfold fList at e
  split at e
  · cases e
    obtain ⟨v, rfl, h⟩ := hx.one
    obtain ⟨a, ws, rfl, h1, r1⟩ := h.lst
    exact ⟨_, _, rfl, .inl (.of h1), fin.lst dm r1⟩
  · cases e
    obtain ⟨v, rfl, h⟩ := hx.one
    obtain ⟨a, ws, rfl, h1, r1⟩ := h.tup
    exact ⟨_, _, rfl, .inr (sqT_of h1), fin.lst dm r1⟩
  · cases e
    obtain ⟨v, rfl, h⟩ := hx.one
    obtain ⟨a, rfl, h1⟩ := h.scr
    exact ⟨_, _, rfl, .inl h1, fin.lst dm (rep_ints _)⟩
  · cases e
def fTuple : List D → Option RN
  | [.lst xs] => some (.d (.tup xs))
  | [.tup xs] => some (.d (.tup xs))
  | _ => none
def rTupleA (K : PySem.W.Frag) : List V → Hp → VK → Prop := fun xs H Q => ∃ p ys, xs = [.ref p] ∧ ((SqL K H p ys ∧ ∀ l, H l = none → Q (.ref l) (upd H l (.tup ys))) ∨ (SqT K H p ys ∧ Q (.ref p) H))
theorem f_tuple : CallF K (rTupleA K) fTuple := by
  intro is fz H vs xs rn Q dm hx e fin
  unfold fTuple at e
  split at e
  · cases e
    obtain ⟨v, rfl, h⟩ := hx.one
    obtain ⟨a, ws, rfl, h1, r1⟩ := h.lst
    exact ⟨_, _, rfl, .inl ⟨.of h1, fin.tup dm r1⟩⟩
  · cases e
    obtain ⟨v, rfl, h⟩ := hx.one
    obtain ⟨a, ws, rfl, h1, r1⟩ := h.tup
    exact ⟨_, _, rfl, .inr ⟨sqT_of h1, fin.sc (.tup h1 r1)⟩⟩
  · cases e
/-! ### all, any -/
def bools : List D → Option (List Bool)
  | [] => some []
  | .bl b :: xs => (bools xs).map (b :: ·)
  | _ => none
def fAll : List D → Option RN
  | [.lst xs] => (bools xs).map fun bs => .d (.bl (bs.all id))
  | _ => none
def fAny : List D → Option RN
  | [.lst xs] => (bools xs).map fun bs => .d (.bl (bs.any id))
  | _ => none
theorem bools_rep : ∀ {vs : List V} {xs : List D} {bs : List Bool}, RepA K is fz H vs xs → bools xs = some bs → vs = bs.map V.bl
  | _, _, bs, .nil, e => by cases e; rfl
  | _, _, bs, .cons (d := d) r t, e => by
    cases d with
    | bl b =>
      simp only [bools] at e
      obtain ⟨cs, h1, rfl⟩ := Option.map_eq_some_iff.mp e
      cases r
      rw [bools_rep t h1]
      rfl
    | _ => cases e
theorem f_all : CallF K (rAll K) fAll := by
  intro is fz H vs xs rn Q dm hx e fin
  unfold fAll at e
  split at e
  · obtain ⟨bs, h1, rfl⟩ := Option.map_eq_some_iff.mp e
    obtain ⟨v, rfl, h⟩ := hx.one
    obtain ⟨a, ws, rfl, h2, r1⟩ := h.lst
    rw [bools_rep r1 h1] at h2
    exact ⟨a, bs, rfl, .of h2, fin.sc (.bl _)⟩
  · cases e
theorem f_any : CallF K (rAny K) fAny := by
  intro is fz H vs xs rn Q dm hx e fin
  unfold fAny at e
  split at e
  · obtain ⟨bs, h1, rfl⟩ := Option.map_eq_some_iff.mp e
    obtain ⟨v, rfl, h⟩ := hx.one
    obtain ⟨a, ws, rfl, h2, r1⟩ := h.lst
    rw [bools_rep r1 h1] at h2
    exact ⟨a, bs, rfl, .of h2, fin.sc (.bl _)⟩
  · cases e
/-! ### isinstance with built-in classes -/
def tyN : D → Option String
  | .non => some "NoneType" | .bl _ => some "bool" | .int _ => some "int" | .str _ => some "str" | .lst _ => some "list" | .scr _ => some "list" | .tup _ => some "tuple" | .dct _ => some "dict"
  | _ => none
def isB (t n : String) : Bool := t == n || (t == "bool" && n == "int")
def tyS : List String := ["NoneType", "bool", "int", "str", "list", "tuple", "dict"]
def clS : List String := ["bool", "int", "str", "list", "tuple", "dict"]
theorem kit_tab : (tyS.all fun t => clS.all fun n => kitB t n == some (isB t n)) = true := by decide +kernel
def tys : List D → Option (List String)
  | [] => some []
  | .ty n :: cs => if n ∈ clS then (tys cs).map (n :: ·) else none
  | _ => none
def fIsi : List D → Option RN
  | [x, .ty n] => (tyN x).bind fun t => if n ∈ clS then some (.d (.bl (isB t n))) else none
  | [x, .tup cs] => (tyN x).bind fun t => (tys cs).map fun ns => .d (.bl (ns.any (isB t)))
  | _ => none
theorem tyN_in {x : D} {t : String} (h : tyN x = some t) : t ∈ tyS := by
  cases x <;> simp [tyN] at h <;> subst h <;> decide
theorem kit_is {t n : String} (ht : t ∈ tyS) (hn : n ∈ clS) : kitB t n = some (isB t n) := by
  have h := kit_tab
  rw [List.all_eq_true] at h
  have h := h t ht
  rw [List.all_eq_true] at h
  exact eq_of_beq (h n hn)
theorem tyX_of {x : D} {t : String} (h : PRep K is fz H v x) (e : tyN x = some t) : TyX K H v (.type t) := by
  cases x <;> simp [tyN] at e <;> subst e
  · rw [h.non]; exact .base .non
  · rw [h.bl]; exact .base (.bl _)
  · rw [h.int]; exact .base (.int _)
  · rw [h.str.1]; exact .base (.str _)
  · obtain ⟨a, vs, rfl, h1, _⟩ := h.tup
    rcases h1 with ⟨_, h1⟩ | ⟨o, its, n, h1, h2, _⟩
    · exact .base (.tup h1)
    · exact .kTuple h1 h2
  · obtain ⟨a, vs, rfl, h1, _⟩ := h.lst
    exact .base (.lst h1)
  · obtain ⟨a, vs, rfl, h1, _⟩ := h.dct
    rcases h1 with h1 | ⟨o, h1⟩
    · exact .base (.dK h1)
    · exact .fDict h1
  · obtain ⟨a, rfl, h1⟩ := h.scr
    rcases h1 with (h1 | ⟨o, h1⟩) | ⟨o, its, n, h1, h2, _⟩
    · exact .base (.lst h1)
    · exact .base (.frz h1)
    · exact .kList h1 h2
theorem isi_any {t : String} (ht : t ∈ tyS) : ∀ {cs : List D} {ns : List String} {vs : List V}, RepA K is fz H vs cs → tys cs = some ns →
    ∃ us, Paired ClsV vs us ∧ PySem.W.kitAny K (.type t) us = some (ns.any (isB t))
  | [], ns, _, .nil, e => by
    simp [tys] at e; subst e
    exact ⟨[], .nil, rfl⟩
  | c :: cs, ns, _, .cons r rr, e => by
    cases c with
    | ty n =>
      simp only [tys] at e
      by_cases hn : n ∈ clS
      · rw [if_pos hn] at e
        obtain ⟨ms, h1, rfl⟩ := Option.map_eq_some_iff.mp e
        obtain ⟨us, q1, q2⟩ := isi_any ht rr h1
        cases r
        refine ⟨.type n :: us, .cons (.ty n) q1, ?_⟩
        have hk : PySem.W.kitOne K (.type t) (.type n) = some (isB t n) := kit_ty (kit_is ht hn)
        rw [List.any_cons]
        cases hb : isB t n with
        | true => rw [hb] at hk; exact kitAny_cons hk (fun q => by cases q) (fun _ => by simp)
        | false => rw [hb] at hk; exact kitAny_cons hk (fun _ => by simpa using q2) (fun q => by cases q)
      · rw [if_neg hn] at e; cases e
    | _ => simp [tys] at e
def rIsiA (K : PySem.W.Frag) : List V → Hp → VK → Prop := fun xs H Q => (rIsi K xs H Q ∨ rIsiT K xs H Q) ∨ rIsiK K xs H Q
theorem cr_isi {X : Cx} : CallR X (.builtin "isinstance") (rIsiA X.K) := CallR.or (CallR.or call_isi call_isiT) call_isiK
theorem f_isi : CallF K (rIsiA K) fIsi := by
  intro is fz H vs xs rn Q dm hx e fin
  unfold fIsi at e
  split at e
  · rename_i x n
    obtain ⟨t, h1, h2⟩ := Option.bind_eq_some_iff.mp e
    split at h2
    · rename_i hn
      cases h2
      obtain ⟨v, w, rfl, r1, r2⟩ := hx.two
      rw [r2.ty]
      exact .inl (.inl ⟨v, _, _, _, _, rfl, .ty n, tyX_of r1 h1, kit_ty (kit_is (tyN_in h1) hn), fin.sc (.bl _)⟩)
    · cases h2
  · rename_i x cs
    obtain ⟨t, h1, h2⟩ := Option.bind_eq_some_iff.mp e
    obtain ⟨ns, h3, rfl⟩ := Option.map_eq_some_iff.mp h2
    obtain ⟨v, w, rfl, r1, r2⟩ := hx.two
    obtain ⟨a, ws, rfl, ha, ra⟩ := r2.tup
    obtain ⟨us, q1, q2⟩ := isi_any (tyN_in h1) ra h3
    rcases ha with ⟨_, ha⟩ | ⟨o, its, n, k1, k2, k3, k4, k5⟩
    · exact .inl (.inr ⟨v, a, ws, _, us, _, rfl, ha, q1, tyX_of r1 h1, q2, fin.sc (.bl _)⟩)
    · have e := ClsV.all q1 k5
      subst e
      obtain ⟨oc, od, dt, sl⟩ := o
      simp only at k2 k3
      subst k2 k3
      exact .inr ⟨v, a, od, its.toList, n, sl, _, _, rfl, by rw [k1], tyX_of r1 h1, q2, fin.sc (.bl _)⟩
  · cases e
/-! ### int, max, min -/
def fInt : List D → Option RN
  | [.int i] => some (.d (.int i))
  | [.bl k] => some (.d (.int (if k then 1 else 0)))
  | _ => none
def rIntA : List V → Hp → VK → Prop := fun xs H Q => (∃ i, xs = [.int i] ∧ Q (.int i) H) ∨ ∃ k, xs = [.bl k] ∧ Q (.int (if k then 1 else 0)) H
theorem f_int : CallF K rIntA fInt := by
  intro is fz H vs xs rn Q dm hx e fin
  unfold fInt at e
  split at e
  · cases e
    obtain ⟨v, rfl, h⟩ := hx.one
    rw [h.int]
    exact .inl ⟨_, rfl, fin.sc (.int _)⟩
  · cases e
    obtain ⟨v, rfl, h⟩ := hx.one
    rw [h.bl]
    exact .inr ⟨_, rfl, fin.sc (.int _)⟩
  · cases e
def intsD : List D → Option (List Int)
  | [] => some []
  | .int b :: xs => (intsD xs).map (b :: ·)
  | _ => none
theorem ints_rep : ∀ {vs : List V} {xs : List D} {bs : List Int}, RepA K is fz H vs xs → intsD xs = some bs → vs = bs.map V.int
  | _, _, bs, .nil, e => by cases e; rfl
  | _, _, bs, .cons (d := d) r t, e => by
    cases d with
    | int b =>
      simp only [intsD] at e
      obtain ⟨cs, h1, rfl⟩ := Option.map_eq_some_iff.mp e
      cases r
      rw [ints_rep t h1]
      rfl
    | _ => cases e
@[simp] theorem ints_map : ∀ ns : List Int, intsD (ns.map D.int) = some ns
  | [] => rfl
  | n :: ns => by simp [intsD, ints_map ns]
def maxL : List Int → Int
  | [] => 0
  | [a] => a
  | a :: b :: r => max a (maxL (b :: r))
def minL : List Int → Int
  | [] => 0
  | [a] => a
  | a :: b :: r => min a (minL (b :: r))
theorem maxL_spec : ∀ l : List Int, l ≠ [] → maxL l ∈ l ∧ ∀ y ∈ l, y ≤ maxL l
  | [], h => absurd rfl h
  | [a], _ => ⟨by simp [maxL], fun y hy => by simp at hy; subst hy; simp [maxL]⟩
  | a :: b :: r, _ => by
    obtain ⟨h1, h2⟩ := maxL_spec (b :: r) (by simp)
    refine ⟨?_, fun y hy => ?_⟩
    · simp only [maxL]
      rcases Int.le_total a (maxL (b :: r)) with h | h
      · rw [Int.max_eq_right h]; exact List.mem_cons_of_mem _ h1
      · rw [Int.max_eq_left h]; exact List.mem_cons_self
    · simp only [maxL]
      rcases List.mem_cons.mp hy with rfl | hy
      · exact Int.le_max_left _ _
      · exact Int.le_trans (h2 y hy) (Int.le_max_right _ _)
theorem minL_spec : ∀ l : List Int, l ≠ [] → minL l ∈ l ∧ ∀ y ∈ l, minL l ≤ y
  | [], h => absurd rfl h
  | [a], _ => ⟨by simp [minL], fun y hy => by simp at hy; subst hy; simp [minL]⟩
  | a :: b :: r, _ => by
    obtain ⟨h1, h2⟩ := minL_spec (b :: r) (by simp)
    refine ⟨?_, fun y hy => ?_⟩
    · simp only [minL]
      rcases Int.le_total a (minL (b :: r)) with h | h
      · rw [Int.min_eq_left h]; exact List.mem_cons_self
      · rw [Int.min_eq_right h]; exact List.mem_cons_of_mem _ h1
    · simp only [minL]
      rcases List.mem_cons.mp hy with rfl | hy
      · exact Int.min_le_left _ _
      · exact Int.le_trans (Int.min_le_right _ _) (h2 y hy)
def fMax : List D → Option RN
  | [.lst xs] => (intsD xs).bind fun ns => if ns.isEmpty then none else some (.d (.int (maxL ns)))
  | _ => none
def fMin : List D → Option RN
  | [.lst xs] => (intsD xs).bind fun ns => if ns.isEmpty then none else some (.d (.int (minL ns)))
  | _ => none
theorem f_max : CallF K (rMax K) fMax := by
  intro is fz H vs xs rn Q dm hx e fin
  unfold fMax at e
  split at e
  · obtain ⟨ns, h1, h2⟩ := Option.bind_eq_some_iff.mp e
    obtain ⟨v, rfl, h⟩ := hx.one
    obtain ⟨a, ws, rfl, h3, r1⟩ := h.lst
    rw [ints_rep r1 h1] at h3
    cases ns with
    | nil => simp at h2
    | cons n ns =>
      simp at h2
      subst h2
      refine ⟨a, _, rfl, .of h3, by simp, fun m hm hle => ?_⟩
      obtain ⟨q1, q2⟩ := maxL_spec (n :: ns) (by simp)
      have : m = maxL (n :: ns) := Int.le_antisymm (q2 m hm) (hle _ q1)
      rw [this]
      exact fin.sc (.int _)
  · cases e
theorem f_min : CallF K (rMin K) fMin := by
  intro is fz H vs xs rn Q dm hx e fin
  unfold fMin at e
  split at e
  · obtain ⟨ns, h1, h2⟩ := Option.bind_eq_some_iff.mp e
    obtain ⟨v, rfl, h⟩ := hx.one
    obtain ⟨a, ws, rfl, h3, r1⟩ := h.lst
    rw [ints_rep r1 h1] at h3
    cases ns with
    | nil => simp at h2
    | cons n ns =>
      simp at h2
      subst h2
      refine ⟨a, _, rfl, .of h3, by simp, fun m hm hle => ?_⟩
      obtain ⟨q1, q2⟩ := minL_spec (n :: ns) (by simp)
      have : m = minL (n :: ns) := Int.le_antisymm (hle _ q1) (q2 m hm)
      rw [this]
      exact fin.sc (.int _)
  · cases e
end

/-! ### x[i] -/
def fIx : D → D → Option RN
  | .lst xs, .int i => (atI xs i).map .d
  | .tup xs, .int i => (atI xs i).map .d
  | .scr ns, .int i => (atI ns i).map fun n => .d (.int n)
  | .str s, .int i => (atI s.cps.toList i).map fun c => .d (.str ⟨#[c]⟩)
  | _, _ => none
def rIxAll (K : PySem.W.Frag) : R2 := fun x y H Q => (rIxL K x y H Q ∨ rIxT K x y H Q) ∨ rIxS x y H Q
theorem ix_all {X : Cx} : IxR X (rIxAll X.K) := (ix_list.or ix_tup).or ix_str
theorem atI_len {α β : Type} {xs : List α} {ys : List β} (h : xs.length = ys.length) {i : Int} {x : α} (e : atI xs i = some x) : ∃ j : Nat, xs[j]? = some x ∧ ∀ y, ys[j]? = some y → atI ys i = some y := by
  obtain ⟨j, h1, h2⟩ := Option.bind_eq_some_iff.mp e
  exact ⟨j, h2, fun y hy => by unfold atI; rw [← h, h1]; exact hy⟩
theorem f_ix {K : PySem.W.Frag} : OpF K (rIxAll K) fIx := by
  intro is fz H v w x y rn Q dm hx hy e fin
  unfold fIx at e
  split at e
  · obtain ⟨d, h1, rfl⟩ := Option.map_eq_some_iff.mp e
    obtain ⟨a, vs, rfl, h2, r⟩ := hx.lst
    rw [hy.int]
    obtain ⟨j, h3, h4⟩ := atI_len r.length.symm h1
    obtain ⟨u, h5, r5⟩ := r.get h3
    exact .inl (.inl ⟨_, _, _, u, rfl, rfl, .of h2, h4 u h5, fin.sc r5⟩)
  · obtain ⟨d, h1, rfl⟩ := Option.map_eq_some_iff.mp e
    obtain ⟨a, vs, rfl, h2, r⟩ := hx.tup
    rw [hy.int]
    obtain ⟨j, h3, h4⟩ := atI_len r.length.symm h1
    obtain ⟨u, h5, r5⟩ := r.get h3
    exact .inl (.inr ⟨_, _, _, u, rfl, rfl, sqT_of h2, h4 u h5, fin.sc r5⟩)
  · obtain ⟨d, h1, rfl⟩ := Option.map_eq_some_iff.mp e
    obtain ⟨a, rfl, h2⟩ := hx.scr
    rw [hy.int]
    rename_i ns i
    obtain ⟨j, h3, h4⟩ := atI_len (ys := ns.map V.int) (by simp) h1
    exact .inl (.inl ⟨_, _, _, .int d, rfl, rfl, h2, h4 _ (by rw [List.getElem?_map, h3]; rfl), fin.sc (.int _)⟩)
  · obtain ⟨d, h1, rfl⟩ := Option.map_eq_some_iff.mp e
    obtain ⟨rfl, ok⟩ := hx.str
    rw [hy.int]
    refine .inr ⟨_, _, _, rfl, rfl, ok.len, h1, fin.sc (.str _ (strOk_sign ok ?_))⟩
    obtain ⟨j, _, h3⟩ := Option.bind_eq_some_iff.mp h1
    exact List.mem_of_getElem? h3
  · cases e

/-! ### x[a:b] -/
def cut {α : Type} (xs : List α) (lo hi : Option Int) : List α := (xs.drop (HT.sIx xs.length 0 lo)).take (HT.sIx xs.length xs.length hi - HT.sIx xs.length 0 lo)
def fSl (x : D) (lo hi : Option Int) : Option RN := match x with
  | .lst xs => some (.new (.lst (cut xs lo hi)))
  | .scr ns => some (.new (.lst ((cut ns lo hi).map D.int)))
  | .tup xs => some (.d (.tup (cut xs lo hi)))
  | .str s => some (.d (.str (cutS s lo hi)))
  | _ => none
section
variable {X : Cx} {N : En} {xm : XM} {W : WX}
/-- a slice's part -/
def asI : RV → Option Int
  | .d (.int i) => some i
  | _ => none
theorem asI_eq {r : RV} {i : Int} (h : asI r = some i) : r = .d (.int i) := by
  unfold asI at h
  split at h <;> cases h
  rfl
def mPart (m : ST RV) : ST (Option Int) := bnd m fun r g => match asI r with
  | some i => .ok (some i) g
  | none => .stuck
def mNoPart : ST (Option Int) := ret none
def postO (N : En) (xm : XM) (W : WX) (σ : L2.St) (H : Hp) (fz : Addr → Prop) (is : List Addr) (Q : Option Int → Hp → Prop) : R (Option Int) → Prop
  | .stuck => False
  | .ok r g' => ∀ H' fz' is', Le fz H is fz' H' is' → SR N σ H' g' fz' is' → Q r H'
  | .exc e g' => ∀ cls od H' fz' is', Le fz H is fz' H' is' → SR N σ H' g' fz' is' → ExRep xm N.K is' fz' H' e cls od → W cls od σ H'
def liftO (N : En) (xm : XM) (W : WX) (m : ST (Option Int)) : TO := fun σ H Q => ∃ g fz is, SR N σ H g fz is ∧ postO N xm W σ H fz is Q (m g)
theorem impO {e : Option Expr} {t t' : TO} (h : PO X e t) (i : ∀ σ H Q, t' σ H Q → t σ H Q) : PO X e t' := ⟨fun pins s σ H Q I q => h.run pins s σ H Q I (i σ H Q q)⟩
theorem postO.later {σ : L2.St} {H H1 : Hp} {fz fz1 : Addr → Prop} {is is1 : List Addr} {Q : Option Int → Hp → Prop} (l : Le fz H is fz1 H1 is1) {x : R (Option Int)} (h : postO N xm W σ H fz is Q x) : postO N xm W σ H1 fz1 is1 Q x := by
  cases x with
  | stuck => exact h
  | ok r g' => exact fun H' fz' is' l' => h H' fz' is' (l.trans l')
  | exc e g' => exact fun cls od H' fz' is' l' => h cls od H' fz' is' (l.trans l')
theorem o_none : PO X none (liftO N xm W mNoPart) := impO po_none fun σ H Q ⟨g, fz, is, sr, h⟩ => h H fz is .refl sr
theorem o_some {e : Expr} {m : ST RV} (h : PE X e (lift N xm W m)) : PO X (some e) (liftO N xm W (mPart m)) := by
  refine impO (po_some h) fun σ H Q ⟨g, fz, is, sr, h⟩ => ⟨g, fz, is, sr, ?_⟩
  simp only [mPart, bnd] at h
  cases e : m g with
  | stuck => rw [e] at h; exact h
  | exc x g' => rw [e] at h; exact h
  | ok r g1 =>
    rw [e, bind_ok] at h
    intro v H1 fz1 is1 l sr1 rep
    have h := h.later l
    cases q : asI r with
    | none => rw [q] at h; exact h.elim
    | some i =>
      rw [q] at h
      rw [asI_eq q] at rep
      cases (show Rep N.K is1 fz1 H1 v (.int i) from rep)
      exact ⟨i, rfl, h H1 fz1 is1 .refl sr1⟩
def mSl (m : ST RV) (lo hi : ST (Option Int)) : ST RV := bnd m fun r => bnd lo fun a => bnd hi fun b => fun g => match peek (frz r) g with
  | some x => opt (fSl x a b) g
  | none => .stuck
def rSlAll (K : PySem.W.Frag) : V → Option Int → Option Int → Hp → VK → Prop := fun x lo hi H Q => (rSlL K x lo hi H Q ∨ rSlA K x lo hi H Q) ∨ rSlS x lo hi H Q
theorem sl_all : SlR X (rSlAll X.K) := (sl_list.or sl_tupA).or sl_str
theorem cutV_map {α : Type} (f : α → V) (xs : List α) (lo hi : Option Int) : cutV (xs.map f) lo hi = (cut xs lo hi).map f := by
  unfold cutV cut
  simp [List.map_take, List.map_drop]
theorem strOk_cut {s : Str} (h : StrOk s) (lo hi : Option Int) : StrOk (cutS s lo hi) := by
  refine ⟨?_, Nat.le_trans (cutS_length s lo hi) h.len⟩
  have h1 := h.cps
  unfold okS at h1 ⊢
  rw [Array.all_eq_true_iff_forall_mem] at h1 ⊢
  intro c hc
  refine h1 c ?_
  have : c ∈ (s.cps.toList.drop (HT.sIx s.length 0 lo)).take (HT.sIx s.length s.length hi - HT.sIx s.length 0 lo) := by
    have := hc
    unfold cutS at this
    simpa using this
  simpa using List.mem_of_mem_drop (List.mem_of_mem_take this)
theorem f_sl {K : PySem.W.Frag} {is : List Addr} {fz : Addr → Prop} {H : Hp} {v : V} {x : D} {lo hi : Option Int} {rn : RN} {Q : VK} (dm : ∀ b, fz b → ∃ o, H b = some o) (hx : PRep K is fz H v x) (e : fSl x lo hi = some rn) (fin : Fin K is fz H Q rn) : rSlAll K v lo hi H Q := by
  unfold fSl at e
  split at e
  · cases e
    obtain ⟨a, vs, rfl, h2, r⟩ := hx.lst
    refine .inl (.inl ⟨a, vs, rfl, .of h2, fin.lst dm ?_⟩)
    unfold cutV cut
    rw [r.length]
    exact (r.drop _).take _
  · cases e
    obtain ⟨a, rfl, h2⟩ := hx.scr
    refine .inl (.inl ⟨a, _, rfl, h2, fin.lst dm ?_⟩)
    rw [cutV_map]
    exact rep_ints _
  · cases e
    obtain ⟨a, vs, rfl, h2, r⟩ := hx.tup
    rename_i xs
    have hr : RepA K is fz H (cutV vs lo hi) (cut xs lo hi) := by
      unfold cutV cut
      rw [r.length]
      exact (r.drop _).take _
    refine .inl (.inr ⟨a, vs, rfl, sqT_of h2, fun hw => ?_, fun _ => fin.tup dm hr⟩)
    have e1 : cut xs lo hi = xs := by
      unfold cut
      rw [r.length] at hw
      rw [hw.1, hw.2]
      simp
    rw [e1] at fin
    exact fin.sc (.tup h2 r)
  · cases e
    obtain ⟨rfl, ok⟩ := hx.str
    exact .inr ⟨_, rfl, ok.len, fin.sc (.str _ (strOk_cut ok lo hi))⟩
  · cases e
theorem e_slice {e : Expr} {m : ST RV} {lo hi : Option Expr} {a b : ST (Option Int)} {p2 pos : Pos} (c : MC X N W) (he : PE X e (lift N xm W m)) (hl : PO X lo (liftO N xm W a)) (hh : PO X hi (liftO N xm W b)) :
    PE X (.Subscript e (.Slice lo hi none p2) pos) (lift N xm W (mSl m a b)) := by
  have hK := c.hK
  refine imp (pe_slice sl_all he hl hh) fun σ H Q ⟨g, fz, is, sr, h⟩ => step sr h fun r g1 v H1 fz1 is1 l1 sr1 rep1 h1 => ?_
  obtain ⟨fz1', l1', sr1', rep1', nt1⟩ := frz_ok sr1 rep1
  have h1 := h1.later l1'
  refine ⟨g1, fz1', is1, sr1', ?_⟩
  simp only [bnd] at h1
  cases e2 : a g1 with
  | stuck => rw [e2] at h1; exact h1
  | exc x g' => rw [e2] at h1; exact h1
  | ok lo' g2 =>
    rw [e2, bind_ok] at h1
    intro H2 fz2 is2 l2 sr2
    have h2 := h1.later l2
    refine ⟨g2, fz2, is2, sr2, ?_⟩
    simp only [bnd] at h2
    cases e3 : b g2 with
    | stuck => rw [e3] at h2; exact h2
    | exc x g' => rw [e3] at h2; exact h2
    | ok hi' g3 =>
      rw [e3, bind_ok] at h2
      intro H3 fz3 is3 l3 sr3
      have h3 := h2.later l3
      split at h3
      · rename_i x hx
        have px := RVRep.later (l2.trans l3) rep1' nt1 hx sr3
        simp only [opt] at h3
        split at h3
        · rename_i rn hrn
          have fin := fin_ok sr3 h3
          rw [hK] at px fin
          exact f_sl sr3.dom px hrn fin
        · exact h3.elim
      · exact h3.elim
end
end Mx

set_option Elab.async false
set_option linter.all false
set_option maxRecDepth 100000
/-! what changes a container; texts joined; shared containers -/
namespace Mx
open PySem PySem.Spec PyProof.Rows L2

def getC (r : RV) (g : Sg) : Option C := match r with
  | .own i => match g.env[i]? with
    | some (some (.own c)) => some c
    | _ => none
  | .d (.obj k) => g.st[k]?
  | _ => none
def putC (r : RV) (c : C) (g : Sg) : Sg := match r with
  | .own i => { g with env := g.env.set i (some (.own c)) }
  | .d (.obj k) => { g with st := g.st.set k c }
  | _ => g
section
variable {X : Cx} {N : En} {xm : XM} {W : WX}
/-- a shared container changes -/
theorem SR.changeSt {σ : L2.St} {H : Hp} {g : Sg} {fz : Addr → Prop} {is : List Addr} (sr : SR N σ H g fz is) {k : Nat} {c c' : C} {p : Addr} {o : HO} (h : g.st[k]? = some c) (hp : is[k]? = some p) (r : CAt N.K is fz (upd H p o) p c') (nN : p ∈ N.is ∨ N.H p = none) :
    SR N σ (upd H p o) { g with st := g.st.set k c' } fz is := by
  obtain ⟨nf, _⟩ := sr.st k c p h hp
  have l : Le fz H is fz (upd H p o) is := Le.alloc nf
  have hm : p ∈ is := List.mem_of_getElem? hp
  have hk : k < g.st.length := (List.getElem?_eq_some_iff.mp h).1
  refine ⟨fun i x e => ?_, sr.dist, sr.len, sr.sz, fun b hb => ?_, by simp [sr.stl], fun j d a h1 h2 => ?_, sr.nd, fun b u h1 h2 => ?_, sr.fzn, sr.fz0, sr.isx, sr.isn⟩
  · obtain ⟨v, h1, h2⟩ := sr.env i x e
    refine ⟨v, h1, ?_⟩
    cases x with
    | d x => exact Rep.mono l h2
    | own d =>
      obtain ⟨q, rfl, h3, h4⟩ := h2
      exact ⟨q, rfl, h3, h4.mono l (upd_ne fun e => h3.ni (e ▸ hm))⟩
  · obtain ⟨u, e⟩ := sr.dom b hb
    exact ⟨u, by rw [upd_ne (fun (z : b = p) => nf (z ▸ hb))]; exact e⟩
  · by_cases e : j = k
    · subst e
      rw [List.getElem?_set_self hk] at h1; cases h1
      rw [hp] at h2; cases h2
      exact ⟨nf, r⟩
    · rw [List.getElem?_set_ne (Ne.symm e)] at h1
      obtain ⟨h3, h4⟩ := sr.st j d a h1 h2
      refine ⟨h3, h4.mono l (upd_ne fun z => ?_)⟩
      subst z
      obtain ⟨a1, b1⟩ := List.getElem?_eq_some_iff.mp h2
      obtain ⟨a2, b2⟩ := List.getElem?_eq_some_iff.mp hp
      exact e ((List.getElem_inj sr.nd).mp (b1.trans b2.symm))
  · have h3 := sr.frame b u h1 h2
    rw [upd_ne]; exact h3
    rintro rfl
    rcases nN with z | z
    · exact h2 z
    · rw [h1] at z; cases z
theorem putC_ok {σ : L2.St} {H : Hp} {g : Sg} {fz : Addr → Prop} {is : List Addr} {v : V} {r : RV} {c c' : C} {p : Addr} {o : HO} (sr : SR N σ H g fz is) (rep : RVw N σ H fz is v r) (h : getC r g = some c) (e : v = .ref p) (hc : CAt N.K is fz (upd H p o) p c') :
    SR N σ (upd H p o) (putC r c' g) fz is := by
  subst e
  unfold getC at h
  split at h
  · rename_i i
    split at h
    · rename_i c0 hc0
      cases h
      exact sr.change hc0 rep hc
    · cases h
  · rename_i k
    cases (show Rep N.K is fz H (.ref p) (.obj k) from rep) with
    | obj hi => exact sr.changeSt h hi hc (sr.isn p (List.mem_of_getElem? hi))
  · cases h
theorem getC_at {σ : L2.St} {H : Hp} {g : Sg} {fz : Addr → Prop} {is : List Addr} {v : V} {r : RV} {c : C} (sr : SR N σ H g fz is) (rep : RVw N σ H fz is v r) (h : getC r g = some c) : ∃ p, v = .ref p ∧ ¬ fz p ∧ CAt N.K is fz H p c := by
  unfold getC at h
  split at h
  · rename_i i
    split at h
    · rename_i c0 hc0
      cases h
      obtain ⟨p, h1, h2, h3⟩ := sr.own_at hc0
      rw [show σ[i]? = some (some v) from rep] at h1
      cases h1
      exact ⟨p, rfl, h2.nf, h3⟩
    · cases h
  · rename_i k
    cases (show Rep N.K is fz H v (.obj k) from rep) with
    | @obj _ a hi => exact ⟨a, rfl, sr.st k c a h hi⟩
  · cases h

/-! ### o.m(..) that changes o -/
def isLst : Option C → Bool
  | some (.lst _) => true
  | _ => false
/-- what a method makes: its answer, the container behind it -/
abbrev MF := C → List D → Option (D × C)
def mutK (f : MF) (r : RV) (xs : List D) : ST RV := fun g => match getC r g with
  | some c => match f c xs with
    | some (d, c') => .ok (.d d) (putC r c' g)
    | none => .stuck
  | none => .stuck
def mMut (f : MF) (mr : ST RV) (ms : List (ST RV)) : ST RV := bnd mr fun r g => if isLst (getC r g) = true then (argsD ms g).bind (mutK f r) else .stuck
def MutF (K : PySem.W.Frag) (r : V → List V → Hp → VK → Prop) (f : MF) : Prop := ∀ is fz H p c vs ds d c' Q, CAt K is fz H p c → ¬ fz p → RepA K is fz H vs ds → f c ds = some (d, c') →
  (∀ v o, CAt K is fz (upd H p o) p c' → Rep K is fz (upd H p o) v d → Q v (upd H p o)) → r (.ref p) vs H Q
theorem lst_ty {σ : L2.St} {H : Hp} {g : Sg} {fz : Addr → Prop} {is : List Addr} {v : V} {r : RV} (sr : SR N σ H g fz is) (rep : RVw N σ H fz is v r) (h : isLst (getC r g) = true) : tyV X.K "list" v H := by
  unfold isLst at h
  split at h
  · rename_i xs hx
    obtain ⟨p, rfl, _, vs, h1, _⟩ := getC_at sr rep hx
    exact .inl ⟨rfl, vs, .of h1⟩
  · cases h
theorem getC_nt {r : RV} {g : Sg} (h : isLst (getC r g) = true) : ∀ c, r ≠ .tmp c := fun c e => by
  subst e; simp [getC, isLst] at h
theorem mut_args {f : MF} {r : V → List V → Hp → VK → Prop} {r0 : RV} {ms : List (ST RV)} (c : MC X N W) (hf : MutF X.K r f) {σ : L2.St} {H1 : Hp} {g1 : Sg} {fz1 : Addr → Prop} {is1 : List Addr} {Q : VK} {v : V} (sr1 : SR N σ H1 g1 fz1 is1) (rw1 : RVw N σ H1 fz1 is1 v r0)
    (h : postE N xm W σ H1 fz1 is1 Q ((argsD ms g1).bind (mutK f r0))) :
    liftD N xm W ms σ H1 (fun xs H2 => r v xs H2 Q) := by
  have hK := c.hK
  refine stepD sr1 h fun xs g2 vs H2 fz2 is2 l2 sr2 rep2 h2 => ?_
  have rw2 := rw1.mono l2
  unfold mutK at h2
  split at h2
  · rename_i c0 hc0
    split at h2
    · rename_i d c' hd
      obtain ⟨p, rfl, nf, hC⟩ := getC_at sr2 rw2 hc0
      have hC' := hC
      rw [hK] at hC' rep2
      refine hf is2 fz2 H2 p c0 vs xs d c' Q hC' nf rep2 hd fun w o q1 q2 => ?_
      rw [← hK] at q1 q2
      exact h2 w (upd H2 p o) fz2 is2 (Le.alloc nf) (putC_ok sr2 rw2 hc0 rfl q1) q2
    · exact h2.elim
  · exact h2.elim
theorem e_mut {o e : Expr} {es : List Expr} {name : Str} {apos cpos : Pos} {id : String} {r : V → List V → Hp → VK → Prop} {f : MF} {mr : ST RV} {ms : List (ST RV)} (c : MC X N W) (pa : PlainAttrs "list") (slot : Slot "list" name id) (hty : typeOf (.builtin id) = pure (.type "method_descriptor")) (hm : MtR X id r) (hf : MutF X.K r f)
    (ho : PE X o (lift N xm W mr)) (ha : PA X (e :: es) (liftD N xm W ms))
    (hbase : attributeBase o name X.env (eval o X.env) = eval o X.env := by rfl)
    (hfew : ((backTo cpos (starEach (e :: es) X.env)).all (fun x => !x.1) && (backToKw cpos (keywordEach [] X.env)).all (fun x => x.1.isSome)
      && decide ((e :: es).length + ([] : List Keyword).length + (if ([] : List Keyword).isEmpty then 0 else 1) < 30)) = true := by rfl)
    (hline : (apos.endLine == cpos.line) = true := by rfl) (hs : starEach (e :: es) X.env = (false, eval e X.env) :: starEach es X.env := by rfl) (hplain : (backTo cpos (starEach es X.env)).any (·.1) = false := by rfl) :
    PE X (.Call (.Attribute o name apos) (e :: es) [] cpos) (lift N xm W (mMut f mr ms)) := by
  refine imp (pe_bm pa slot hty hm ho ha hbase hfew hline hs hplain) fun σ H Q ⟨g, fz, is, sr, h⟩ => step sr h fun r0 g1 v H1 fz1 is1 l1 sr1 rep1 h1 => ?_
  split at h1
  · rename_i hl
    have rw1 := RVw.of rep1 (getC_nt hl)
    exact ⟨lst_ty sr1 rw1 hl, mut_args c hf sr1 rw1 h1⟩
  · exact h1.elim
theorem e_mut0 {o : Expr} {name : Str} {apos cpos : Pos} {id : String} {r : V → List V → Hp → VK → Prop} {f : MF} {mr : ST RV} (c : MC X N W) (pa : PlainAttrs "list") (slot : Slot "list" name id) (hty : typeOf (.builtin id) = pure (.type "method_descriptor")) (hm : MtR X id r) (hf : MutF X.K r f)
    (ho : PE X o (lift N xm W mr)) (hbase : attributeBase o name X.env (eval o X.env) = eval o X.env := by rfl) (hline : (apos.endLine == cpos.line) = true := by rfl) :
    PE X (.Call (.Attribute o name apos) [] [] cpos) (lift N xm W (mMut f mr [])) := by
  have hK := c.hK
  refine imp (pe_bm0 pa slot hty hm ho hbase hline) fun σ H Q ⟨g, fz, is, sr, h⟩ => step sr h fun r0 g1 v H1 fz1 is1 l1 sr1 rep1 h1 => ?_
  split at h1
  · rename_i hl
    have rw1 := RVw.of rep1 (getC_nt hl)
    refine ⟨lst_ty sr1 rw1 hl, ?_⟩
    obtain ⟨g', fz', is', sr', h'⟩ := mut_args (X := X) (xm := xm) (ms := []) c hf sr1 rw1 h1
    exact h' [] H1 fz' is' .refl sr' .nil
  · exact h1.elim
/-! list.append, list.pop, list.extend -/
def fAppend : MF
  | .lst xs, [d] => if xs.length < sizeLine then some (.non, .lst (xs ++ [d])) else none
  | _, _ => none
theorem m_append {K : PySem.W.Frag} : MutF K rAppend fAppend := by
  intro is fz H p c vs ds d c' Q hc nf r e k
  unfold fAppend at e
  split at e
  · split at e
    · rename_i hz
      cases e
      obtain ⟨us, h1, h2⟩ := hc
      cases r with
      | @cons v1 _ _ _ r t =>
        cases t
        have l : Le fz H is fz (upd H p (.lst (us ++ [v1]))) is := Le.alloc nf
        exact ⟨p, us, v1, rfl, rfl, h1, by rw [h2.length]; exact hz, k .non _ ⟨_, upd_same, (h2.mono l).append (.cons (r.mono l) .nil)⟩ .non⟩
    · cases e
  · cases e
def fPop : MF
  | .lst xs, [] => (xs[xs.length - 1]?).map fun d => (d, .lst xs.dropLast)
  | _, _ => none
theorem m_pop {K : PySem.W.Frag} : MutF K rPop fPop := by
  intro is fz H p c vs ds d c' Q hc nf r e k
  unfold fPop at e
  split at e
  · obtain ⟨y, h3, h4⟩ := Option.map_eq_some_iff.mp e
    cases h4
    obtain ⟨us, h1, h2⟩ := hc
    cases r
    obtain ⟨u, h5, h6⟩ := h2.get h3
    have l : Le fz H is fz (upd H p (.lst us.dropLast)) is := Le.alloc nf
    exact ⟨p, us, u, rfl, rfl, h1, by rw [h2.length]; exact h5, k u _ ⟨_, upd_same, (h2.mono l).dropLast⟩ (h6.mono l)⟩
  · cases e
def fExtend : MF
  | .lst xs, [.lst ys] => if xs.length + ys.length ≤ sizeLine then some (.non, .lst (xs ++ ys)) else none
  | _, _ => none
theorem m_extend {K : PySem.W.Frag} : MutF K rExtend fExtend := by
  intro is fz H p c vs ds d c' Q hc nf r e k
  unfold fExtend at e
  split at e
  · split at e
    · rename_i hz
      cases e
      obtain ⟨us, h1, h2⟩ := hc
      cases r with
      | cons r t =>
        cases t
        cases r with
        | @lst a ws _ ha hh hr =>
          have l : Le fz H is fz (upd H p (.lst (us ++ ws))) is := Le.alloc nf
          exact ⟨p, a, us, ws, rfl, rfl, h1, hh, by rw [h2.length, hr.length]; exact hz, k .non _ ⟨_, upd_same, (h2.mono l).append (hr.mono l)⟩ .non⟩
    · cases e
  · cases e
/-! ### o[i] = e -/
abbrev SF := C → D → D → Option C
def sPut (f : SF) (mo mi me : ST RV) : SM := fun g => (me g).to fun rv g => (toD rv g).to fun d g => (mo g).to fun ro g => (mi g).to fun ri g => (toD ri g).to fun k g => match getC ro g with
  | some c => match f c k d with
    | some c' => .nx (putC ro c' g)
    | none => .stuck
  | none => .stuck
def SetF (K : PySem.W.Frag) (t : TSet) (f : SF) : Prop := ∀ is fz H p c i x v y c' (Q : Hp → Prop), CAt K is fz H p c → ¬ fz p → Rep K is fz H i x → Rep K is fz H v y → f c x y = some c' →
  (∀ o, CAt K is fz (upd H p o) p c' → Q (upd H p o)) → t (.ref p) i v H Q
theorem toD_noexc {r : RV} {g g' : Sg} {e : Ex} : toD r g ≠ .exc e g' := fun h => by
  cases r <;> simp only [toD, ret] at h
  · cases h
  · cases h
  · split at h <;> cases h
theorem s_put {o i e : Expr} {t : TSet} {f : SF} {mo mi me : ST RV} {tpos pos : Pos} (c : MC X N W) (ho : PE X o (lift N xm W mo)) (hi : PE X i (lift N xm W mi)) (he : PE X e (lift N xm W me)) (hs : PSet X t) (hf : SetF X.K t f)
    (ha : ∀ v, assign (.Subscript o i tpos) X.env v = (do
      let ov ← holding [v] (eval o X.env)
      let iv ← holding [v, ov] (eval i X.env)
      standAt tpos
      holding [v, ov, iv] (setItem ov iv v)
      release [v, ov, iv] []) := by intro _; rfl)
    (hsw : swapsWithSole [.Subscript o i tpos] e pos.line X.env = pure false := by rfl) (hw : swappedStores [.Subscript o i tpos] e X.env = pure none := by rfl)
    (h1 : (assignEach [.Subscript o i tpos] X.env).map (·.2) = [assign (.Subscript o i tpos) X.env] := by rfl) :
    PS X (.Assign [.Subscript o i tpos] e pos) (liftS N xm W (sPut f mo mi me)) := by
  have hK := c.hK
  refine impS (ps_asg he (pg_sub ho hi hs ha) hsw hw h1) fun D σ H ⟨g, fz, is, sr, h⟩ => stepS sr h fun rv g1 v H1 fz1 is1 l1 sr1 rep1 h1 => ?_
  cases e1 : toD rv g1 with
  | stuck => rw [e1] at h1; exact h1.elim
  | exc x g' => exact absurd e1 toD_noexc
  | ok d g2 =>
    rw [e1] at h1
    obtain ⟨fz2, l2, sr2, rd2⟩ := toD_ok sr1 rep1 e1
    have h1 := h1.later l2
    refine stepS sr2 h1 fun ro g3 ov H3 fz3 is3 l3 sr3 rep3 h3 => ?_
    refine stepS sr3 h3 fun ri g4 iv H4 fz4 is4 l4 sr4 rep4 h4 => ?_
    cases e5 : toD ri g4 with
    | stuck => rw [e5] at h4; exact h4.elim
    | exc x g' => exact absurd e5 toD_noexc
    | ok k g5 =>
      rw [e5] at h4
      obtain ⟨fz5, l5, sr5, rk5⟩ := toD_ok sr4 rep4 e5
      have h5 := h4.later l5
      dsimp only [R.to_ok] at h5
      split at h5
      · rename_i c0 hc0
        split at h5
        · rename_i c' hc'
          have nt : ∀ c, ro ≠ .tmp c := fun c e => by subst e; simp [getC] at hc0
          have rw5 := ((RVw.of rep3 nt).mono l4).mono l5
          obtain ⟨p, rfl, nf, hC⟩ := getC_at sr5 rw5 hc0
          have rd5 := ((rd2.mono l3).mono l4).mono l5
          have hC' := hC
          have rk5' := rk5
          rw [hK] at hC' rk5' rd5
          refine hf is4 fz5 H4 p c0 iv k v d c' _ hC' nf rk5' rd5 hc' fun o q => ?_
          rw [← hK] at q
          exact h5 σ (upd H4 p o) fz5 is4 (Le.alloc nf) (putC_ok sr5 rw5 hc0 rfl q)
        · exact h5.elim
      · exact h5.elim
def fSetL : SF
  | .lst xs, .int k, d => (ixN xs.length k).map fun j => .lst (xs.set j d)
  | _, _, _ => none
theorem s_setL {K : PySem.W.Frag} : SetF K rSetL fSetL := by
  intro is fz H p c i x v y c' Q hc nf ri rv e k
  unfold fSetL at e
  split at e
  · obtain ⟨j, h1, h2⟩ := Option.map_eq_some_iff.mp e
    cases h2
    obtain ⟨us, h3, h4⟩ := hc
    cases ri
    have l : Le fz H is fz (upd H p (.lst (us.set j v))) is := Le.alloc nf
    exact ⟨p, us, _, j, rfl, rfl, h3, by rw [h4.length]; exact h1, k _ ⟨_, upd_same, RepA.set (rv.mono l) j (h4.mono l)⟩⟩
  · cases e
/-! ### x op= e, of numbers and texts -/
def sAug (i : Nat) (f : D → D → Option RN) (m : ST RV) : SM := fun g => match g.env[i]? with
  | some (some (.d x)) => (m g).to fun r g => match pk2 f (.d x) (frz r) g with
    | some (.d z) => .nx { g with env := g.env.set i (some (.d z)) }
    | _ => .stuck
  | _ => .stuck
theorem s_aug {i : Nat} {x : Str} {e : Expr} {op : Operator} {r : R2} {f : D → D → Option RN} {m : ST RV} {pos pos' : Pos} (c : MC X N W) (hi : X.N[i]? = some x) (hx : Loc X.env.scope x) (he : PE X e (lift N xm W m)) (ho : OpR X (inplaceOp op) r) (hf : OpF X.K r f) (hn : i < N.n := by decide)
    (hfn : X.fn x = true ∨ X.env.scope.names.lookup x = some .local := by first | exact .inl rfl | exact .inr rfl | assumption) : PS X (.AugAssign (.Name x pos') op e pos) (liftS N xm W (sAug i f m)) := by
  have hK := c.hK
  refine impS (ps_aug (ti := r) c.nd hi hx he ho hfn) fun D σ H ⟨g, fz, is, sr, h⟩ => ?_
  simp only [sAug] at h
  split at h
  · rename_i x hx
    obtain ⟨v, h1, h2⟩ := sr.env i _ hx
    refine ⟨v, h1, stepS sr h fun r0 g1 w H1 fz1 is1 l1 sr1 rep1 h3 => ?_⟩
    obtain ⟨fz1', l1', sr1', rep1', nt1⟩ := frz_ok sr1 rep1
    have h3 := h3.later l1'
    split at h3
    · rename_i z hz
      simp only [pk2] at hz
      split at hz
      · rename_i x' y' hx' hy'
        have px := Rep.look (Rep.mono (l1.trans l1') h2) sr1' hx'
        have py := RVRep.later .refl rep1' nt1 hy' sr1'
        have s := sr1'
        rw [hK] at px py
        refine hf is1 fz1' H1 v w x' y' (.d z) _ sr1'.dom px py hz fun u fz2 H2 gr rz => ?_
        have l2 := gr.le sr1'
        have sr2 := gr.sr sr1'
        rw [← hK] at rz
        exact h3 (σ.set i (some u)) H2 fz2 is1 l2 (sr2.setD rz (by rw [sr2.sz]; exact hn))
      · cases hz
    · exact h3.elim
  · exact h.elim
def rAddSI : R2 := fun x y H Q => (rI0 fun i j => .int (i + j)) x y H Q ∨ rAddS x y H Q
theorem iop_addS : OpR X (inplaceOp .Add) rAddSI := iop_add.or iop_add_str
def fAddS : D → D → Option RN
  | .int i, .int j => some (.d (.int (i + j)))
  | .str x, .str y => if x.length + y.length ≤ sizeLine then some (.d (.str (x ++ y))) else none
  | _, _ => none
theorem f_addS {K : PySem.W.Frag} : OpF K rAddSI fAddS := by
  intro is fz H v w x y rn Q dm hx hy e fin
  unfold fAddS at e
  split at e
  · cases e
    rw [hx.int, hy.int]
    exact .inl ⟨_, _, rfl, rfl, fin.sc (.int _)⟩
  · split at e
    · rename_i hz
      cases e
      obtain ⟨rfl, o1⟩ := hx.str
      obtain ⟨rfl, o2⟩ := hy.str
      exact .inr ⟨_, _, rfl, rfl, hz, fin.sc (.str _ (strOk_app o1 o2 hz))⟩
    · cases e
  · cases e
/-! ### a method of a text with one argument -/
def isStr : RV → Bool
  | .d (.str _) => true
  | _ => false
def mStr1 (f : D → D → Option RN) (mo me : ST RV) : ST RV := bnd mo fun a => if isStr a = true then bnd me fun b => fun g => opt (pk2 f a (frz b) g) g else stop
def StrF (K : PySem.W.Frag) (r : V → List V → Hp → VK → Prop) (f : D → D → Option RN) : Prop := ∀ is fz H v w x y rn Q, (∀ b, fz b → ∃ o, H b = some o) → PRep K is fz H v x → PRep K is fz H w y → f x y = some rn → Fin K is fz H Q rn → r v [w] H Q
theorem str1_ok {r : V → List V → Hp → VK → Prop} {f : D → D → Option RN} {mo me : ST RV} (c : MC X N W) (hf : StrF X.K r f) {σ : L2.St} {H : Hp} {Q : VK} (h : lift N xm W (mStr1 f mo me) σ H Q) : tM1 r (lift N xm W mo) (lift N xm W me) σ H Q := by
  have hK := c.hK
  obtain ⟨g, fz, is, sr, h⟩ := h
  refine step sr h fun ra g1 v H1 fz1 is1 l1 sr1 rep1 h1 => ?_
  split at h1
  · rename_i hs
    obtain ⟨s, rfl⟩ : ∃ s, ra = .d (.str s) := by
      unfold isStr at hs
      split at hs
      · exact ⟨_, rfl⟩
      · cases hs
    have hv : Rep N.K is1 fz1 H1 v (.str s) := rep1
    refine ⟨by cases hv; exact ⟨_, rfl⟩, step sr1 h1 fun rb g2 w H2 fz2 is2 l2 sr2 rep2 h2 => ?_⟩
    obtain ⟨fz2', l2', sr2', rep2', nt2⟩ := frz_ok sr2 rep2
    have h2 := h2.later l2'
    simp only [opt, pk2] at h2
    split at h2
    · rename_i rn hrn
      split at hrn
      · rename_i x y hx hy
        have px := RVRep.later (g := g1) (r := .d (.str s)) (l2.trans l2') hv (fun c e => by cases e) hx sr2'
        have py := RVRep.later .refl rep2' nt2 hy sr2'
        have fin := fin_ok sr2' h2
        rw [hK] at px py fin
        exact hf is2 fz2' H2 v w x y rn Q sr2'.dom px py hrn fin
      · cases hrn
    · exact h2.elim
  · exact h1.elim
def strsD : List D → Option (List Str)
  | [] => some []
  | .str b :: xs => (strsD xs).map (b :: ·)
  | _ => none
theorem strs_rep {K : PySem.W.Frag} {is : List Addr} {fz : Addr → Prop} {H : Hp} : ∀ {vs : List V} {xs : List D} {bs : List Str}, RepA K is fz H vs xs → strsD xs = some bs → vs = bs.map V.str ∧ ∀ b ∈ bs, StrOk b
  | _, _, bs, .nil, e => by cases e; exact ⟨rfl, by simp⟩
  | _, _, bs, .cons (d := d) r t, e => by
    cases d with
    | str b =>
      simp only [strsD] at e
      obtain ⟨cs, h1, rfl⟩ := Option.map_eq_some_iff.mp e
      obtain ⟨h2, h3⟩ := strs_rep t h1
      cases r with
      | str _ ok =>
        refine ⟨by rw [h2]; rfl, fun c hc => ?_⟩
        rcases List.mem_cons.mp hc with rfl | hc
        · exact ok
        · exact h3 c hc
    | _ => cases e
@[simp] theorem strs_map : ∀ ns : List Str, strsD (ns.map D.str) = some ns
  | [] => rfl
  | n :: ns => by simp [strsD, strs_map ns]
def fJoin : D → D → Option RN
  | .str a, .lst xs => (strsD xs).bind fun ys => if (ys.map (·.length)).sum + ys.length * a.length ≤ 16777216 then some (.d (.str (Str.join a ys))) else none
  | _, _ => none
theorem okS_app {x y : Str} (hx : okS x = true) (hy : okS y = true) : okS (x ++ y) = true := by
  unfold okS at *
  show (x.cps ++ y.cps).all _ = true
  rw [Array.all_append, hx, hy]; rfl
theorem okS_join {a : Str} (ha : okS a = true) : ∀ (ys : List Str), (∀ b ∈ ys, StrOk b) → okS (Str.join a ys) = true
  | [], _ => (by decide +kernel : okS Str.empty = true)
  | [x], h => (h x (by simp)).cps
  | x :: y :: r, h => by
    show okS (x ++ a ++ Str.join a (y :: r)) = true
    exact okS_app (okS_app (h x (by simp)).cps ha) (okS_join ha (y :: r) fun b hb => h b (List.mem_cons_of_mem _ hb))
def rJoinA (K : PySem.W.Frag) : V → List V → Hp → VK → Prop := fun x xs H Q => ∃ a p, ∃ ys : List Str, x = .str a ∧ xs = [.ref p] ∧ (SqL K H p (ys.map V.str) ∨ SqT K H p (ys.map V.str)) ∧
    (ys.map (·.length)).sum + ys.length * a.length ≤ 16777216 ∧ Q (.str (Txt.join a ys)) H
theorem f_join {K : PySem.W.Frag} : StrF K (rJoinA K) fJoin := by
  intro is fz H v w x y rn Q dm hx hy e fin
  unfold fJoin at e
  split at e
  · obtain ⟨ys, h1, h2⟩ := Option.bind_eq_some_iff.mp e
    split at h2
    · rename_i hz
      cases h2
      obtain ⟨rfl, ok⟩ := hx.str
      obtain ⟨p, vs, rfl, h3, r⟩ := hy.lst
      obtain ⟨rfl, hb⟩ := strs_rep r h1
      refine ⟨_, p, ys, rfl, rfl, .inl (.of h3), hz, ?_⟩
      rw [TL.join_eq]
      refine fin.sc (.str _ ⟨okS_join ok.cps ys hb, ?_⟩)
      have := StrLaws.join_length_le ‹Str› ys
      have hs : (16777216 : Nat) = sizeLine := rfl
      omega
    · cases h2
  · cases e
theorem e_join {o e : Expr} {apos pos : Pos} {mo me : ST RV} (c : MC X N W) (ho : PE X o (lift N xm W mo)) (he : PE X e (lift N xm W me)) (hs : starEach [e] X.env = [(false, eval e X.env)] := by rfl) (hbase : attributeBase o "join" X.env (eval o X.env) = eval o X.env := by rfl) (hline : (apos.endLine == pos.line) = true := by rfl) :
    PE X (.Call (.Attribute o "join" apos) [e] [] pos) (lift N xm W (mStr1 fJoin mo me)) := imp (pe_join ho he hs hbase hline) fun _ _ _ h => str1_ok (r := rJoinA X.K) c f_join h
/-! ### a container that several defs change -/
/-- slot i's own container becomes a shared one -/
theorem SR.share {σ : L2.St} {H : Hp} {g : Sg} {fz : Addr → Prop} {is : List Addr} {p : Addr} {c : C} (sr : SR N σ H g fz is) (f : Free N σ g fz is p) (h : CAt N.K is fz H p c) : SR N σ H { g with st := g.st ++ [c] } fz (is ++ [p]) := by
  have l : Le fz H is fz H (is ++ [p]) := ⟨fun _ h => h, fun _ _ => rfl, List.prefix_append _ _⟩
  refine ⟨fun i x e => ?_, sr.dist, sr.len, sr.sz, sr.dom, by simp [sr.stl], fun j d a h1 h2 => ?_, ?_, sr.frame, sr.fzn, sr.fz0, sr.isx.trans (List.prefix_append _ _), fun a ha => ?_⟩
  · obtain ⟨v, h1, h2⟩ := sr.env i x e
    refine ⟨v, h1, ?_⟩
    cases x with
    | d x => exact Rep.mono l h2
    | own d =>
      obtain ⟨q, rfl, h3, h4⟩ := h2
      refine ⟨q, rfl, ⟨h3.nf, fun z => ?_, h3.new⟩, h4.mono l rfl⟩
      rcases List.mem_append.mp z with z | z
      · exact h3.ni z
      · have : q = p := by simpa using z
        subst this
        exact f.ns i ⟨d, e⟩ h1
  · by_cases hj : j < g.st.length
    · rw [List.getElem?_append_left hj] at h1
      rw [List.getElem?_append_left (by rw [← sr.stl]; exact hj)] at h2
      obtain ⟨q1, q2⟩ := sr.st j d a h1 h2
      exact ⟨q1, q2.mono l rfl⟩
    · have hl : j < g.st.length + 1 := by
        have := (List.getElem?_eq_some_iff.mp h1).1
        simpa using this
      have ej : j = g.st.length := by omega
      subst ej
      rw [List.getElem?_append_right (Nat.le_refl _)] at h1
      rw [List.getElem?_append_right (by rw [sr.stl]; exact Nat.le_refl _), sr.stl] at h2
      simp at h1 h2
      subst h1 h2
      exact ⟨f.own.nf, h.mono l rfl⟩
  · rw [List.nodup_append]
    refine ⟨sr.nd, by simp, fun a ha b hb => ?_⟩
    have : b = p := by simpa using hb
    subst this
    rintro rfl
    exact f.own.ni ha
  · rcases List.mem_append.mp ha with z | z
    · exact sr.isn a z
    · have : a = p := by simpa using z
      subst this
      exact .inr f.own.new
def putSh (i : Nat) (r : RV) : SM := fun g => match r with
  | .tmp c => .nx { env := g.env.set i (some (.d (.obj g.st.length))), st := g.st ++ [c] }
  | _ => .stuck
def sShare (i : Nat) (m : ST RV) : SM := fun g => (m g).to (putSh i)
theorem s_share {i : Nat} {x : Str} {e : Expr} {m : ST RV} {pos pos' : Pos} (c : MC X N W) (hi : X.N[i]? = some x) (hx : Loc X.env.scope x) (he : PE X e (lift N xm W m)) (hn : i < N.n := by decide) (hs : swapsWith e (some (.Name x pos')) pos.line X.env = pure false := by rfl)
    (hf : X.fn x = true ∨ X.env.scope.names.lookup x = some .local := by first | exact .inl rfl | exact .inr rfl | assumption) : PS X (.Assign [.Name x pos'] e pos) (liftS N xm W (sShare i m)) := by
  refine impS (ps_set c.nd hi hx he hs hf) fun D σ H ⟨g, fz, is, sr, h⟩ => stepS sr h fun r g1 v H1 fz1 is1 l1 sr1 rep h1 => ?_
  unfold putSh at h1
  split at h1
  · rename_i c0
    obtain ⟨p, rfl, h2, h3, h4⟩ := rep
    have s2 := sr1.share ⟨h2, h4⟩ h3
    have l2 : Le fz1 H1 is1 fz1 H1 (is1 ++ [p]) := ⟨fun _ h => h, fun _ _ => rfl, List.prefix_append _ _⟩
    exact h1 _ H1 fz1 (is1 ++ [p]) l2 (s2.setD (x := .obj g1.st.length) (.obj (by rw [sr1.stl]; simp)) (by rw [s2.sz]; exact hn))
  · exact h1.elim
end
end Mx

set_option Elab.async false
set_option linter.all false
set_option maxRecDepth 100000
/-! defs of the text, constants of the module, the head, the law's end -/
namespace Mx
open PySem PySem.Spec PyProof.Rows L2

/-! ### defs -/
/-- a def of the module as it stands behind the top -/
def FunAt (K : PySem.W.Frag) (mg : Str → Option Value) (x : Str) (st : Stmt) : Prop := ∃ f fd, mg x = some (.ref f) ∧ FunD K x x (defArgs st) (defBody st) (defScope st) [] [] f fd
/-- a def that does what F says, n arguments, at level k -/
def Def (P : Program) (w : World) (K : PySem.W.Frag) (mg : Str → Option Value) (base : Heap) (xm : XM) (x : Str) (k n : Nat) (F : FM) : Prop :=
  ∃ f fd ps, mg x = some (.ref f) ∧ PySem.W.keepIn K (.ref f) = true ∧ Binds K fd ps [] ∧ FnOk P w K mg base (L2.CX P w) k f fd ps (spF K xm n F)
section
variable {P : Program} {w : World} {K : PySem.W.Frag} {mg : Str → Option Value} {base : Heap} {xm : XM}
theorem Def.mono {x : Str} {k k' n : Nat} {F : FM} (d : Def P w K mg base xm x k n F) (h : k ≤ k') : Def P w K mg base xm x k' n F := by
  obtain ⟨f, fd, ps, h1, h2, h3, h4⟩ := d
  exact ⟨f, fd, ps, h1, h2, h3, h4.mono h⟩
/-- THE RULE: a def of the text does what its body's reading does -/
theorem fnD_ok {x : Str} {st : Stmt} {Nm ps : List Str} {k n np : Nat} {m : SM} {f : Addr} {fd : FuncData} (F : FunD K x x (defArgs st) (defBody st) (defScope st) [] [] f fd) (S : FnScope Nm ps (defScope st)) (hn : Nm.length = n) (hp : ps.length = np)
    (hbody : ∀ (f : Addr) (cdv : Value) (A : Around) (outer : List Env) (s : Shared) (H : Hp) (N : En) (E : XK), N.K = K → N.n = n → Ent N → Room k (A.deeper (envOfC x (defScope st) s.heap.objs.size f cdv)) →
      MC (cxOf (L2.CX P w) P w K mg base Nm x (defScope st) f cdv A outer s H E) N (fun cls od _ H' => E cls od H') →
      PassesOwn (model P w) (cxOf (L2.CX P w) P w K mg base Nm x (defScope st) f cdv A outer s H E).A (cxOf (L2.CX P w) P w K mg base Nm x (defScope st) f cdv A outer s H E).env (cxOf (L2.CX P w) P w K mg base Nm x (defScope st) f cdv A outer s H E).xe →
      PSs (cxOf (L2.CX P w) P w K mg base Nm x (defScope st) f cdv A outer s H E) (defBody st) (liftS N xm (fun cls od _ H' => E cls od H') m)) :
    FnOk P w K mg base (L2.CX P w) (k + 1) f fd ps (spF K xm np (fnM n m)) := by
  have hpn : np ≤ n := by
    have := congrArg List.length S.pre
    rw [List.length_take] at this
    omega
  refine F.ok S (fun vs H Q E h => h.1.trans hp.symm) fun cdv A outer s H vs Q E hr h => ?_
  obtain ⟨hl, ds, St, fz, is, pr, rep, h⟩ := h
  refine ⟨_, hbody f cdv A outer s H ⟨K, n, H, is, fz⟩ E rfl rfl ⟨St, pr⟩ hr ⟨rfl, S.nd, rfl, ?_, takes_of rfl rfl rfl rfl⟩ (passes_of rfl), ?_⟩
  · have := hr.un
    show (A.deeper _).units + 65 < _
    omega
  · refine ⟨{ env := env0 n ds, st := St }, fz, is, start_sr (k := k) pr rep hn (by omega), ?_⟩
    unfold fnM at h
    cases e : m { env := env0 n ds, st := St } with
    | stuck => rw [e] at h; exact h
    | bk g => rw [e] at h; exact h.elim
    | ct g => rw [e] at h; exact h.elim
    | nx g =>
      rw [e] at h
      intro σ' H' fz' is' l sr
      exact h .non H' fz' is' (sr.aft ⟨St, pr⟩) .non
    | ret r S' => rw [e] at h; exact h
    | exc x g =>
      rw [e] at h
      intro cls od σ' H' fz' is' l sr rx
      exact h cls od H' fz' is' (sr.aft ⟨St, pr⟩) rx
theorem def_ok {x : Str} {st : Stmt} {Nm ps : List Str} {k n np : Nat} {m : SM} (F : FunAt K mg x st) (S : FnScope Nm ps (defScope st)) (hn : Nm.length = n) (hp : ps.length = np)
    (hb : ∀ (kV doc pm : Value) (an : Option Addr) (cdv ct : Value) (us : List Value), us.length = ps.length → bindArgs (PySem.W.fnOf x x (defArgs st) (defBody st) (defScope st) .none kV doc pm an cdv ct) ⟨us, []⟩ = pure (ps.zip us))
    (hbody : ∀ (f : Addr) (cdv : Value) (A : Around) (outer : List Env) (s : Shared) (H : Hp) (N : En) (E : XK), N.K = K → N.n = n → Ent N → Room k (A.deeper (envOfC x (defScope st) s.heap.objs.size f cdv)) →
      MC (cxOf (L2.CX P w) P w K mg base Nm x (defScope st) f cdv A outer s H E) N (fun cls od _ H' => E cls od H') →
      PassesOwn (model P w) (cxOf (L2.CX P w) P w K mg base Nm x (defScope st) f cdv A outer s H E).A (cxOf (L2.CX P w) P w K mg base Nm x (defScope st) f cdv A outer s H E).env (cxOf (L2.CX P w) P w K mg base Nm x (defScope st) f cdv A outer s H E).xe →
      PSs (cxOf (L2.CX P w) P w K mg base Nm x (defScope st) f cdv A outer s H E) (defBody st) (liftS N xm (fun cls od _ H' => E cls od H') m)) :
    Def P w K mg base xm x (k + 1) np (fnM n m) := by
  obtain ⟨f, fd, hmg, F⟩ := F
  exact ⟨f, fd, ps, hmg, F.kp, F.bindsN hb, fnD_ok F S hn hp hbody⟩
/-- a def that does nothing known: no turn is left -/
theorem def_none {x : Str} {st : Stmt} {ps : List Str} {k np : Nat} (F : FunAt K mg x st) (hp : ps.length = np)
    (hb : ∀ (kV doc pm : Value) (an : Option Addr) (cdv ct : Value) (us : List Value), us.length = ps.length → bindArgs (PySem.W.fnOf x x (defArgs st) (defBody st) (defScope st) .none kV doc pm an cdv ct) ⟨us, []⟩ = pure (ps.zip us)) :
    Def P w K mg base xm x k np (fun _ _ => .stuck) := by
  obtain ⟨f, fd, hmg, F⟩ := F
  refine ⟨f, fd, ps, hmg, F.kp, F.bindsN hb, ⟨fun vs H Q E h => h.1.trans hp.symm, fun A outer s H args us vs Q E hr e0 hb r h => ?_⟩⟩
  obtain ⟨_, ds, S, fz, is, _, _, h⟩ := h
  exact h.elim
end
section
variable {X : Cx} {N : En} {xm : XM} {W : WX}
theorem e_def {k j : Nat} {x : Str} {p pos : Pos} {e : Expr} {es : List Expr} {F : FM} {n : Nat} {ms : List (ST RV)} (c : MC X N W) (hF : Def X.prog X.w X.K X.mg X.base xm x k n F) (hr : Room j X.A) (hg : Gl X x)
    (ha : PA X (e :: es) (liftD N xm W ms)) (hk : k ≤ j := by decide) (hn : ms.length = n := by rfl) (hdb : (x == ("__debug__" : Str)) = false := by decide) (he : starEach (e :: es) X.env = (false, eval e X.env) :: starEach es X.env := by rfl) (hpl : (backTo pos (starEach es X.env)).any (·.1) = false := by rfl) :
    PE X (.Call (.Name x p) (e :: es) [] pos) (lift N xm W (mCall F ms)) := by
  obtain ⟨f, fd, ps, h1, h2, h3, h4⟩ := hF
  exact e_call c h4 (hr.mono hk) hg h1 h2 h3 ha hn hdb he hpl
theorem e_def0 {k j : Nat} {x : Str} {p pos : Pos} {F : FM} (c : MC X N W) (hF : Def X.prog X.w X.K X.mg X.base xm x k 0 F) (hr : Room j X.A) (hg : Gl X x) (hk : k ≤ j := by decide) (hdb : (x == ("__debug__" : Str)) = false := by decide) :
    PE X (.Call (.Name x p) [] [] pos) (lift N xm W (mCall F [])) := by
  obtain ⟨f, fd, ps, h1, h2, h3, h4⟩ := hF
  refine ⟨fun pins s σ H Q I h => ?_⟩
  have h := call_ok (n := 0) c h rfl
  obtain ⟨g, fz, is, sr, h⟩ := h
  have h := h [] H fz is .refl sr .nil
  refine wpAny_Call_Name_kw (ld_glob I hg h1 ?_ hdb)
  exact PySem.W.callWith_K0 I.kIn h2 (run_fnSD (E := fun σ cls od H => W cls od σ H) (us := []) (dvs := []) h4 (hr.mono hk) h3 .nil (passAt c.tk σ) I .nil h)
/-- {} -/
def mDict0 : ST RV := ret (.tmp (.dct []))
theorem e_dict0 {pos : Pos} (c : MC X N W) : PE X (.Dict [] [] pos) (lift N xm W mDict0) := by
  refine imp pe_dnewK fun σ H Q ⟨g, fz, is, sr, h⟩ p hp => ?_
  have f := sr.free hp
  exact h (.ref p) _ fz is (Le.alloc f.own.nf) (sr.alter f _) ⟨p, rfl, f.own, ⟨[], upd_same, .nil⟩, f.ns⟩
/-- a built-in class as a value -/
theorem e_ty {x : Str} {n : String} {pos : Pos} (c : MC X N W) (hg : Gl X x) (hm : X.mg x = none) (hv : bootBuiltins x = some (.type n)) (hn : x ≠ "__name__" := by decide) (hd : (x == ("__debug__" : Str)) = false := by decide) : PE X (.Name x pos) (lift N xm W (mD (.ty n))) :=
  e_c c (pe_bltn (v := .ty n) hg hm hv rfl hn hd) fun _ _ _ => .ty n
/-- a, b = c, d with plain local names -/
def sPar (i j : Nat) (ma mb : ST RV) : SM := fun g => (argsD [ma, mb] g).to fun xs g => match xs with
  | [x, y] => .nx { g with env := (g.env.set i (some (.d x))).set j (some (.d y)) }
  | _ => .stuck
theorem stepSD {ms : List (ST RV)} {f : List D → SM} {D : Ends} {Q' : List V → Hp → Prop} {σ : L2.St} {H : Hp} {g : Sg} {fz : Addr → Prop} {is : List Addr} (sr : SR N σ H g fz is) (h : postS N xm W D fz H is ((argsD ms g).to f))
    (k : ∀ xs g1 vs H1 fz1 is1, Le fz H is fz1 H1 is1 → SR N σ H1 g1 fz1 is1 → RepA N.K is1 fz1 H1 vs xs → postS N xm W D fz1 H1 is1 (f xs g1) → Q' vs H1) : liftD N xm W ms σ H Q' := by
  refine ⟨g, fz, is, sr, ?_⟩
  cases e : argsD ms g with
  | stuck => rw [e] at h; exact h
  | exc x g' => rw [e] at h; exact fun cls od H' fz' is' l sr' => h cls od σ H' fz' is' l sr'
  | ok r g1 =>
    rw [e] at h
    intro vs H1 fz1 is1 l sr1 rep
    exact k r g1 vs H1 fz1 is1 l sr1 rep (postS.later l h)
theorem s_par {i j : Nat} {x y : Str} {a b : Expr} {ma mb : ST RV} {px py pt pos : Pos} {kt k2 pt2} (c : MC X N W) (hi : X.N[i]? = some x) (hj : X.N[j]? = some y) (hij : i ≠ j)
    (hx : X.env.scope.names.lookup x = some .local) (hy : X.env.scope.names.lookup y = some .local) (ha : PA X [a, b] (liftD N xm W [ma, mb]))
    (hw : swappedStores [.Tuple [.Name x px, .Name y py] kt pt] (.Tuple [a, b] k2 pt2) X.env = pure (some [x, y])) (hni : i < N.n) (hnj : j < N.n)
    (hs : swapsWithSole [.Tuple [.Name x px, .Name y py] kt pt] (.Tuple [a, b] k2 pt2) pos.line X.env = pure false := by rfl) :
    PS X (.Assign [.Tuple [.Name x px, .Name y py] kt pt] (.Tuple [a, b] k2 pt2) pos) (liftS N xm W (sPar i j ma mb)) := by
  refine impS (ps_par c.calm c.nd hi hj hij hx hy ha hw hs) fun D σ H ⟨g, fz, is, sr, h⟩ => stepSD sr h fun xs g1 vs H1 fz1 is1 l1 sr1 rep h1 => ?_
  split at h1
  · rename_i x y
    cases rep with
    | cons r t =>
      cases t with
      | cons r' t =>
        cases t
        refine ⟨_, _, rfl, h1 _ H1 fz1 is1 .refl ?_⟩
        have s1 := sr1.setD r (i := i) (by rw [sr1.sz]; exact hni)
        exact s1.setD r' (i := j) (by rw [s1.sz]; exact hnj)
  · exact h1.elim
/-- target = e, the target a tuple of names -/
def sTgt (t : TgM) (m : ST RV) : SM := fun g => (m g).to fun r g => (toD r g).to fun x g => match t x g with
  | some g => .nx g
  | none => .stuck
theorem s_tgt {tg e : Expr} {ts : List Nat} {gt : TG} {t : TgM} {m : ST RV} {pos : Pos} (c : MC X N W) (he : PE X e (lift N xm W m)) (hg : PG X tg gt) (ht : TgF N ts gt t) (hs : swapsWithSole [tg] e pos.line X.env = pure false := by rfl) (hw : swappedStores [tg] e X.env = pure none := by rfl)
    (h1 : (assignEach [tg] X.env).map (·.2) = [assign tg X.env] := by rfl) : PS X (.Assign [tg] e pos) (liftS N xm W (sTgt t m)) := by
  refine impS (ps_asg he hg hs hw h1) fun D σ H ⟨g, fz, is, sr, h⟩ => stepS sr h fun r g1 v H1 fz1 is1 l1 sr1 rep h1 => ?_
  cases e1 : toD r g1 with
  | stuck => rw [e1] at h1; exact h1.elim
  | exc x g' => exact absurd e1 toD_noexc
  | ok x g2 =>
    rw [e1] at h1
    obtain ⟨fz2, l2, sr2, rep2⟩ := toD_ok sr1 rep e1
    have h2 := h1.later l2
    dsimp only [R.to_ok] at h2
    cases e2 : t x g2 with
    | none => rw [e2] at h2; exact h2.elim
    | some g3 =>
      rw [e2] at h2
      exact ht σ H1 g2 fz2 is1 v x g3 _ sr2 rep2 e2 fun σ' sr' _ => h2 σ' H1 fz2 is1 .refl sr'
end

/-! ### constants of the module -/
mutual
def stB (K : PySem.W.Frag) : Value → D → Bool
  | .none, .non => true
  | .bool b, .bl c => b == c
  | .int i _, .int j => decide (i = j)
  | .str x _, .str y => decide (x = y) && okS x && decide (x.length ≤ sizeLine)
  | .ref a, .tup ds => match K.lookup a with
    | some ⟨.type c, _, .seq its _, _⟩ => decide (c = "tuple") && decide (its.size ≤ sizeLine) && stA K its.toList ds
    | _ => false
  | _, _ => false
def stA (K : PySem.W.Frag) : List Value → List D → Bool
  | [], [] => true
  | u :: us, d :: ds => stB K u d && stA K us ds
  | _, _ => false
end
mutual
theorem stB_ok {K : PySem.W.Frag} : ∀ (d : D) (u : Value), stB K u d = true → ∃ v, RelV v u ∧ ∀ is fz H, Rep K is fz H v d
  | .non, u, h => by cases u <;> simp [stB] at h; exact ⟨.non, rfl, fun _ _ _ => .non⟩
  | .bl c, u, h => by cases u <;> simp [stB] at h; subst h; exact ⟨.bl _, rfl, fun _ _ _ => .bl _⟩
  | .int j, u, h => by cases u <;> simp [stB] at h; subst h; exact ⟨.int _, ⟨_, rfl⟩, fun _ _ _ => .int _⟩
  | .str y, u, h => by
    cases u <;> simp [stB] at h
    obtain ⟨⟨rfl, h2⟩, h3⟩ := h
    exact ⟨.str _, ⟨_, rfl⟩, fun _ _ _ => .str _ ⟨h2, h3⟩⟩
  | .tup ds, u, h => by
    cases u with
    | ref a =>
      simp only [stB] at h
      split at h
      · rename_i c od its n sl hk
        simp only [Bool.and_eq_true, decide_eq_true_eq] at h
        obtain ⟨⟨rfl, h2⟩, h3⟩ := h
        obtain ⟨vs, h4, h5⟩ := stA_ok ds its.toList h3
        exact ⟨.ref a, rfl, fun is fz H => .tup (.inr ⟨_, its, n, hk, rfl, rfl, h2, h4⟩) (h5 is fz H)⟩
      · cases h
    | _ => simp [stB] at h
  | .ty _, u, h => by cases u <;> simp [stB] at h
  | .fn _, u, h => by cases u <;> simp [stB] at h
  | .obj _, u, h => by cases u <;> simp [stB] at h
  | .lst _, u, h => by cases u <;> simp [stB] at h
  | .dct _, u, h => by cases u <;> simp [stB] at h
  | .scr _, u, h => by cases u <;> simp [stB] at h
theorem stA_ok {K : PySem.W.Frag} : ∀ (ds : List D) (us : List Value), stA K us ds = true → ∃ vs, Vals vs us ∧ ∀ is fz H, RepA K is fz H vs ds
  | [], us, h => by
    cases us with
    | nil => exact ⟨[], .nil, fun _ _ _ => .nil⟩
    | cons => simp [stA] at h
  | d :: ds, us, h => by
    cases us with
    | nil => simp [stA] at h
    | cons u us =>
      simp only [stA, Bool.and_eq_true] at h
      obtain ⟨v, h1, h2⟩ := stB_ok d u h.1
      obtain ⟨vs, h3, h4⟩ := stA_ok ds us h.2
      exact ⟨v :: vs, .cons h1 h3, fun is fz H => .cons (h2 is fz H) (h4 is fz H)⟩
end
def datB (K : PySem.W.Frag) (x : Str) (d : D) : Bool := match PySem.W.nsIn K mainGlobals x with
  | some (some u) => stB K u d
  | _ => false
/-- the module's name x is the data d -/
def Dat (K : PySem.W.Frag) (mg : Str → Option Value) (x : Str) (d : D) : Prop := ∃ u v, mg x = some u ∧ RelV v u ∧ ∀ is fz H, Rep K is fz H v d
theorem dat_ok {K : PySem.W.Frag} {h : Heap} {mg : Str → Option Value} {x : Str} {d : D} (X : K.In h) (G : h.Ns mainGlobals mg) (e : datB K x d = true) : Dat K mg x d := by
  unfold datB at e
  split at e
  · rename_i u hu
    obtain ⟨v, h1, h2⟩ := stB_ok d u e
    exact ⟨u, v, PySem.W.mg_of X G hu, h1, h2⟩
  · cases e
theorem e_dat {X : Cx} {N : En} {xm : XM} {W : WX} {x : Str} {d : D} {pos : Pos} (c : MC X N W) (hg : Gl X x) (h : Dat X.K X.mg x d) (hd : (x == ("__debug__" : Str)) = false := by decide) : PE X (.Name x pos) (lift N xm W (mD d)) := by
  obtain ⟨u, v, h1, h2, h3⟩ := h
  exact e_glob c hg h1 h2 h3 hd

/-! ### the head -/
abbrev AlM : Type := He.AlD × Bool
def obsM (n : Nat) (fa : List He.Fa) (fn : List He.DefD) (ex : PySem.W.Frag → Bool) (g : Addr → Option Obj) : AlM := (He.obsDG n fa fn g, ex (He.frG g (He.asD g n)))
def hookM (n : Nat) (fa : List He.Fa) (fn : List He.DefD) (ex : PySem.W.Frag → Bool) : PySem.W.Hook where
  α := AlM
  obs := fun s => obsM n fa fn ex s.heap.get?
  val := fun _ => (He.valD fn, true)
  says := fun _ h => ∃ K : PySem.W.Frag, K.In h ∧ He.SaysD fa fn K ∧ ex K = true
  of := fun _ _ e => ⟨_, He.frG_in, congrArg (fun z : AlM => z.1) e, congrArg (fun z : AlM => z.2) e⟩
  keeps := fun _ _ _ ⟨K, hK, c⟩ k => ⟨K, PySem.W.Frag.In.keeps hK k, c⟩
theorem obsM_eq {n : Nat} {fa : List He.Fa} {fn : List He.DefD} {ex : PySem.W.Frag → Bool} {g : Addr → Option Obj} {s : Shared} (h : ∀ a, g a = s.heap.get? a) : obsM n fa fn ex g = (hookM n fa fn ex).obs s := by
  have e : g = s.heap.get? := funext h
  rw [e] <;> rfl
/-- a plain def of the top -/
def dfn (x : Str) (st : Stmt) : He.DefD := ⟨(x, none), x, x, defArgs st, defBody st, defScope st, [], []⟩
theorem funAt {fa : List He.Fa} {fn : List He.DefD} {K : PySem.W.Frag} {h : Heap} {mg : Str → Option Value} (X : K.In h) (G : h.Ns mainGlobals mg) (c : He.SaysD fa fn K) (x : Str) (st : Stmt) (i j : Nat) (hi : fn[i]? = some (dfn x st)) (hj : fa[j]? = some (.glo x)) : FunAt K mg x st := by
  obtain ⟨fd, F⟩ := c.def_ i hi
  exact ⟨_, fd, He.glo_ok X G (c.fact j hj), F⟩
/-! ### the law -/
theorem walk_ofW {l : PySem.W.OpenLaw} {n k : Nat} {q : Program} {loose : List Str} {XP : (Str → Option Value) → Heap → Prop} {YP : World → Heap → Prop} {d : DefRec} {x : Str}
    (hn : l.most = some n) (hn2 : n ≤ sizeLine) (hdf : d.params.defaults = []) (hr : Room k callerA)
    (F : ∀ (w : World) (mg : Str → Option Value) (fa : Addr) (h : Heap), YP w h → h.Ns mainGlobals mg → mg d.name = some (.ref fa) →
      ∃ (K : PySem.W.Frag) (fd : FuncData) (F : FM) (xm : XM), K.In h ∧ (∀ (s : Shared) (u : Value), BindsTo s fd ⟨[u], []⟩ [(x, u)]) ∧
        (∀ ns : List Int, ns.length ≤ n → ∃ S, F [.scr ns] [] = .ok (.d (.bl true)) S) ∧
        ∀ base : Heap, K.In base → base.Ns mainGlobals mg → FnOk l.prog w K mg base (L2.CX l.prog w) k fa fd [x] (spF K xm 1 F)) :
    PySem.W.WalkO q loose XP YP l.row.toRowW d [] (fun f vs => PySem.call f vs) := by
  refine Att.attach_call hn hdf fun w s₀ s₁ mg mb fa o pm cd doc a vs ns G Y ho hd hcd hmg hobj hints hlen hg => ?_
  obtain ⟨K, fd, F, xm, KX, hb, hsp, hF⟩ := F w mg fa _ Y G.T.g hmg
  refine law_call (CX := L2.CX l.prog w) KX G.T.g G.T.b G.T.builtins G.T.nolimit hg hobj hints (Nat.le_trans hlen hn2) hr hF hb (fun H hO hS => ?_) fun H e s' h => ?_
  · obtain ⟨S, e⟩ := hsp ns hlen
    refine ⟨rfl, [.scr ns], [], fun b => ∃ o, H b = some o, [], ⟨fun b h => h, rfl, fun i c a h => by simp at h, .nil⟩, .cons (.scr ?_) .nil, ?_⟩
    · rcases hS with h | h
      · refine .inl ⟨?_, h⟩
        rcases hO a with q | ⟨o, xs, q⟩
        · simp [Rd, q] at h
        · exact ⟨_, q⟩
      · exact .inr h
    · rw [e]
      intro v H' fz' is' _ r
      cases r
      rename_i r
      cases r
      rfl
  · obtain ⟨_, _, _, _, _, _, _, _, _, _, _, _, h⟩ := h
    exact h
/-- what the law's def does, as the end wants it -/
def LawDef (P : Program) (w : World) (K : PySem.W.Frag) (mg : Str → Option Value) (xm : XM) (k : Nat) (F : FM) (x : Str) (fa : Addr) : Prop :=
  ∃ fd : FuncData, (∀ (s : Shared) (u : Value), BindsTo s fd ⟨[u], []⟩ [(x, u)]) ∧ ∀ base : Heap, FnOk P w K mg base (L2.CX P w) k fa fd [x] (spF K xm 1 F)
def xm0 : XM := ⟨fun _ => none⟩
theorem walk_law {l : PySem.W.OpenLaw} {n k : Nat} {q : Program} {loose : List Str} {XP : (Str → Option Value) → Heap → Prop} {d : DefRec} {x : Str} {m : Nat} {fa : List He.Fa} {fn : List He.DefD} {ex : PySem.W.Frag → Bool} {F : FM}
    (hn : l.most = some n) (hn2 : n ≤ sizeLine) (hdf : d.params.defaults = []) (hr : Room k callerA) (nm : d.name = ("law" : Str))
    (hF : ∀ (w : World) (K : PySem.W.Frag) (mg : Str → Option Value) (h : Heap) (a : Addr), K.In h → h.Ns mainGlobals mg → He.SaysD fa fn K → ex K = true → mg ("law" : Str) = some (.ref a) → ∃ xm, LawDef l.prog w K mg xm k F x a)
    (law : ∀ ns : List Int, ns.length ≤ n → ∃ S, F [.scr ns] [] = .ok (.d (.bl true)) S) :
    PySem.W.WalkO q loose XP (hookM m fa fn ex).says l.row.toRowW d [] (fun f vs => PySem.call f vs) := by
  refine walk_ofW (x := x) hn hn2 hdf hr fun w mg a h Y G hm => ?_
  obtain ⟨K, KX, c, e⟩ := Y
  rw [nm] at hm
  obtain ⟨xm, fd, hb, hok⟩ := hF w K mg h a KX G c e hm
  exact ⟨K, fd, F, xm, KX, hb, law, fun base _ _ => hok base⟩
end Mx

set_option Elab.async false
set_option linter.all false
set_option maxRecDepth 100000
/-! small words for the printed texts -/
namespace Mx
open PySem PySem.Spec PyProof.Rows L2
section
variable {X : Cx} {N : En} {xm : XM} {W : WX}
def mNeg (m : ST RV) : ST RV := bnd m fun r g => match r with
  | .d (.int i) => .ok (.d (.int (-i))) g
  | _ => .stuck
theorem e_neg {a : Expr} {pos : Pos} {m : ST RV} (ha : PE X a (lift N xm W m)) : PE X (.UnaryOp .USub a pos) (lift N xm W (mNeg m)) := by
  refine imp (pe_un un_neg ha) fun σ H Q ⟨g, fz, is, sr, h⟩ => step sr h fun r g1 v H1 fz1 is1 l sr1 rep h1 => ?_
  split at h1
  · rename_i i
    cases (show Rep N.K is1 fz1 H1 v (.int i) from rep)
    exact ⟨i, rfl, h1 _ H1 fz1 is1 .refl sr1 (.int _)⟩
  · exact h1.elim
end
theorem bo_len : bootBuiltins "len" = some (.builtin "len") := by decide +kernel
theorem bo_all : bootBuiltins "all" = some (.builtin "all") := by decide +kernel
theorem bo_any : bootBuiltins "any" = some (.builtin "any") := by decide +kernel
theorem bo_max : bootBuiltins "max" = some (.builtin "max") := by decide +kernel
theorem bo_min : bootBuiltins "min" = some (.builtin "min") := by decide +kernel
theorem bo_sum : bootBuiltins "sum" = some (.builtin "sum") := by decide +kernel
theorem bo_sorted : bootBuiltins "sorted" = some (.builtin "sorted") := by decide +kernel
theorem bo_isinstance : bootBuiltins "isinstance" = some (.builtin "isinstance") := by decide +kernel
theorem bo_int : bootBuiltins "int" = some (.type "int") := by decide +kernel
theorem bo_bool : bootBuiltins "bool" = some (.type "bool") := by decide +kernel
theorem bo_str : bootBuiltins "str" = some (.type "str") := by decide +kernel
theorem bo_list : bootBuiltins "list" = some (.type "list") := by decide +kernel
theorem bo_tuple : bootBuiltins "tuple" = some (.type "tuple") := by decide +kernel
theorem bo_dict : bootBuiltins "dict" = some (.type "dict") := by decide +kernel
theorem bo_set : bootBuiltins "set" = some (.type "set") := by decide +kernel
end Mx

set_option Elab.async false
set_option linter.all false
set_option maxRecDepth 100000
/-! words to run the mirrors -/
namespace Mx
open PySem PySem.Spec PyProof.Rows L2

/-! ### one step at a time -/
theorem x_seq (m n : SM) (g : Sg) : sSeq m n g = (m g).bind n := rfl
theorem x_nil (g : Sg) : sNil g = .nx g := rfl
theorem x_pass (g : Sg) : sPass g = .nx g := rfl
theorem x_break (g : Sg) : sBreak g = .bk g := rfl
theorem x_cont (g : Sg) : sCont g = .ct g := rfl
theorem x_set (i : Nat) (m : ST RV) (g : Sg) : sSet i m g = (m g).to (put i) := rfl
theorem x_share (i : Nat) (m : ST RV) (g : Sg) : sShare i m g = (m g).to (putSh i) := rfl
theorem x_putd (i : Nat) (x : D) (g : Sg) : put i (.d x) g = .nx { g with env := g.env.set i (some (.d x)) } := rfl
theorem x_putt (i : Nat) (c : C) (g : Sg) : put i (.tmp c) g = .nx { g with env := g.env.set i (some (.own c)) } := rfl
theorem x_puto (i j : Nat) (g : Sg) : put i (.own j) g = match g.env[j]? with
    | some (some (.own c)) => .nx { g with env := (g.env.set j (some (.d c.d))).set i (some (.d c.d)) }
    | _ => .stuck := rfl
theorem x_putsh (i : Nat) (c : C) (g : Sg) : putSh i (.tmp c) g = .nx { env := g.env.set i (some (.d (.obj g.st.length))), st := g.st ++ [c] } := rfl
theorem x_expr (m : ST RV) (g : Sg) : sExpr m g = (m g).to fun _ g => .nx g := rfl
theorem x_ret (m : ST RV) (g : Sg) : sRet m g = (m g).to fun r g => match outR r g with
  | some n => .ret n g.st
  | none => .stuck := rfl
theorem x_retN (g : Sg) : sRetN g = .ret (.d .non) g.st := rfl
theorem x_if (t : ST Bool) (m n : SM) (g : Sg) : sIf t m n g = (t g).to fun b => if b = true then m else n := rfl
theorem x_for (mi : ST (List D)) (tg : TgM) (b : SM) (g : Sg) : sFor mi tg b g = (mi g).to (forM tg b) := rfl
theorem x_outd (x : D) (g : Sg) : outR (.d x) g = some (.d x) := rfl
theorem x_outt (c : C) (g : Sg) : outR (.tmp c) g = some (.new c) := rfl
theorem x_outo (i : Nat) (g : Sg) : outR (.own i) g = match g.env[i]? with
    | some (some (.own c)) => some (.new c)
    | _ => none := rfl
theorem x_var (i : Nat) (g : Sg) : mVar i g = match g.env[i]? with
  | some (some (.d x)) => .ok (.d x) g
  | some (some (.own _)) => .ok (.own i) g
  | _ => .stuck := rfl
theorem x_d (d : D) (g : Sg) : mD d g = .ok (.d d) g := rfl
theorem x_bin (f : D → D → Option RN) (ma mb : ST RV) (g : Sg) : mBin f ma mb g = (ma g).bind fun a g => (mb g).bind fun b g => opt (pk2 f (frz a) (frz b) g) g := rfl
theorem x_opts (r : RN) (g : Sg) : opt (some r) g = .ok r.rv g := rfl
theorem x_optn (g : Sg) : opt none g = .stuck := rfl
theorem x_rvd (d : D) : (RN.d d).rv = .d d := rfl
theorem x_rvn (c : C) : (RN.new c).rv = .tmp c := rfl
theorem x_frd (d : D) : frz (.d d) = .d d := rfl
theorem x_frt (c : C) : frz (.tmp c) = .d c.d := rfl
theorem x_fro (i : Nat) : frz (.own i) = .own i := rfl
theorem x_Cl (xs : List D) : (C.lst xs).d = .lst xs := rfl
theorem x_Cd (xs : List (D × D)) : (C.dct xs).d = .dct xs := rfl
theorem x_tod (x : D) (g : Sg) : toD (.d x) g = .ok x g := rfl
theorem x_tot (c : C) (g : Sg) : toD (.tmp c) g = .ok c.d g := rfl
theorem x_too (i : Nat) (g : Sg) : toD (.own i) g = match g.env[i]? with
    | some (some (.own c)) => .ok c.d { g with env := g.env.set i (some (.d c.d)) }
    | _ => .stuck := rfl
def isOb : D → Bool
  | .obj _ => true
  | _ => false
theorem x_lk1 (g : Sg) : look .non g = some .non := rfl
theorem x_lk2 (b : Bool) (g : Sg) : look (.bl b) g = some (.bl b) := rfl
theorem x_lk3 (i : Int) (g : Sg) : look (.int i) g = some (.int i) := rfl
theorem x_lk4 (s : Str) (g : Sg) : look (.str s) g = some (.str s) := rfl
theorem x_lk5 (n : String) (g : Sg) : look (.ty n) g = some (.ty n) := rfl
theorem x_lk6 (a : Addr) (g : Sg) : look (.fn a) g = some (.fn a) := rfl
theorem x_lk7 (xs : List D) (g : Sg) : look (.tup xs) g = some (.tup xs) := rfl
theorem x_lk8 (xs : List D) (g : Sg) : look (.lst xs) g = some (.lst xs) := rfl
theorem x_lk9 (xs : List (D × D)) (g : Sg) : look (.dct xs) g = some (.dct xs) := rfl
theorem x_lk10 (ns : List Int) (g : Sg) : look (.scr ns) g = some (.scr ns) := rfl
theorem look_of {x : D} (h : isOb x = false) (g : Sg) : look x g = some x := by cases x <;> first | rfl | simp [isOb] at h
theorem x_lookO (i : Nat) (g : Sg) : look (.obj i) g = match g.st[i]? with
    | some c => some c.d
    | none => none := rfl
theorem x_peekd (x : D) (g : Sg) : peek (.d x) g = look x g := rfl
theorem x_peeko (i : Nat) (g : Sg) : peek (.own i) g = match g.env[i]? with
    | some (some (.own c)) => some c.d
    | _ => none := rfl
theorem x_pk2 (f : D → D → Option RN) (a b : RV) (g : Sg) : pk2 f a b g = match peek a g, peek b g with
  | some x, some y => f x y
  | _, _ => none := rfl
theorem x_asB (b : Bool) (g : Sg) : asB (.d (.bl b)) g = .ok b g := rfl
theorem x_test (m : ST RV) (g : Sg) : mTest m g = (m g).bind asB := rfl
theorem x_not (m : ST Bool) (g : Sg) : mNot m g = (m g).bind fun b => ret (!b) := rfl
theorem x_and (m n : ST Bool) (g : Sg) : mAnd m n g = (m g).bind fun b => if b = true then n else ret false := rfl
theorem x_or (m n : ST Bool) (g : Sg) : mOr m n g = (m g).bind fun b => if b = true then ret true else n := rfl
theorem x_ife {α : Type} (t : ST Bool) (m n : ST α) (g : Sg) : mIf t m n g = (t g).bind fun b => if b = true then m else n := rfl
theorem x_andV (m n : ST RV) (g : Sg) : mAndV m n g = (m g).bind fun r g => (asB r g).bind fun b => if b = true then n else ret (.d (.bl false)) := rfl
theorem x_orV (m n : ST RV) (g : Sg) : mOrV m n g = (m g).bind fun r g => (asB r g).bind fun b => if b = true then ret (.d (.bl true)) else n := rfl
theorem x_notV (m : ST RV) (g : Sg) : mNotV m g = (m g).bind fun r g => (asB r g).bind fun b => ret (.d (.bl (!b))) := rfl
theorem x_ret0 {α : Type} (a : α) (g : Sg) : ret a g = .ok a g := rfl
theorem x_chain (f f' : D → D → Option RN) (ma mb mc : ST RV) (g : Sg) : mChain f f' ma mb mc g = (ma g).bind fun a g => (mb g).bind fun b g =>
  (opt (pk2 f (frz a) (frz b) g) g).bind fun r g => (asB r g).bind fun k => if k = true then bnd mc fun z => fun g => opt (pk2 f' (frz b) (frz z) g) g else ret (.d (.bl false)) := rfl
theorem x_bnd {α β : Type} (m : ST α) (f : α → ST β) (g : Sg) : bnd m f g = (m g).bind f := rfl
theorem x_D0 (g : Sg) : argsD [] g = .ok [] g := rfl
theorem x_D1 (m : ST RV) (ms : List (ST RV)) (g : Sg) : argsD (m :: ms) g = (m g).bind fun r g => (toD r g).bind fun x g => (argsD ms g).bind fun xs g => .ok (x :: xs) g := rfl
theorem x_P0 (g : Sg) : argsP [] g = .ok [] g := rfl
theorem x_P1 (m : ST RV) (ms : List (ST RV)) (g : Sg) : argsP (m :: ms) g = (m g).bind fun r g => (argsP ms g).bind fun xs g => .ok (frz r :: xs) g := rfl
theorem x_pks0 (g : Sg) : peeks [] g = some [] := rfl
theorem x_pks1 (r : RV) (rs : List RV) (g : Sg) : peeks (r :: rs) g = match peek r g, peeks rs g with
    | some x, some xs => some (x :: xs)
    | _, _ => none := rfl
theorem x_aps (f : List D → Option RN) (ms : List (ST RV)) (g : Sg) : mAps f ms g = (argsP ms g).bind fun rs g => match peeks rs g with
  | some xs => opt (f xs) g
  | none => .stuck := rfl
theorem x_tup (ms : List (ST RV)) (g : Sg) : mTup ms g = (argsD ms g).bind fun xs => if xs.length ≤ sizeLine then ret (.d (.tup xs)) else stop := rfl
theorem x_lst (ms : List (ST RV)) (g : Sg) : mLst ms g = (argsD ms g).bind fun xs => if xs.length ≤ sizeLine then ret (.tmp (.lst xs)) else stop := rfl
theorem x_dict0 (g : Sg) : mDict0 g = .ok (.tmp (.dct [])) g := rfl
theorem x_call (F : FM) (ms : List (ST RV)) (g : Sg) : mCall F ms g = (argsD ms g).bind fun ds g => ofF (F ds g.st) g := rfl
theorem x_ofok (r : RN) (S : List C) (g : Sg) : ofF (.ok r S) g = .ok r.rv { g with st := S } := rfl
theorem x_items (m : ST RV) (g : Sg) : mItems m g = (m g).bind fun r g => (toD r g).bind fun x g => match items x with
  | some xs => .ok xs g
  | none => .stuck := rfl
theorem x_range (f : List D → Option (List D)) (ms : List (ST RV)) (g : Sg) : mRange f ms g = (argsD ms g).bind fun xs g => match f xs with
  | some ys => .ok ys g
  | none => .stuck := rfl
theorem x_sl (m : ST RV) (lo hi : ST (Option Int)) (g : Sg) : mSl m lo hi g = (m g).bind fun r g => (lo g).bind fun a g => (hi g).bind fun b g => match peek (frz r) g with
  | some x => opt (fSl x a b) g
  | none => .stuck := rfl
theorem x_part (m : ST RV) (g : Sg) : mPart m g = (m g).bind fun r g => match asI r with
  | some i => .ok (some i) g
  | none => .stuck := rfl
theorem x_nopart (g : Sg) : mNoPart g = .ok none g := rfl
theorem x_asI (i : Int) : asI (.d (.int i)) = some i := rfl
theorem x_mut (f : MF) (mr : ST RV) (ms : List (ST RV)) (g : Sg) : mMut f mr ms g = (mr g).bind fun r g => if isLst (getC r g) = true then (argsD ms g).bind (mutK f r) else .stuck := rfl
theorem x_mutK (f : MF) (r : RV) (xs : List D) (g : Sg) : mutK f r xs g = match getC r g with
  | some c => match f c xs with
    | some (d, c') => .ok (.d d) (putC r c' g)
    | none => .stuck
  | none => .stuck := rfl
theorem x_getO (i : Nat) (g : Sg) : getC (.own i) g = match g.env[i]? with
    | some (some (.own c)) => some c
    | _ => none := rfl
theorem x_getS (k : Nat) (g : Sg) : getC (.d (.obj k)) g = g.st[k]? := rfl
theorem x_putO (i : Nat) (c : C) (g : Sg) : putC (.own i) c g = { g with env := g.env.set i (some (.own c)) } := rfl
theorem x_putS (k : Nat) (c : C) (g : Sg) : putC (.d (.obj k)) c g = { g with st := g.st.set k c } := rfl
theorem x_isLst (xs : List D) : isLst (some (.lst xs)) = true := rfl
theorem x_put (f : SF) (mo mi me : ST RV) (g : Sg) : sPut f mo mi me g = (me g).to fun rv g => (toD rv g).to fun d g => (mo g).to fun ro g => (mi g).to fun ri g => (toD ri g).to fun k g => match getC ro g with
  | some c => match f c k d with
    | some c' => .nx (putC ro c' g)
    | none => .stuck
  | none => .stuck := rfl
theorem x_aug (i : Nat) (f : D → D → Option RN) (m : ST RV) (g : Sg) : sAug i f m g = match g.env[i]? with
  | some (some (.d x)) => (m g).to fun r g => match pk2 f (.d x) (frz r) g with
    | some (.d z) => .nx { g with env := g.env.set i (some (.d z)) }
    | _ => .stuck
  | _ => .stuck := rfl
theorem x_str1 (f : D → D → Option RN) (mo me : ST RV) (g : Sg) : mStr1 f mo me g = (mo g).bind fun a => if isStr a = true then bnd me fun b => fun g => opt (pk2 f a (frz b) g) g else stop := rfl
theorem x_isStr (x : Str) : isStr (.d (.str x)) = true := rfl
theorem y_comp (mi : ST (List D)) (vs : List Nat) (t : TgM) (tt : ST Bool) (me : ST RV) (g : Sg) : mComp mi vs t tt me g = (mi g).bind fun xs g => endC g vs (compM vs t tt me xs [] g) := rfl
theorem x_neg (m : ST RV) (g : Sg) : mNeg m g = (m g).bind fun r g => match r with
  | .d (.int i) => .ok (.d (.int (-i))) g
  | _ => .stuck := rfl
theorem x_endC (g0 : Sg) (vs : List Nat) (ys : List D) (g : Sg) : endC g0 vs (.ok ys g) = .ok (.tmp (.lst ys)) { g with env := backE g0.env g.env vs } := rfl
theorem x_tName (i : Nat) (x : D) (g : Sg) : tName i x g = some { g with env := g.env.set i (some (.d x)) } := rfl
theorem x_yes (g : Sg) : mYes g = .ok true g := rfl

/-! ### ends -/
def RI {α : Type} (x : R α) (Q : α → Sg → Prop) : Prop := match x with
  | .ok a g => Q a g
  | _ => False
def SI (x : RS) (nx bk ct : Sg → Prop) (rt : RN → List C → Prop) : Prop := match x with
  | .nx g => nx g
  | .bk g => bk g
  | .ct g => ct g
  | .ret r S => rt r S
  | _ => False
def FI (x : RF) (Q : RN → List C → Prop) : Prop := match x with
  | .ok r S => Q r S
  | _ => False
section
variable {nx bk ct : Sg → Prop} {rt : RN → List C → Prop}
theorem SI.seq {m : RS} {n : SM} (h : SI m (fun g => SI (n g) nx bk ct rt) bk ct rt) : SI (m.bind n) nx bk ct rt := by
  cases m <;> exact h
theorem SI.seq_eq {m n : SM} {g g' : Sg} (e : m g = .nx g') (h : SI (n g') nx bk ct rt) : SI (sSeq m n g) nx bk ct rt := by
  rw [x_seq, e]
  exact h
theorem SI.seqx {m n : SM} {g : Sg} (h : SI (m g) (fun g' => SI (n g') nx bk ct rt) bk ct rt) : SI (sSeq m n g) nx bk ct rt := SI.seq h
theorem SI.to {α : Type} {m : R α} {n : α → SM} (h : RI m fun a g => SI (n a g) nx bk ct rt) : SI (m.to n) nx bk ct rt := by
  cases m <;> first | exact h | exact h.elim
theorem RI.bind {α β : Type} {m : R α} {n : α → ST β} {Q : β → Sg → Prop} (h : RI m fun a g => RI (n a g) Q) : RI (m.bind n) Q := by
  cases m <;> first | exact h | exact h.elim
theorem SI.mono {x : RS} {nx' bk' ct' : Sg → Prop} {rt' : RN → List C → Prop} (h : SI x nx bk ct rt) (h1 : ∀ g, nx g → nx' g) (h2 : ∀ g, bk g → bk' g) (h3 : ∀ g, ct g → ct' g) (h4 : ∀ r S, rt r S → rt' r S) : SI x nx' bk' ct' rt' := by
  cases x with
  | nx g => exact h1 g h
  | bk g => exact h2 g h
  | ct g => exact h3 g h
  | ret r S => exact h4 r S h
  | _ => exact h
theorem RI.mono {α : Type} {x : R α} {Q Q' : α → Sg → Prop} (h : RI x Q) (i : ∀ a g, Q a g → Q' a g) : RI x Q' := by
  cases x <;> first | exact i _ _ h | exact h
theorem RI.of {α : Type} {x : R α} {Q : α → Sg → Prop} (h : RI x Q) : ∃ a g, x = .ok a g ∧ Q a g := by
  cases x <;> first | exact ⟨_, _, rfl, h⟩ | exact h.elim
theorem FI.of {x : RF} {Q : RN → List C → Prop} (h : FI x Q) : ∃ a g, x = .ok a g ∧ Q a g := by
  cases x <;> first | exact ⟨_, _, rfl, h⟩ | exact h.elim
theorem FI.mono {x : RF} {Q Q' : RN → List C → Prop} (h : FI x Q) (i : ∀ r S, Q r S → Q' r S) : FI x Q' := by
  cases x <;> first | exact i _ _ h | exact h.elim
theorem FI.fnM {n : Nat} {b : SM} {ds : List D} {S : List C} {Q : RN → List C → Prop} (h : SI (b { env := env0 n ds, st := S }) (fun g => Q (.d .non) g.st) (fun _ => False) (fun _ => False) Q) : FI (fnM n b ds S) Q := by
  unfold Mx.fnM
  revert h
  cases b { env := env0 n ds, st := S } <;> exact id
theorem SI.for_ {tg : TgM} {b : SM} (I : List D → Sg → Prop) {xs : List D} {g : Sg} (h0 : I xs g)
    (hs : ∀ x xs g, I (x :: xs) g → ∃ g1, tg x g = some g1 ∧ SI (b g1) (I xs) nx (I xs) rt) (he : ∀ g, I [] g → nx g) : SI (forM tg b xs g) nx bk ct rt := by
  induction xs generalizing g with
  | nil => exact he g h0
  | cons x xs ih =>
    obtain ⟨g1, e1, h1⟩ := hs x xs g h0
    simp only [forM, e1]
    cases e : b g1 with
    | nx g2 => rw [e] at h1; exact ih h1
    | ct g2 => rw [e] at h1; exact ih h1
    | bk g2 => rw [e] at h1; exact h1
    | ret r S => rw [e] at h1; exact h1
    | stuck => rw [e] at h1; exact h1
    | exc x g => rw [e] at h1; exact h1
theorem SI.while_ {t : ST Bool} {b : SM} (I : Nat → Sg → Prop) {n : Nat} {g : Sg} (h0 : I n g)
    (hs : ∀ n g, I n g → RI (t g) fun k g => if k = true then ∃ m, n = m + 1 ∧ SI (b g) (I m) nx (I m) rt else nx g) (hp : ∀ n g, I n g → 0 < n) : SI (sWhile t b n g) nx bk ct rt := by
  induction n generalizing g with
  | zero => exact absurd (hp 0 g h0) (Nat.lt_irrefl 0)
  | succ n ih =>
    have h1 := hs _ g h0
    obtain ⟨k, g1, e1, h2⟩ := h1.of
    simp only [sWhile, e1, R.to_ok]
    cases k with
    | false => simpa [SI] using h2
    | true =>
      simp only [if_true] at h2 ⊢
      obtain ⟨m, em, h2⟩ := h2
      cases em
      cases e : b g1 with
      | nx g2 => rw [e] at h2; exact ih h2
      | ct g2 => rw [e] at h2; exact ih h2
      | bk g2 => rw [e] at h2; exact h2
      | ret r S => rw [e] at h2; exact h2
      | stuck => rw [e] at h2; exact h2
      | exc x g => rw [e] at h2; exact h2
end

/-! ### comprehensions -/
theorem wipeE_comm (e : List (Option SD)) (i : Nat) : ∀ vs : List Nat, wipeE (e.set i none) vs = (wipeE e vs).set i none
  | [] => rfl
  | v :: vs => by
    simp only [wipeE]
    rw [wipeE_comm e i vs]
    by_cases h : v = i
    · subst h; rfl
    · rw [List.set_comm _ _ h]
theorem wipeE_wipeE (e : List (Option SD)) : ∀ vs : List Nat, wipeE (wipeE e vs) vs = wipeE e vs
  | [] => rfl
  | v :: vs => by
    simp only [wipeE]
    rw [wipeE_comm, wipeE_wipeE e vs, List.set_set]
theorem backE_wipe (old e : List (Option SD)) : ∀ vs ws : List Nat, (∀ v ∈ ws, v ∈ vs) → backE old (wipeE e ws) vs = backE old e vs
  | [], [], _ => rfl
  | vs, [], _ => rfl
  | vs, w :: ws, h => by
    have hw := h w List.mem_cons_self
    have key : ∀ (f : List (Option SD)) (vs : List Nat), w ∈ vs → backE old (f.set w none) vs = backE old f vs := by
      intro f vs
      induction vs with
      | nil => intro h; simp at h
      | cons v vs ih =>
        intro h
        simp only [backE]
        by_cases hv : w ∈ vs
        · rw [ih hv]
        · have e : w = v := by simpa [hv] using h
          subst e
          have k2 : ∀ (f : List (Option SD)) (us : List Nat) (i : Nat) (x y : Option SD), (backE old (f.set i x) us).set i y = (backE old f us).set i y := by
            intro f us i x y
            induction us with
            | nil => simp [backE, List.set_set]
            | cons u us ih2 =>
              simp only [backE]
              by_cases hu : u = i
              · subst hu
                simp only [List.set_set]
                have := ih2
                exact this
              · rw [List.set_comm _ _ hu, List.set_comm _ _ hu, ih2]
          exact k2 f vs w none _
    simp only [wipeE]
    rw [key _ _ hw]
    exact backE_wipe old e vs ws fun v hv => h v (List.mem_cons_of_mem _ hv)
/-- one turn of a comprehension -/
def oneC (t : TgM) (tt : ST Bool) (me : ST RV) (x : D) (g : Sg) (Q : Option D → Sg → Prop) : Prop :=
  ∃ g1, t x g = some g1 ∧ RI (tt g1) fun b g2 => if b = true then RI (me g2) fun r g3 => RI (toD r g3) fun d g4 => Q (some d) g4 else Q none g2
def addO (acc : List D) : Option D → List D
  | some d => acc ++ [d]
  | none => acc
/-- by an invariant: what is left, what is there, the store -/
theorem comp_inv {vs : List Nat} {t : TgM} {tt : ST Bool} {me : ST RV} {E : List (Option SD)} (I : List D → List D → List C → Prop) :
    ∀ {xs acc : List D} {g : Sg}, wipeE g.env vs = E → I xs acc g.st → acc.length + xs.length ≤ sizeLine →
    (∀ x xs acc S, I (x :: xs) acc S → oneC t tt me x ⟨E, S⟩ fun o g' => wipeE g'.env vs = E ∧ I xs (addO acc o) g'.st) →
    RI (compM vs t tt me xs acc g) fun ys g' => wipeE g'.env vs = E ∧ I [] ys g'.st := by
  intro xs
  induction xs with
  | nil => intro acc g e h _ _; exact ⟨e, h⟩
  | cons x xs ih =>
    intro acc g e h hl hs
    obtain ⟨g1, e1, h1⟩ := hs x xs acc g.st h
    simp only [List.length_cons] at hl
    simp only [compM, e, e1]
    obtain ⟨b, g2, e2, h2⟩ := h1.of
    rw [e2]
    cases b with
    | false =>
      simp only [Bool.false_eq_true, if_false] at h2
      exact ih h2.1 h2.2 (by omega) hs
    | true =>
      simp only [if_true] at h2
      obtain ⟨r, g3, e3, h3⟩ := h2.of
      obtain ⟨d, g4, e4, h4⟩ := h3.of
      simp only [e3, e4]
      rw [if_pos (by omega)]
      exact ih h4.1 h4.2 (by simp; omega) hs
theorem mComp_inv {mi : ST (List D)} {vs : List Nat} {t : TgM} {tt : ST Bool} {me : ST RV} {g g0 : Sg} {xs : List D} (I : List D → List D → List C → Prop) {Q : RV → Sg → Prop} (hi : mi g = .ok xs g0) (h0 : I xs [] g0.st) (hl : xs.length ≤ sizeLine)
    (hs : ∀ x xs acc S, I (x :: xs) acc S → oneC t tt me x ⟨wipeE g0.env vs, S⟩ fun o g' => wipeE g'.env vs = wipeE g0.env vs ∧ I xs (addO acc o) g'.st)
    (he : ∀ ys S, I [] ys S → Q (.tmp (.lst ys)) ⟨backE g0.env (wipeE g0.env vs) vs, S⟩) : RI (mComp mi vs t tt me g) Q := by
  have h := comp_inv (vs := vs) (t := t) (tt := tt) (me := me) (E := wipeE g0.env vs) I (xs := xs) (acc := []) (g := g0) rfl h0 (by simpa using hl) hs
  obtain ⟨ys, g1, e, h1, h2⟩ := h.of
  rw [y_comp, hi, bind_ok, e, x_endC]
  have := he ys g1.st h2
  rw [← h1] at this
  rw [backE_wipe _ _ _ _ (fun _ h => h)] at this
  exact this
/-- a plain one: each item gives one value, nothing changes -/
theorem mComp_map {mi : ST (List D)} {vs : List Nat} {t : TgM} {tt : ST Bool} {me : ST RV} {g g0 : Sg} {xs : List D} (f : D → Option D) (hi : mi g = .ok xs g0) (hl : xs.length ≤ sizeLine)
    (hs : ∀ x ∈ xs, oneC t tt me x ⟨wipeE g0.env vs, g0.st⟩ fun o g' => wipeE g'.env vs = wipeE g0.env vs ∧ o = f x ∧ g'.st = g0.st) :
    mComp mi vs t tt me g = .ok (.tmp (.lst (xs.filterMap f))) ⟨backE g0.env (wipeE g0.env vs) vs, g0.st⟩ := by
  have h := mComp_inv (mi := mi) (vs := vs) (t := t) (tt := tt) (me := me) (g := g) (g0 := g0) (xs := xs)
    (fun rest acc S => S = g0.st ∧ (∀ x ∈ rest, x ∈ xs) ∧ acc ++ rest.filterMap f = xs.filterMap f) (Q := fun r g' => r = .tmp (.lst (xs.filterMap f)) ∧ g' = ⟨backE g0.env (wipeE g0.env vs) vs, g0.st⟩)
    hi ⟨rfl, fun _ h => h, by simp⟩ hl ?_ ?_
  · obtain ⟨a, g', e, rfl, rfl⟩ := h.of
    exact e
  · rintro x rest acc S ⟨rfl, h1, h2⟩
    obtain ⟨g1, e1, h3⟩ := hs x (h1 x List.mem_cons_self)
    refine ⟨g1, e1, h3.mono fun b g2 h4 => ?_⟩
    have fin : ∀ (o : Option D) (g' : Sg), (wipeE g'.env vs = wipeE g0.env vs ∧ o = f x ∧ g'.st = g0.st) → (wipeE g'.env vs = wipeE g0.env vs ∧ g'.st = g0.st ∧ (∀ x ∈ rest, x ∈ xs) ∧ addO acc o ++ rest.filterMap f = xs.filterMap f) := by
      rintro o g' ⟨q1, rfl, q3⟩
      refine ⟨q1, q3, fun y hy => h1 y (List.mem_cons_of_mem _ hy), ?_⟩
      rw [← h2]
      cases e : f x <;> simp [addO, e]
    cases b with
    | false => simpa using fin _ _ (by simpa using h4)
    | true =>
      simp only [if_true] at h4 ⊢
      exact h4.mono fun r g3 h5 => h5.mono fun d g4 h6 => fin _ _ h6
  · rintro ys S ⟨rfl, _, h2⟩
    simp at h2
    exact ⟨by rw [h2], rfl⟩
end Mx

set_option Elab.async false
set_option linter.all false
set_option maxRecDepth 100000
set_option maxHeartbeats 0
/-! mirrors of defs that many laws share; printed by gen.py -/
namespace Lib
open PySem PySem.Spec PyProof.Rows L2 Mx
def v_WORDS : D := .tup [.str "join", .str "meet", .str "less", .str "all", .str "parts", .str "pair", .str "deep", .str "those", .str "in", .str "is", .str "not", .str "and", .str "or", .str "some", .str "every"]
def v_LONGEST : D := .int 8
def v_LETTERS : D := .str "abcdefghijklmnopqrstuvwxyz"
/-- 0 _law_script, 1 _law_seed, 2 _law_cell -/
def b__law_jar : SM := sSeq (sSet 1 (mBin fAdd (mD (.int 6101)) (mAps fLen [mVar 0])))
  (sSeq (sFor (mItems (mSl (mVar 0) (mNoPart) (mPart (mD (.int 63))))) (tName 2) (sSet 1 (mBin fMod (mBin fAdd (mBin fAdd (mBin fMul (mVar 1) (mD (.int 69069))) (mVar 2)) (mD (.int 5))) (mD (.int 2147483629)))))
  (sRet (mLst [mAps fList [mSl (mVar 0) (mNoPart) (mPart (mD (.int 63)))], mD (.int 0), mD (.int 0), mVar 1, mD (.int 0)])))
def m__law_jar : FM := fnM 3 b__law_jar
/-- 0 _law_jar_here, 1 _law_top, 2 _law_cell, 3 _law_digit -/
def b__law_draw : SM := sSeq (sIf (mAnd (mTest (mBin fLt (mBin fIx (mVar 0) (mD (.int 2))) (mVar 1))) (mTest (mBin fLt (mBin fIx (mVar 0) (mD (.int 1))) (mAps fLen [mBin fIx (mVar 0) (mD (.int 0))])))) (sSeq (sSet 2 (mBin fIx (mBin fIx (mVar 0) (mD (.int 0))) (mBin fIx (mVar 0) (mD (.int 1)))))
  (sSeq (sPut fSetL (mVar 0) (mD (.int 1)) (mBin fAdd (mBin fIx (mVar 0) (mD (.int 1))) (mD (.int 1))))
  (sSeq (sPut fSetL (mVar 0) (mD (.int 3)) (mBin fMod (mBin fAdd (mBin fAdd (mBin fMul (mBin fIx (mVar 0) (mD (.int 3))) (mD (.int 48271))) (mVar 2)) (mBin fIx (mVar 0) (mD (.int 1)))) (mD (.int 2147483629))))
  (sPut fSetL (mVar 0) (mD (.int 2)) (mIf (mTest (mBin fGe (mVar 2) (mBin fPow (mD (.int 10)) (mD (.int 18))))) (mVar 2) (mD (.int 0))))))) (sNil))
  (sSeq (sIf (mTest (mBin fGe (mBin fIx (mVar 0) (mD (.int 2))) (mVar 1))) (sSeq (sSet 3 (mBin fMod (mBin fIx (mVar 0) (mD (.int 2))) (mVar 1)))
  (sSeq (sPut fSetL (mVar 0) (mD (.int 2)) (mBin fFdiv (mBin fIx (mVar 0) (mD (.int 2))) (mVar 1)))
  (sRet (mVar 3)))) (sNil))
  (sSeq (sPut fSetL (mVar 0) (mD (.int 4)) (mBin fAdd (mBin fIx (mVar 0) (mD (.int 4))) (mD (.int 1))))
  (sSeq (sPut fSetL (mVar 0) (mD (.int 3)) (mBin fMod (mBin fAdd (mBin fAdd (mBin fAdd (mBin fPow (mBin fIx (mVar 0) (mD (.int 3))) (mD (.int 3))) (mBin fMul (mD (.int 40503)) (mBin fIx (mVar 0) (mD (.int 4))))) (mBin fFdiv (mBin fIx (mVar 0) (mD (.int 3))) (mD (.int 65537)))) (mD (.int 11))) (mD (.int 2147483629))))
  (sRet (mBin fMod (mBin fFdiv (mBin fIx (mVar 0) (mD (.int 3))) (mD (.int 13))) (mVar 1))))))
def m__law_draw : FM := fnM 4 b__law_draw
/-- 0 _law_jar_here, 1 _law_some -/
def b__law_of : SM := sRet (mBin fIx (mVar 1) (mCall (m__law_draw) [mVar 0, mAps fLen [mVar 1]]))
def m__law_of : FM := fnM 2 b__law_of
/-- 0 _law_found, 1 _law_due, 2 _law_spot -/
def b__law_same (r__law_same : FM) : SM := sSeq (sIf (mTest (mBin (fIsN false) (mVar 1) (mD .non))) (sRet (mBin (fIsN false) (mVar 0) (mD .non))) (sNil))
  (sSeq (sIf (mOr (mTest (mAps fIsi [mVar 1, mD (.ty "bool")])) (mTest (mAps fIsi [mVar 0, mD (.ty "bool")]))) (sRet (mAndV (mAps fIsi [mVar 1, mD (.ty "bool")]) (mAndV (mAps fIsi [mVar 0, mD (.ty "bool")]) (mBin (fEq false) (mVar 0) (mVar 1))))) (sNil))
  (sSeq (sIf (mTest (mAps fIsi [mVar 1, mTup [mD (.ty "int"), mD (.ty "str")]])) (sRet (mAndV (mAps fIsi [mVar 0, mTup [mD (.ty "int"), mD (.ty "str")]]) (mAndV (mBin (fEq false) (mAps fIsi [mVar 0, mD (.ty "int")]) (mAps fIsi [mVar 1, mD (.ty "int")])) (mBin (fEq false) (mVar 0) (mVar 1))))) (sNil))
  (sSeq (sIf (mOr (mTest (mBin (fEq true) (mAps fIsi [mVar 1, mD (.ty "list")]) (mAps fIsi [mVar 0, mD (.ty "list")]))) (mTest (mBin (fEq true) (mAps fIsi [mVar 1, mD (.ty "tuple")]) (mAps fIsi [mVar 0, mD (.ty "tuple")])))) (sRet (mD (.bl false))) (sNil))
  (sSeq (sIf (mOr (mNot (mTest (mAps fIsi [mVar 0, mTup [mD (.ty "list"), mD (.ty "tuple")]]))) (mTest (mBin (fEq true) (mAps fLen [mVar 0]) (mAps fLen [mVar 1])))) (sRet (mD (.bl false))) (sNil))
  (sRet (mAps fAll [mComp (mRange rng1 [mAps fLen [mVar 1]]) [2] (tName 2) (mYes) (mCall (r__law_same) [mBin fIx (mVar 0) (mVar 2), mBin fIx (mVar 1) (mVar 2)])]))))))
def m__law_same : Nat → FM
  | 0 => fun _ _ => .stuck
  | n + 1 => fnM 3 (b__law_same (m__law_same n))
/-- 0 thing, 1 sign -/
def b_is_name : SM := sSeq (sIf (mOr (mNot (mTest (mAps fIsi [mVar 0, mD (.ty "str")]))) (mOr (mNot (mTest (mChain fLe fLe (mD (.int 1)) (mAps fLen [mVar 0]) (mD v_LONGEST)))) (mTest (mBin (fIn false) (mVar 0) (mD v_WORDS))))) (sRet (mD (.bl false))) (sNil))
  (sRet (mAps fAll [mComp (mItems (mVar 0)) [1] (tName 1) (mYes) (mBin (fIn false) (mVar 1) (mD v_LETTERS))]))
def m_is_name : FM := fnM 2 b_is_name
/-- 0 _law_words -/
def b__law_all_words : SM := sSeq (sSet 0 (mLst [mD (.str "join"), mD (.str "meet"), mD (.str "less"), mD (.str "all"), mD (.str "parts"), mD (.str "pair"), mD (.str "deep"), mD (.str "those")]))
  (sRet (mBin fAdd (mVar 0) (mLst [mD (.str "in"), mD (.str "is"), mD (.str "not"), mD (.str "and"), mD (.str "or"), mD (.str "some"), mD (.str "every")])))
def m__law_all_words : FM := fnM 1 b__law_all_words
/-- 0 _law_thing, 1 _law_sign -/
def b__law_named : SM := sSeq (sIf (mOr (mNot (mTest (mAps fIsi [mVar 0, mD (.ty "str")]))) (mOr (mNot (mTest (mChain fLe fLe (mD (.int 1)) (mAps fLen [mVar 0]) (mD (.int 8))))) (mTest (mBin (fIn false) (mVar 0) (mCall (m__law_all_words) []))))) (sRet (mD (.bl false))) (sNil))
  (sRet (mAps fAll [mComp (mItems (mVar 0)) [1] (tName 1) (mYes) (mBin (fIn false) (mVar 1) (mD (.str "abcdefghijklmnopqrstuvwxyz")))]))
def m__law_named : FM := fnM 2 b__law_named
end Lib

set_option Elab.async false
set_option linter.all false
set_option maxRecDepth 100000
set_option maxHeartbeats 1000000
/-! the jar of numbers: what is drawn from it -/
namespace Lib
open PySem PySem.Spec PyProof.Rows L2 Mx

structure Jar where
  cells : List Int
  at_ : Nat
  rest : Int
  seed : Int
  num : Int
structure Jar.Ok (j : Jar) : Prop where
  rest : 0 ≤ j.rest
  seed : 0 ≤ j.seed
  seed2 : j.seed < 2147483629
  num : 0 ≤ j.num
  len : j.cells.length ≤ 63
def jarC (j : Jar) : C := .lst [.lst (j.cells.map D.int), .int j.at_, .int j.rest, .int j.seed, .int j.num]

theorem env0_4_2 (a b : D) : env0 4 [a, b] = [some (.d a), some (.d b), none, none] := rfl
theorem ix0 (a b c d e : D) : fIx (.lst [a, b, c, d, e]) (.int 0) = some (.d a) := rfl
theorem ix1 (a b c d e : D) : fIx (.lst [a, b, c, d, e]) (.int 1) = some (.d b) := rfl
theorem ix2 (a b c d e : D) : fIx (.lst [a, b, c, d, e]) (.int 2) = some (.d c) := rfl
theorem ix3 (a b c d e : D) : fIx (.lst [a, b, c, d, e]) (.int 3) = some (.d d) := rfl
theorem ix4 (a b c d e : D) : fIx (.lst [a, b, c, d, e]) (.int 4) = some (.d e) := rfl
theorem set1 (a b c d e x : D) : fSetL (.lst [a, b, c, d, e]) (.int 1) x = some (.lst [a, x, c, d, e]) := rfl
theorem set2 (a b c d e x : D) : fSetL (.lst [a, b, c, d, e]) (.int 2) x = some (.lst [a, b, x, d, e]) := rfl
theorem set3 (a b c d e x : D) : fSetL (.lst [a, b, c, d, e]) (.int 3) x = some (.lst [a, b, c, x, e]) := rfl
theorem set4 (a b c d e x : D) : fSetL (.lst [a, b, c, d, e]) (.int 4) x = some (.lst [a, b, c, d, x]) := rfl
theorem f_addI (i j : Int) : fAdd (.int i) (.int j) = some (.d (.int (i + j))) := rfl
theorem f_ltI (i j : Int) : fLt (.int i) (.int j) = some (.d (.bl (decide (i < j)))) := rfl
theorem f_leI (i j : Int) : fLe (.int i) (.int j) = some (.d (.bl (decide (i ≤ j)))) := rfl
theorem f_gtI (i j : Int) : fGt (.int i) (.int j) = some (.d (.bl (decide (j < i)))) := rfl
theorem f_geI (i j : Int) : fGe (.int i) (.int j) = some (.d (.bl (decide (j ≤ i)))) := rfl
theorem f_subI (i j : Int) : fSub (.int i) (.int j) = some (.d (.int (i - j))) := rfl
theorem f_modI {i j : Int} (h : 0 < j) : fMod (.int i) (.int j) = some (.d (.int (i % j))) := by simp [fMod, fI, h]
theorem f_fdivI {i j : Int} (h : 0 < j) (h2 : j < 1073741824) : fFdiv (.int i) (.int j) = some (.d (.int (i / j))) := by simp [fFdiv, fI, h, h2]
theorem f_powI {i j : Int} (h : 0 ≤ j) (h2 : j ≤ 1000000) (h3 : i.natAbs < 2 ^ 64) : fPow (.int i) (.int j) = some (.d (.int (i ^ j.toNat))) := by
  simp only [fPow, fI]
  rw [if_pos (by simp only [decide_eq_true_eq]; exact ⟨h, h2, h3⟩)]
theorem f_mulI {i j : Int} (h : (-(2 ^ 64) < i ∧ i < 2 ^ 64) ∨ (-(2 ^ 64) < j ∧ j < 2 ^ 64)) : fMul (.int i) (.int j) = some (.d (.int (i * j))) := by
  simp only [fMul]
  rw [if_pos h]
theorem f_lenL (xs : List D) : fLen [.lst xs] = some (.d (.int xs.length)) := rfl
theorem f_lenT (xs : List D) : fLen [.tup xs] = some (.d (.int xs.length)) := rfl
theorem f_lenS (s : Str) : fLen [.str s] = some (.d (.int s.length)) := rfl
theorem f_lenC (ns : List Int) : fLen [.scr ns] = some (.d (.int ns.length)) := rfl
theorem f_ixL {xs : List D} {i : Nat} {x : D} (h : xs[i]? = some x) : fIx (.lst xs) (.int i) = some (.d x) := by
  have hl : i < xs.length := by
    rcases Nat.lt_or_ge i xs.length with q | q
    · exact q
    · rw [List.getElem?_eq_none q] at h; cases h
  have : atI xs (i : Int) = some x := by
    have e : ixN xs.length (i : Int) = some i := by
      unfold ixN
      rw [if_pos (by omega), if_pos (by omega)]
      simp
    unfold atI
    rw [e]
    exact h
  simp [fIx, this]
theorem f_ixT {xs : List D} {i : Nat} {x : D} (h : xs[i]? = some x) : fIx (.tup xs) (.int i) = some (.d x) := by
  have := f_ixL h
  simpa [fIx] using this

theorem draw_end {j : Jar} (ok : j.Ok) {T : List C} {top : Int} {e2 e3 : Option SD} (ht : 0 < top) (ht2 : top < 1073741824) :
    SI ((sSeq (sIf (mTest (mBin fGe (mBin fIx (mVar 0) (mD (.int 2))) (mVar 1))) (sSeq (sSet 3 (mBin fMod (mBin fIx (mVar 0) (mD (.int 2))) (mVar 1)))
  (sSeq (sPut fSetL (mVar 0) (mD (.int 2)) (mBin fFdiv (mBin fIx (mVar 0) (mD (.int 2))) (mVar 1)))
  (sRet (mVar 3)))) (sNil))
  (sSeq (sPut fSetL (mVar 0) (mD (.int 4)) (mBin fAdd (mBin fIx (mVar 0) (mD (.int 4))) (mD (.int 1))))
  (sSeq (sPut fSetL (mVar 0) (mD (.int 3)) (mBin fMod (mBin fAdd (mBin fAdd (mBin fAdd (mBin fPow (mBin fIx (mVar 0) (mD (.int 3))) (mD (.int 3))) (mBin fMul (mD (.int 40503)) (mBin fIx (mVar 0) (mD (.int 4))))) (mBin fFdiv (mBin fIx (mVar 0) (mD (.int 3))) (mD (.int 65537)))) (mD (.int 11))) (mD (.int 2147483629))))
  (sRet (mBin fMod (mBin fFdiv (mBin fIx (mVar 0) (mD (.int 3))) (mD (.int 13))) (mVar 1)))))) ⟨[some (.d (.obj 0)), some (.d (.int top)), e2, e3], jarC j :: T⟩)
    (fun _ => False) (fun _ => False) (fun _ => False) (fun r S => ∃ (k : Int) (j' : Jar), r = .d (.int k) ∧ S = jarC j' :: T ∧ 0 ≤ k ∧ k < top ∧ j'.Ok) := by
  have hs := ok.seed
  have hs2 := ok.seed2
  have hr := ok.rest
  by_cases h : top ≤ j.rest
  · simp only [x_seq, x_nil, x_pass, x_break, x_cont, x_set, x_share, x_putd, x_putt, x_puto, x_putsh, x_expr, x_ret, x_retN, x_if, x_for, x_outd, x_outt, x_outo, x_var, x_d, x_bin, x_opts, x_optn, x_rvd, x_rvn, x_frd, x_frt, x_fro, x_Cl, x_Cd, x_tod, x_tot, x_too, x_lk1, x_lk2, x_lk3, x_lk4, x_lk5, x_lk6, x_lk7, x_lk8, x_lk9, x_lk10, x_lookO, x_peekd, x_peeko, x_pk2, x_asB, x_test, x_not, x_and, x_or, x_ife, x_andV, x_orV, x_notV, x_ret0, x_chain, x_bnd, x_D0, x_D1, x_P0, x_P1, x_pks0, x_pks1, x_aps, x_tup, x_lst, x_dict0, x_call, x_ofok, x_items, x_range, x_sl, x_part, x_nopart, x_asI, x_mut, x_mutK, x_getO, x_getS, x_putO, x_putS, x_isLst, x_put, x_aug, x_str1, x_isStr, x_neg, x_endC, x_tName, x_yes, R.to_ok, R.to_stuck, R.to_exc, bind_ok, bind_stuck, bind_exc, RS.bind_nx, RS.bind_ret, RS.bind_bk, RS.bind_ct, RS.bind_stuck, RS.bind_exc, List.getElem?_cons_zero, List.getElem?_cons_succ, List.getElem?_nil, List.set_cons_zero, List.set_cons_succ, List.set_nil, List.length_cons, List.length_nil, if_true, if_false, Bool.false_eq_true, reduceIte, Bool.not_true, Bool.not_false, ite_true, ite_false, wipeE, backE, keepD, List.getD_cons_zero, List.getD_cons_succ, Option.bind_some, Option.map_some, jarC, ix0, ix1, ix2, ix3, ix4, set1, set2, set3, set4, f_geI, h, decide_true, f_modI ht, f_fdivI ht ht2]
    refine ⟨_, ⟨j.cells, j.at_, j.rest / top, j.seed, j.num⟩, rfl, rfl, Int.emod_nonneg _ (by omega), Int.emod_lt_of_pos _ ht, ?_⟩
    exact ⟨Int.ediv_nonneg hr (by omega), hs, hs2, ok.num, ok.len⟩
  · have e3 : (0 : Int) < 2147483629 := by omega
    have e5 : (-(2 ^ 64) < (40503 : Int) ∧ (40503 : Int) < 2 ^ 64) ∨ (-(2 ^ 64) < (j.num + 1 : Int) ∧ (j.num + 1) < 2 ^ 64) := .inl (by omega)
    have e4 : j.seed.natAbs < 2 ^ 64 := by omega
    simp only [x_seq, x_nil, x_pass, x_break, x_cont, x_set, x_share, x_putd, x_putt, x_puto, x_putsh, x_expr, x_ret, x_retN, x_if, x_for, x_outd, x_outt, x_outo, x_var, x_d, x_bin, x_opts, x_optn, x_rvd, x_rvn, x_frd, x_frt, x_fro, x_Cl, x_Cd, x_tod, x_tot, x_too, x_lk1, x_lk2, x_lk3, x_lk4, x_lk5, x_lk6, x_lk7, x_lk8, x_lk9, x_lk10, x_lookO, x_peekd, x_peeko, x_pk2, x_asB, x_test, x_not, x_and, x_or, x_ife, x_andV, x_orV, x_notV, x_ret0, x_chain, x_bnd, x_D0, x_D1, x_P0, x_P1, x_pks0, x_pks1, x_aps, x_tup, x_lst, x_dict0, x_call, x_ofok, x_items, x_range, x_sl, x_part, x_nopart, x_asI, x_mut, x_mutK, x_getO, x_getS, x_putO, x_putS, x_isLst, x_put, x_aug, x_str1, x_isStr, x_neg, x_endC, x_tName, x_yes, R.to_ok, R.to_stuck, R.to_exc, bind_ok, bind_stuck, bind_exc, RS.bind_nx, RS.bind_ret, RS.bind_bk, RS.bind_ct, RS.bind_stuck, RS.bind_exc, List.getElem?_cons_zero, List.getElem?_cons_succ, List.getElem?_nil, List.set_cons_zero, List.set_cons_succ, List.set_nil, List.length_cons, List.length_nil, if_true, if_false, Bool.false_eq_true, reduceIte, Bool.not_true, Bool.not_false, ite_true, ite_false, wipeE, backE, keepD, List.getD_cons_zero, List.getD_cons_succ, Option.bind_some, Option.map_some, jarC, ix0, ix1, ix2, ix3, ix4, set1, set2, set3, set4, f_geI, h, decide_false, f_addI, f_powI (i := j.seed) (j := 3) (by omega) (by omega) e4, f_mulI e5, f_modI ht, f_modI e3, f_fdivI (j := 65537) (by omega) (by omega), f_fdivI (j := 13) (by omega) (by omega)]
    refine ⟨_, ⟨j.cells, j.at_, j.rest, _, j.num + 1⟩, rfl, rfl, Int.emod_nonneg _ (by omega), Int.emod_lt_of_pos _ ht, ?_⟩
    refine ⟨hr, Int.emod_nonneg _ (by omega), Int.emod_lt_of_pos _ (by omega), by have := ok.num; show 0 ≤ j.num + 1; omega, ok.len⟩
theorem draw_ok {j : Jar} (ok : j.Ok) {T : List C} {top : Int} (ht : 0 < top) (ht2 : top < 1073741824) :
    ∃ (k : Int) (j' : Jar), m__law_draw [.obj 0, .int top] (jarC j :: T) = .ok (.d (.int k)) (jarC j' :: T) ∧ 0 ≤ k ∧ k < top ∧ j'.Ok := by
  have key : FI (m__law_draw [.obj 0, .int top] (jarC j :: T)) fun r S => ∃ (k : Int) (j' : Jar), r = .d (.int k) ∧ S = jarC j' :: T ∧ 0 ≤ k ∧ k < top ∧ j'.Ok := by
    refine FI.fnM ?_
    rw [env0_4_2, b__law_draw]
    have hs := ok.seed
    have hs2 := ok.seed2
    have hr := ok.rest
    by_cases h : j.rest < top
    · by_cases h2 : j.at_ < j.cells.length
      · have hc : (j.cells.map D.int)[j.at_]? = some (.int j.cells[j.at_]) := by simp [h2]
        have h3 : (j.at_ : Int) < (j.cells.map D.int).length := by simp; omega
        have e3 : (0 : Int) < 2147483629 := by omega
        have e5 : (-(2 ^ 64) < (j.seed : Int) ∧ (j.seed : Int) < 2 ^ 64) ∨ (-(2 ^ 64) < (48271 : Int) ∧ (48271 : Int) < 2 ^ 64) := .inr (by omega)
        have e6 : (10 : Int).natAbs < 2 ^ 64 := by omega
        have put2 := fun (r : Int) (hr0 : 0 ≤ r) => draw_end (j := ⟨j.cells, j.at_ + 1, r, (j.seed * 48271 + j.cells[j.at_] + (j.at_ + 1)) % 2147483629, j.num⟩) ⟨hr0, Int.emod_nonneg _ (by omega), Int.emod_lt_of_pos _ (by omega), ok.num, ok.len⟩ (T := T) (top := top) (e2 := some (.d (.int j.cells[j.at_]))) (e3 := none) ht ht2
        by_cases h4 : (10 : Int) ^ 18 ≤ j.cells[j.at_]
        · have h5 := put2 j.cells[j.at_] (by omega)
          have h4' : (10 : Int) ^ (18 : Int).toNat ≤ j.cells[j.at_] := h4
          refine SI.seq_eq ?_ (h5.mono (fun _ => False.elim) (fun _ => False.elim) (fun _ => False.elim) (fun _ _ => id))
          simp only [x_seq, x_nil, x_pass, x_break, x_cont, x_set, x_share, x_putd, x_putt, x_puto, x_putsh, x_expr, x_ret, x_retN, x_if, x_for, x_outd, x_outt, x_outo, x_var, x_d, x_bin, x_opts, x_optn, x_rvd, x_rvn, x_frd, x_frt, x_fro, x_Cl, x_Cd, x_tod, x_tot, x_too, x_lk1, x_lk2, x_lk3, x_lk4, x_lk5, x_lk6, x_lk7, x_lk8, x_lk9, x_lk10, x_lookO, x_peekd, x_peeko, x_pk2, x_asB, x_test, x_not, x_and, x_or, x_ife, x_andV, x_orV, x_notV, x_ret0, x_chain, x_bnd, x_D0, x_D1, x_P0, x_P1, x_pks0, x_pks1, x_aps, x_tup, x_lst, x_dict0, x_call, x_ofok, x_items, x_range, x_sl, x_part, x_nopart, x_asI, x_mut, x_mutK, x_getO, x_getS, x_putO, x_putS, x_isLst, x_put, x_aug, x_str1, x_isStr, x_neg, x_endC, x_tName, x_yes, R.to_ok, R.to_stuck, R.to_exc, bind_ok, bind_stuck, bind_exc, RS.bind_nx, RS.bind_ret, RS.bind_bk, RS.bind_ct, RS.bind_stuck, RS.bind_exc, List.getElem?_cons_zero, List.getElem?_cons_succ, List.getElem?_nil, List.set_cons_zero, List.set_cons_succ, List.set_nil, List.length_cons, List.length_nil, if_true, if_false, Bool.false_eq_true, reduceIte, Bool.not_true, Bool.not_false, ite_true, ite_false, wipeE, backE, keepD, List.getD_cons_zero, List.getD_cons_succ, Option.bind_some, Option.map_some, jarC, ix0, ix1, ix2, ix3, ix4, set1, set2, set3, set4, f_geI, f_ltI, h, h3, h4', decide_true, f_addI, f_powI (i := 10) (j := 18) (by omega) (by omega) e6, f_mulI e5, f_modI e3, f_lenL, f_ixL hc]
          rfl
        · have h5 := put2 0 (by omega)
          have h4' : ¬ (10 : Int) ^ (18 : Int).toNat ≤ j.cells[j.at_] := h4
          refine SI.seq_eq ?_ (h5.mono (fun _ => False.elim) (fun _ => False.elim) (fun _ => False.elim) (fun _ _ => id))
          simp only [x_seq, x_nil, x_pass, x_break, x_cont, x_set, x_share, x_putd, x_putt, x_puto, x_putsh, x_expr, x_ret, x_retN, x_if, x_for, x_outd, x_outt, x_outo, x_var, x_d, x_bin, x_opts, x_optn, x_rvd, x_rvn, x_frd, x_frt, x_fro, x_Cl, x_Cd, x_tod, x_tot, x_too, x_lk1, x_lk2, x_lk3, x_lk4, x_lk5, x_lk6, x_lk7, x_lk8, x_lk9, x_lk10, x_lookO, x_peekd, x_peeko, x_pk2, x_asB, x_test, x_not, x_and, x_or, x_ife, x_andV, x_orV, x_notV, x_ret0, x_chain, x_bnd, x_D0, x_D1, x_P0, x_P1, x_pks0, x_pks1, x_aps, x_tup, x_lst, x_dict0, x_call, x_ofok, x_items, x_range, x_sl, x_part, x_nopart, x_asI, x_mut, x_mutK, x_getO, x_getS, x_putO, x_putS, x_isLst, x_put, x_aug, x_str1, x_isStr, x_neg, x_endC, x_tName, x_yes, R.to_ok, R.to_stuck, R.to_exc, bind_ok, bind_stuck, bind_exc, RS.bind_nx, RS.bind_ret, RS.bind_bk, RS.bind_ct, RS.bind_stuck, RS.bind_exc, List.getElem?_cons_zero, List.getElem?_cons_succ, List.getElem?_nil, List.set_cons_zero, List.set_cons_succ, List.set_nil, List.length_cons, List.length_nil, if_true, if_false, Bool.false_eq_true, reduceIte, Bool.not_true, Bool.not_false, ite_true, ite_false, wipeE, backE, keepD, List.getD_cons_zero, List.getD_cons_succ, Option.bind_some, Option.map_some, jarC, ix0, ix1, ix2, ix3, ix4, set1, set2, set3, set4, f_geI, f_ltI, h, h3, h4', decide_true, decide_false, f_addI, f_powI (i := 10) (j := 18) (by omega) (by omega) e6, f_mulI e5, f_modI e3, f_lenL, f_ixL hc]
          rfl
      · have h3 : ¬ (j.at_ : Int) < (j.cells.map D.int).length := by simp; omega
        have h5 := draw_end ok (T := T) (top := top) (e2 := none) (e3 := none) ht ht2
        refine SI.seq_eq ?_ (h5.mono (fun _ => False.elim) (fun _ => False.elim) (fun _ => False.elim) (fun _ _ => id))
        simp only [x_seq, x_nil, x_pass, x_break, x_cont, x_set, x_share, x_putd, x_putt, x_puto, x_putsh, x_expr, x_ret, x_retN, x_if, x_for, x_outd, x_outt, x_outo, x_var, x_d, x_bin, x_opts, x_optn, x_rvd, x_rvn, x_frd, x_frt, x_fro, x_Cl, x_Cd, x_tod, x_tot, x_too, x_lk1, x_lk2, x_lk3, x_lk4, x_lk5, x_lk6, x_lk7, x_lk8, x_lk9, x_lk10, x_lookO, x_peekd, x_peeko, x_pk2, x_asB, x_test, x_not, x_and, x_or, x_ife, x_andV, x_orV, x_notV, x_ret0, x_chain, x_bnd, x_D0, x_D1, x_P0, x_P1, x_pks0, x_pks1, x_aps, x_tup, x_lst, x_dict0, x_call, x_ofok, x_items, x_range, x_sl, x_part, x_nopart, x_asI, x_mut, x_mutK, x_getO, x_getS, x_putO, x_putS, x_isLst, x_put, x_aug, x_str1, x_isStr, x_neg, x_endC, x_tName, x_yes, R.to_ok, R.to_stuck, R.to_exc, bind_ok, bind_stuck, bind_exc, RS.bind_nx, RS.bind_ret, RS.bind_bk, RS.bind_ct, RS.bind_stuck, RS.bind_exc, List.getElem?_cons_zero, List.getElem?_cons_succ, List.getElem?_nil, List.set_cons_zero, List.set_cons_succ, List.set_nil, List.length_cons, List.length_nil, if_true, if_false, Bool.false_eq_true, reduceIte, Bool.not_true, Bool.not_false, ite_true, ite_false, wipeE, backE, keepD, List.getD_cons_zero, List.getD_cons_succ, Option.bind_some, Option.map_some, jarC, ix0, ix1, ix2, ix3, ix4, f_ltI, h, h3, decide_true, decide_false, f_lenL]
    · have h5 := draw_end ok (T := T) (top := top) (e2 := none) (e3 := none) ht ht2
      refine SI.seq_eq ?_ (h5.mono (fun _ => False.elim) (fun _ => False.elim) (fun _ => False.elim) (fun _ _ => id))
      simp only [x_seq, x_nil, x_pass, x_break, x_cont, x_set, x_share, x_putd, x_putt, x_puto, x_putsh, x_expr, x_ret, x_retN, x_if, x_for, x_outd, x_outt, x_outo, x_var, x_d, x_bin, x_opts, x_optn, x_rvd, x_rvn, x_frd, x_frt, x_fro, x_Cl, x_Cd, x_tod, x_tot, x_too, x_lk1, x_lk2, x_lk3, x_lk4, x_lk5, x_lk6, x_lk7, x_lk8, x_lk9, x_lk10, x_lookO, x_peekd, x_peeko, x_pk2, x_asB, x_test, x_not, x_and, x_or, x_ife, x_andV, x_orV, x_notV, x_ret0, x_chain, x_bnd, x_D0, x_D1, x_P0, x_P1, x_pks0, x_pks1, x_aps, x_tup, x_lst, x_dict0, x_call, x_ofok, x_items, x_range, x_sl, x_part, x_nopart, x_asI, x_mut, x_mutK, x_getO, x_getS, x_putO, x_putS, x_isLst, x_put, x_aug, x_str1, x_isStr, x_neg, x_endC, x_tName, x_yes, R.to_ok, R.to_stuck, R.to_exc, bind_ok, bind_stuck, bind_exc, RS.bind_nx, RS.bind_ret, RS.bind_bk, RS.bind_ct, RS.bind_stuck, RS.bind_exc, List.getElem?_cons_zero, List.getElem?_cons_succ, List.getElem?_nil, List.set_cons_zero, List.set_cons_succ, List.set_nil, List.length_cons, List.length_nil, if_true, if_false, Bool.false_eq_true, reduceIte, Bool.not_true, Bool.not_false, ite_true, ite_false, wipeE, backE, keepD, List.getD_cons_zero, List.getD_cons_succ, Option.bind_some, Option.map_some, jarC, ix0, ix1, ix2, ix3, ix4, f_ltI, h, decide_false]
  obtain ⟨r, S, e, k, j', rfl, rfl, h⟩ := key.of
  exact ⟨k, j', e, h⟩
theorem f_ixI {xs : List D} {k : Int} (h0 : 0 ≤ k) (h1 : k < xs.length) : ∃ x, x ∈ xs ∧ fIx (.lst xs) (.int k) = some (.d x) ∧ fIx (.tup xs) (.int k) = some (.d x) ∧ xs[k.toNat]? = some x := by
  obtain ⟨n, rfl⟩ := Int.eq_ofNat_of_zero_le h0
  have hn : n < xs.length := by exact_mod_cast h1
  have e : xs[n]? = some xs[n] := by simp [hn]
  refine ⟨xs[n], List.getElem_mem _, f_ixL e, f_ixT e, ?_⟩
  simpa using e
theorem env0_2_2 (a b : D) : env0 2 [a, b] = [some (.d a), some (.d b)] := rfl
theorem env0_2_1 (a : D) : env0 2 [a] = [some (.d a), none] := rfl
theorem env0_3_1 (a : D) : env0 3 [a] = [some (.d a), none, none] := rfl
theorem env0_3_2 (a b : D) : env0 3 [a, b] = [some (.d a), some (.d b), none] := rfl
theorem of_ok {j : Jar} (ok : j.Ok) {T : List C} {xs : List D} (h0 : 0 < xs.length) (h1 : xs.length < 1073741824) :
    ∃ (x : D) (j' : Jar), m__law_of [.obj 0, .lst xs] (jarC j :: T) = .ok (.d x) (jarC j' :: T) ∧ x ∈ xs ∧ j'.Ok := by
  obtain ⟨k, j', e, k0, k1, ok'⟩ := draw_ok ok (T := T) (top := (xs.length : Int)) (by omega) (by omega)
  obtain ⟨x, hx, e1, e2, _⟩ := f_ixI k0 k1
  refine ⟨x, j', ?_, hx, ok'⟩
  simp only [m__law_of, fnM, b__law_of, env0_2_2, x_seq, x_nil, x_pass, x_break, x_cont, x_set, x_share, x_putd, x_putt, x_puto, x_putsh, x_expr, x_ret, x_retN, x_if, x_for, x_outd, x_outt, x_outo, x_var, x_d, x_bin, x_opts, x_optn, x_rvd, x_rvn, x_frd, x_frt, x_fro, x_Cl, x_Cd, x_tod, x_tot, x_too, x_lk1, x_lk2, x_lk3, x_lk4, x_lk5, x_lk6, x_lk7, x_lk8, x_lk9, x_lk10, x_lookO, x_peekd, x_peeko, x_pk2, x_asB, x_test, x_not, x_and, x_or, x_ife, x_andV, x_orV, x_notV, x_ret0, x_chain, x_bnd, x_D0, x_D1, x_P0, x_P1, x_pks0, x_pks1, x_aps, x_tup, x_lst, x_dict0, x_call, x_ofok, x_items, x_range, x_sl, x_part, x_nopart, x_asI, x_mut, x_mutK, x_getO, x_getS, x_putO, x_putS, x_isLst, x_put, x_aug, x_str1, x_isStr, x_neg, x_endC, x_tName, x_yes, R.to_ok, R.to_stuck, R.to_exc, bind_ok, bind_stuck, bind_exc, RS.bind_nx, RS.bind_ret, RS.bind_bk, RS.bind_ct, RS.bind_stuck, RS.bind_exc, List.getElem?_cons_zero, List.getElem?_cons_succ, List.getElem?_nil, List.set_cons_zero, List.set_cons_succ, List.set_nil, List.length_cons, List.length_nil, if_true, if_false, Bool.false_eq_true, reduceIte, Bool.not_true, Bool.not_false, ite_true, ite_false, wipeE, backE, keepD, List.getD_cons_zero, List.getD_cons_succ, Option.bind_some, Option.map_some, f_lenL, e, e1]
theorem ofT_ok {j : Jar} (ok : j.Ok) {T : List C} {xs : List D} (h0 : 0 < xs.length) (h1 : xs.length < 1073741824) :
    ∃ (x : D) (j' : Jar), m__law_of [.obj 0, .tup xs] (jarC j :: T) = .ok (.d x) (jarC j' :: T) ∧ x ∈ xs ∧ j'.Ok := by
  obtain ⟨k, j', e, k0, k1, ok'⟩ := draw_ok ok (T := T) (top := (xs.length : Int)) (by omega) (by omega)
  obtain ⟨x, hx, e1, e2, _⟩ := f_ixI k0 k1
  refine ⟨x, j', ?_, hx, ok'⟩
  simp only [m__law_of, fnM, b__law_of, env0_2_2, x_seq, x_nil, x_pass, x_break, x_cont, x_set, x_share, x_putd, x_putt, x_puto, x_putsh, x_expr, x_ret, x_retN, x_if, x_for, x_outd, x_outt, x_outo, x_var, x_d, x_bin, x_opts, x_optn, x_rvd, x_rvn, x_frd, x_frt, x_fro, x_Cl, x_Cd, x_tod, x_tot, x_too, x_lk1, x_lk2, x_lk3, x_lk4, x_lk5, x_lk6, x_lk7, x_lk8, x_lk9, x_lk10, x_lookO, x_peekd, x_peeko, x_pk2, x_asB, x_test, x_not, x_and, x_or, x_ife, x_andV, x_orV, x_notV, x_ret0, x_chain, x_bnd, x_D0, x_D1, x_P0, x_P1, x_pks0, x_pks1, x_aps, x_tup, x_lst, x_dict0, x_call, x_ofok, x_items, x_range, x_sl, x_part, x_nopart, x_asI, x_mut, x_mutK, x_getO, x_getS, x_putO, x_putS, x_isLst, x_put, x_aug, x_str1, x_isStr, x_neg, x_endC, x_tName, x_yes, R.to_ok, R.to_stuck, R.to_exc, bind_ok, bind_stuck, bind_exc, RS.bind_nx, RS.bind_ret, RS.bind_bk, RS.bind_ct, RS.bind_stuck, RS.bind_exc, List.getElem?_cons_zero, List.getElem?_cons_succ, List.getElem?_nil, List.set_cons_zero, List.set_cons_succ, List.set_nil, List.length_cons, List.length_nil, if_true, if_false, Bool.false_eq_true, reduceIte, Bool.not_true, Bool.not_false, ite_true, ite_false, wipeE, backE, keepD, List.getD_cons_zero, List.getD_cons_succ, Option.bind_some, Option.map_some, f_lenT, e, e2]
theorem jar_ok (ns : List Int) (h : ns.length ≤ 63) : ∃ j : Jar, m__law_jar [.scr ns] [] = .ok (.new (jarC j)) [] ∧ j.Ok := by
  have hc : (cut ns none (some 63)).length ≤ 63 := by
    unfold cut
    rw [List.length_take, List.length_drop]
    omega
  have key : FI (m__law_jar [.scr ns] []) fun r S => ∃ j : Jar, r = .new (jarC j) ∧ S = [] ∧ j.Ok := by
    refine FI.fnM ?_
    rw [env0_3_1, b__law_jar]
    refine SI.seq_eq (g' := ⟨[some (.d (.scr ns)), some (.d (.int (6101 + ns.length))), none], []⟩) ?_ ?_
    · simp only [x_seq, x_nil, x_pass, x_break, x_cont, x_set, x_share, x_putd, x_putt, x_puto, x_putsh, x_expr, x_ret, x_retN, x_if, x_for, x_outd, x_outt, x_outo, x_var, x_d, x_bin, x_opts, x_optn, x_rvd, x_rvn, x_frd, x_frt, x_fro, x_Cl, x_Cd, x_tod, x_tot, x_too, x_lk1, x_lk2, x_lk3, x_lk4, x_lk5, x_lk6, x_lk7, x_lk8, x_lk9, x_lk10, x_lookO, x_peekd, x_peeko, x_pk2, x_asB, x_test, x_not, x_and, x_or, x_ife, x_andV, x_orV, x_notV, x_ret0, x_chain, x_bnd, x_D0, x_D1, x_P0, x_P1, x_pks0, x_pks1, x_aps, x_tup, x_lst, x_dict0, x_call, x_ofok, x_items, x_range, x_sl, x_part, x_nopart, x_asI, x_mut, x_mutK, x_getO, x_getS, x_putO, x_putS, x_isLst, x_put, x_aug, x_str1, x_isStr, x_neg, x_endC, x_tName, x_yes, R.to_ok, R.to_stuck, R.to_exc, bind_ok, bind_stuck, bind_exc, RS.bind_nx, RS.bind_ret, RS.bind_bk, RS.bind_ct, RS.bind_stuck, RS.bind_exc, List.getElem?_cons_zero, List.getElem?_cons_succ, List.getElem?_nil, List.set_cons_zero, List.set_cons_succ, List.set_nil, List.length_cons, List.length_nil, if_true, if_false, Bool.false_eq_true, reduceIte, Bool.not_true, Bool.not_false, ite_true, ite_false, wipeE, backE, keepD, List.getD_cons_zero, List.getD_cons_succ, Option.bind_some, Option.map_some, f_lenC, f_addI]
    refine SI.seqx ?_
    rw [x_for]
    have ei : (mItems (mSl (mVar 0) (mNoPart) (mPart (mD (.int 63))))) ⟨[some (.d (.scr ns)), some (.d (.int (6101 + ns.length))), none], []⟩ = .ok ((cut ns none (some 63)).map D.int) ⟨[some (.d (.scr ns)), some (.d (.int (6101 + ns.length))), none], []⟩ := by
      simp only [x_seq, x_nil, x_pass, x_break, x_cont, x_set, x_share, x_putd, x_putt, x_puto, x_putsh, x_expr, x_ret, x_retN, x_if, x_for, x_outd, x_outt, x_outo, x_var, x_d, x_bin, x_opts, x_optn, x_rvd, x_rvn, x_frd, x_frt, x_fro, x_Cl, x_Cd, x_tod, x_tot, x_too, x_lk1, x_lk2, x_lk3, x_lk4, x_lk5, x_lk6, x_lk7, x_lk8, x_lk9, x_lk10, x_lookO, x_peekd, x_peeko, x_pk2, x_asB, x_test, x_not, x_and, x_or, x_ife, x_andV, x_orV, x_notV, x_ret0, x_chain, x_bnd, x_D0, x_D1, x_P0, x_P1, x_pks0, x_pks1, x_aps, x_tup, x_lst, x_dict0, x_call, x_ofok, x_items, x_range, x_sl, x_part, x_nopart, x_asI, x_mut, x_mutK, x_getO, x_getS, x_putO, x_putS, x_isLst, x_put, x_aug, x_str1, x_isStr, x_neg, x_endC, x_tName, x_yes, R.to_ok, R.to_stuck, R.to_exc, bind_ok, bind_stuck, bind_exc, RS.bind_nx, RS.bind_ret, RS.bind_bk, RS.bind_ct, RS.bind_stuck, RS.bind_exc, List.getElem?_cons_zero, List.getElem?_cons_succ, List.getElem?_nil, List.set_cons_zero, List.set_cons_succ, List.set_nil, List.length_cons, List.length_nil, if_true, if_false, Bool.false_eq_true, reduceIte, Bool.not_true, Bool.not_false, ite_true, ite_false, wipeE, backE, keepD, List.getD_cons_zero, List.getD_cons_succ, Option.bind_some, Option.map_some, fSl, items]
    rw [ei, R.to_ok]
    refine SI.for_ (fun rest g => (∃ ms : List Int, rest = ms.map D.int) ∧ ∃ (s : Int) (c : Option SD), g = ⟨[some (.d (.scr ns)), some (.d (.int s)), c], []⟩ ∧ 0 ≤ s ∧ s < 2147483629) ⟨⟨_, rfl⟩, 6101 + ns.length, none, rfl, by omega, by omega⟩ ?_ ?_
    · rintro x xs g ⟨⟨ms, hm⟩, s, c, rfl, h0, h1⟩
      cases ms with
      | nil => cases hm
      | cons m ms =>
        cases hm
        refine ⟨_, rfl, ?_⟩
        have e3 : (0 : Int) < 2147483629 := by omega
        have e5 : (-(2 ^ 64) < s ∧ s < 2 ^ 64) ∨ (-(2 ^ 64) < (69069 : Int) ∧ (69069 : Int) < 2 ^ 64) := .inr (by omega)
        simp only [x_seq, x_nil, x_pass, x_break, x_cont, x_set, x_share, x_putd, x_putt, x_puto, x_putsh, x_expr, x_ret, x_retN, x_if, x_for, x_outd, x_outt, x_outo, x_var, x_d, x_bin, x_opts, x_optn, x_rvd, x_rvn, x_frd, x_frt, x_fro, x_Cl, x_Cd, x_tod, x_tot, x_too, x_lk1, x_lk2, x_lk3, x_lk4, x_lk5, x_lk6, x_lk7, x_lk8, x_lk9, x_lk10, x_lookO, x_peekd, x_peeko, x_pk2, x_asB, x_test, x_not, x_and, x_or, x_ife, x_andV, x_orV, x_notV, x_ret0, x_chain, x_bnd, x_D0, x_D1, x_P0, x_P1, x_pks0, x_pks1, x_aps, x_tup, x_lst, x_dict0, x_call, x_ofok, x_items, x_range, x_sl, x_part, x_nopart, x_asI, x_mut, x_mutK, x_getO, x_getS, x_putO, x_putS, x_isLst, x_put, x_aug, x_str1, x_isStr, x_neg, x_endC, x_tName, x_yes, R.to_ok, R.to_stuck, R.to_exc, bind_ok, bind_stuck, bind_exc, RS.bind_nx, RS.bind_ret, RS.bind_bk, RS.bind_ct, RS.bind_stuck, RS.bind_exc, List.getElem?_cons_zero, List.getElem?_cons_succ, List.getElem?_nil, List.set_cons_zero, List.set_cons_succ, List.set_nil, List.length_cons, List.length_nil, if_true, if_false, Bool.false_eq_true, reduceIte, Bool.not_true, Bool.not_false, ite_true, ite_false, wipeE, backE, keepD, List.getD_cons_zero, List.getD_cons_succ, Option.bind_some, Option.map_some, f_mulI e5, f_addI, f_modI e3]
        exact ⟨⟨ms, rfl⟩, _, _, rfl, Int.emod_nonneg _ (by omega), Int.emod_lt_of_pos _ (by omega)⟩
    · rintro g ⟨_, s, c, rfl, h0, h1⟩
      have e6 : (5 : Nat) ≤ sizeLine := by decide
      simp only [x_seq, x_nil, x_pass, x_break, x_cont, x_set, x_share, x_putd, x_putt, x_puto, x_putsh, x_expr, x_ret, x_retN, x_if, x_for, x_outd, x_outt, x_outo, x_var, x_d, x_bin, x_opts, x_optn, x_rvd, x_rvn, x_frd, x_frt, x_fro, x_Cl, x_Cd, x_tod, x_tot, x_too, x_lk1, x_lk2, x_lk3, x_lk4, x_lk5, x_lk6, x_lk7, x_lk8, x_lk9, x_lk10, x_lookO, x_peekd, x_peeko, x_pk2, x_asB, x_test, x_not, x_and, x_or, x_ife, x_andV, x_orV, x_notV, x_ret0, x_chain, x_bnd, x_D0, x_D1, x_P0, x_P1, x_pks0, x_pks1, x_aps, x_tup, x_lst, x_dict0, x_call, x_ofok, x_items, x_range, x_sl, x_part, x_nopart, x_asI, x_mut, x_mutK, x_getO, x_getS, x_putO, x_putS, x_isLst, x_put, x_aug, x_str1, x_isStr, x_neg, x_endC, x_tName, x_yes, R.to_ok, R.to_stuck, R.to_exc, bind_ok, bind_stuck, bind_exc, RS.bind_nx, RS.bind_ret, RS.bind_bk, RS.bind_ct, RS.bind_stuck, RS.bind_exc, List.getElem?_cons_zero, List.getElem?_cons_succ, List.getElem?_nil, List.set_cons_zero, List.set_cons_succ, List.set_nil, List.length_cons, List.length_nil, if_true, if_false, Bool.false_eq_true, reduceIte, Bool.not_true, Bool.not_false, ite_true, ite_false, wipeE, backE, keepD, List.getD_cons_zero, List.getD_cons_succ, Option.bind_some, Option.map_some, fSl, fList, e6, Nat.zero_add, Nat.reduceAdd]
      exact ⟨⟨cut ns none (some 63), 0, 0, s, 0⟩, rfl, rfl, ⟨by simp, h0, h1, by simp, hc⟩⟩
  obtain ⟨r, S, e, j, rfl, rfl, h⟩ := key.of
  exact ⟨j, e, h⟩
end Lib

set_option Elab.async false
set_option linter.all false
set_option maxRecDepth 100000
set_option maxHeartbeats 1000000
/-! names; likeness of plain things -/
namespace Lib
open PySem PySem.Spec PyProof.Rows L2 Mx

theorem look_ty {x : D} {t : String} (h : tyN x = some t) (g : Sg) : look x g = some x := by cases x <;> first | rfl | simp [tyN] at h
theorem f_isi {x : D} {t n : String} (h : tyN x = some t) (hn : n ∈ clS) : fIsi [x, .ty n] = some (.d (.bl (isB t n))) := by simp [fIsi, h, hn]
theorem f_isi2 {x : D} {t n m : String} (h : tyN x = some t) (hn : n ∈ clS) (hm : m ∈ clS) : fIsi [x, .tup [.ty n, .ty m]] = some (.d (.bl (isB t n || isB t m))) := by simp [fIsi, tys, h, hn, hm]
theorem c_str : "str" ∈ clS := by decide
theorem c_int : "int" ∈ clS := by decide
theorem c_bool : "bool" ∈ clS := by decide
theorem c_list : "list" ∈ clS := by decide
theorem c_tuple : "tuple" ∈ clS := by decide
theorem c_dict : "dict" ∈ clS := by decide
theorem bools_map {α : Type} (p : α → Bool) : ∀ l : List α, bools (l.map fun c => D.bl (p c)) = some (l.map p)
  | [] => rfl
  | a :: l => by simp [bools, bools_map p l]
theorem f_allL {α : Type} (p : α → Bool) (l : List α) : fAll [.lst (l.map fun c => D.bl (p c))] = some (.d (.bl (l.all p))) := by
  simp only [fAll, bools_map, Option.map_some, List.all_map]
  rfl
theorem f_anyL {α : Type} (p : α → Bool) (l : List α) : fAny [.lst (l.map fun c => D.bl (p c))] = some (.d (.bl (l.any p))) := by
  simp only [fAny, bools_map, Option.map_some, List.any_map]
  rfl
def abc : Str := "abcdefghijklmnopqrstuvwxyz"
def words : List D := [.str "join", .str "meet", .str "less", .str "all", .str "parts", .str "pair", .str "deep", .str "those", .str "in", .str "is", .str "not", .str "and", .str "or", .str "some", .str "every"]
def nameB (s : Str) : Bool := decide (1 ≤ s.length) && decide (s.length ≤ 8) && !inD (.str s) words && s.cps.toList.all fun c => decide (c ∈ abc.cps.toList)
def inAbc (x : D) : Option D := match x with
  | .str z => some (.bl (decide (z.cps.getD 0 0 ∈ abc.cps.toList)))
  | _ => none
theorem signs_abc (s : Str) : (Mx.signs s).filterMap inAbc = s.cps.toList.map fun c => D.bl (decide (c ∈ abc.cps.toList)) := by
  unfold Mx.signs
  rw [List.filterMap_map]
  rw [← List.filterMap_eq_map]
  rfl
theorem f_inS (c : Nat) (z : Str) : fIn false (.str ⟨#[c]⟩) (.str z) = some (.d (.bl (decide (c ∈ z.cps.toList)))) := by simp [fIn]
theorem comp_abc {s : Str} (h : s.length ≤ 8) (me : ST RV) (hm : ∀ (g : Sg) (c : Nat), g.env = [some (.d (.str s)), some (.d (.str ⟨#[c]⟩))] → me g = .ok (.d (.bl (decide (c ∈ abc.cps.toList)))) g) (S : List C) :
    mComp (mItems (mVar 0)) [1] (tName 1) mYes me ⟨[some (.d (.str s)), none], S⟩ = .ok (.tmp (.lst (s.cps.toList.map fun c => D.bl (decide (c ∈ abc.cps.toList))))) ⟨[some (.d (.str s)), none], S⟩ := by
  rw [← signs_abc]
  refine mComp_map (xs := Mx.signs s) (g0 := ⟨[some (.d (.str s)), none], S⟩) inAbc (by simp only [x_seq, x_nil, x_pass, x_break, x_cont, x_set, x_share, x_putd, x_putt, x_puto, x_putsh, x_expr, x_ret, x_retN, x_if, x_for, x_outd, x_outt, x_outo, x_var, x_d, x_bin, x_opts, x_optn, x_rvd, x_rvn, x_frd, x_frt, x_fro, x_Cl, x_Cd, x_tod, x_tot, x_too, x_lk1, x_lk2, x_lk3, x_lk4, x_lk5, x_lk6, x_lk7, x_lk8, x_lk9, x_lk10, x_lookO, x_peekd, x_peeko, x_pk2, x_asB, x_test, x_not, x_and, x_or, x_ife, x_andV, x_orV, x_notV, x_ret0, x_chain, x_bnd, x_D0, x_D1, x_P0, x_P1, x_pks0, x_pks1, x_aps, x_tup, x_lst, x_dict0, x_call, x_ofok, x_items, x_range, x_sl, x_part, x_nopart, x_asI, x_mut, x_mutK, x_getO, x_getS, x_putO, x_putS, x_isLst, x_put, x_aug, x_str1, x_isStr, x_neg, x_endC, x_tName, x_yes, R.to_ok, R.to_stuck, R.to_exc, bind_ok, bind_stuck, bind_exc, RS.bind_nx, RS.bind_ret, RS.bind_bk, RS.bind_ct, RS.bind_stuck, RS.bind_exc, List.getElem?_cons_zero, List.getElem?_cons_succ, List.getElem?_nil, List.set_cons_zero, List.set_cons_succ, List.set_nil, List.length_cons, List.length_nil, if_true, if_false, Bool.false_eq_true, reduceIte, Bool.not_true, Bool.not_false, ite_true, ite_false, wipeE, backE, keepD, List.getD_cons_zero, List.getD_cons_succ, Option.bind_some, Option.map_some, items]) ?_ fun x hx => ?_
  · have e : (Mx.signs s).length = s.length := by simp [Mx.signs, Str.length]
    have : (8 : Nat) ≤ sizeLine := by decide
    omega
  · obtain ⟨c, _, rfl⟩ := List.mem_map.mp hx
    refine ⟨_, rfl, ?_⟩
    have e := hm ⟨[some (.d (.str s)), some (.d (.str ⟨#[c]⟩))], S⟩ c rfl
    simp only [x_seq, x_nil, x_pass, x_break, x_cont, x_set, x_share, x_putd, x_putt, x_puto, x_putsh, x_expr, x_ret, x_retN, x_if, x_for, x_outd, x_outt, x_outo, x_var, x_d, x_bin, x_opts, x_optn, x_rvd, x_rvn, x_frd, x_frt, x_fro, x_Cl, x_Cd, x_tod, x_tot, x_too, x_lk1, x_lk2, x_lk3, x_lk4, x_lk5, x_lk6, x_lk7, x_lk8, x_lk9, x_lk10, x_lookO, x_peekd, x_peeko, x_pk2, x_asB, x_test, x_not, x_and, x_or, x_ife, x_andV, x_orV, x_notV, x_ret0, x_chain, x_bnd, x_D0, x_D1, x_P0, x_P1, x_pks0, x_pks1, x_aps, x_tup, x_lst, x_dict0, x_call, x_ofok, x_items, x_range, x_sl, x_part, x_nopart, x_asI, x_mut, x_mutK, x_getO, x_getS, x_putO, x_putS, x_isLst, x_put, x_aug, x_str1, x_isStr, x_neg, x_endC, x_tName, x_yes, R.to_ok, R.to_stuck, R.to_exc, bind_ok, bind_stuck, bind_exc, RS.bind_nx, RS.bind_ret, RS.bind_bk, RS.bind_ct, RS.bind_stuck, RS.bind_exc, List.getElem?_cons_zero, List.getElem?_cons_succ, List.getElem?_nil, List.set_cons_zero, List.set_cons_succ, List.set_nil, List.length_cons, List.length_nil, if_true, if_false, Bool.false_eq_true, reduceIte, Bool.not_true, Bool.not_false, ite_true, ite_false, wipeE, backE, keepD, List.getD_cons_zero, List.getD_cons_succ, Option.bind_some, Option.map_some, RI, e]
    exact ⟨trivial, rfl, trivial⟩
theorem lk_W (g : Sg) : look v_WORDS g = some v_WORDS := rfl
theorem f_inW (s : Str) : fIn false (.str s) v_WORDS = some (.d (.bl (inD (.str s) words))) := rfl
theorem f_inW2 (s : Str) : fIn false (.str s) (.lst words) = some (.d (.bl (inD (.str s) words))) := rfl
theorem all_words (S : List C) : m__law_all_words [] S = .ok (.new (.lst words)) S := by
  have e : (15 : Nat) ≤ sizeLine := by decide
  have e7 : (7 : Nat) ≤ sizeLine := by decide
  have e8 : (8 : Nat) ≤ sizeLine := by decide
  simp only [m__law_all_words, fnM, b__law_all_words, env0, x_seq, x_nil, x_pass, x_break, x_cont, x_set, x_share, x_putd, x_putt, x_puto, x_putsh, x_expr, x_ret, x_retN, x_if, x_for, x_outd, x_outt, x_outo, x_var, x_d, x_bin, x_opts, x_optn, x_rvd, x_rvn, x_frd, x_frt, x_fro, x_Cl, x_Cd, x_tod, x_tot, x_too, x_lk1, x_lk2, x_lk3, x_lk4, x_lk5, x_lk6, x_lk7, x_lk8, x_lk9, x_lk10, x_lookO, x_peekd, x_peeko, x_pk2, x_asB, x_test, x_not, x_and, x_or, x_ife, x_andV, x_orV, x_notV, x_ret0, x_chain, x_bnd, x_D0, x_D1, x_P0, x_P1, x_pks0, x_pks1, x_aps, x_tup, x_lst, x_dict0, x_call, x_ofok, x_items, x_range, x_sl, x_part, x_nopart, x_asI, x_mut, x_mutK, x_getO, x_getS, x_putO, x_putS, x_isLst, x_put, x_aug, x_str1, x_isStr, x_neg, x_endC, x_tName, x_yes, R.to_ok, R.to_stuck, R.to_exc, bind_ok, bind_stuck, bind_exc, RS.bind_nx, RS.bind_ret, RS.bind_bk, RS.bind_ct, RS.bind_stuck, RS.bind_exc, List.getElem?_cons_zero, List.getElem?_cons_succ, List.getElem?_nil, List.set_cons_zero, List.set_cons_succ, List.set_nil, List.length_cons, List.length_nil, if_true, if_false, Bool.false_eq_true, reduceIte, Bool.not_true, Bool.not_false, ite_true, ite_false, wipeE, backE, keepD, List.getD_cons_zero, List.getD_cons_succ, Option.bind_some, Option.map_some, List.map_nil, List.nil_append, List.length_nil, Nat.sub_zero, List.replicate, Nat.zero_add, Nat.reduceAdd, e7, e8, fAdd, e]
  rfl
theorem is_name_str (s : Str) (S : List C) : m_is_name [.str s] S = .ok (.d (.bl (nameB s))) S := by
  have t : tyN (.str s) = some "str" := rfl
  have e1 : isB "str" "str" = true := by decide
  have v8 : v_LONGEST = .int 8 := rfl
  have vl : v_LETTERS = .str abc := rfl
  by_cases h1 : (1 : Int) ≤ s.length
  · by_cases h2 : (s.length : Int) ≤ 8
    · have n1 : 1 ≤ s.length := by omega
      have n2 : s.length ≤ 8 := by omega
      by_cases h3 : inD (.str s) words = true
      · simp only [m_is_name, fnM, b_is_name, env0_2_1, x_seq, x_nil, x_pass, x_break, x_cont, x_set, x_share, x_putd, x_putt, x_puto, x_putsh, x_expr, x_ret, x_retN, x_if, x_for, x_outd, x_outt, x_outo, x_var, x_d, x_bin, x_opts, x_optn, x_rvd, x_rvn, x_frd, x_frt, x_fro, x_Cl, x_Cd, x_tod, x_tot, x_too, x_lk1, x_lk2, x_lk3, x_lk4, x_lk5, x_lk6, x_lk7, x_lk8, x_lk9, x_lk10, x_lookO, x_peekd, x_peeko, x_pk2, x_asB, x_test, x_not, x_and, x_or, x_ife, x_andV, x_orV, x_notV, x_ret0, x_chain, x_bnd, x_D0, x_D1, x_P0, x_P1, x_pks0, x_pks1, x_aps, x_tup, x_lst, x_dict0, x_call, x_ofok, x_items, x_range, x_sl, x_part, x_nopart, x_asI, x_mut, x_mutK, x_getO, x_getS, x_putO, x_putS, x_isLst, x_put, x_aug, x_str1, x_isStr, x_neg, x_endC, x_tName, x_yes, R.to_ok, R.to_stuck, R.to_exc, bind_ok, bind_stuck, bind_exc, RS.bind_nx, RS.bind_ret, RS.bind_bk, RS.bind_ct, RS.bind_stuck, RS.bind_exc, List.getElem?_cons_zero, List.getElem?_cons_succ, List.getElem?_nil, List.set_cons_zero, List.set_cons_succ, List.set_nil, List.length_cons, List.length_nil, if_true, if_false, Bool.false_eq_true, reduceIte, Bool.not_true, Bool.not_false, ite_true, ite_false, wipeE, backE, keepD, List.getD_cons_zero, List.getD_cons_succ, Option.bind_some, Option.map_some, f_isi t c_str, e1, f_lenS, v8, f_leI, h1, h2, decide_true, lk_W, f_inW, h3]
        simp [nameB, h3]
      · have h3' : inD (.str s) words = false := by simpa using h3
        simp only [m_is_name, fnM, b_is_name, env0_2_1, x_seq, x_nil, x_pass, x_break, x_cont, x_set, x_share, x_putd, x_putt, x_puto, x_putsh, x_expr, x_ret, x_retN, x_if, x_for, x_outd, x_outt, x_outo, x_var, x_d, x_bin, x_opts, x_optn, x_rvd, x_rvn, x_frd, x_frt, x_fro, x_Cl, x_Cd, x_tod, x_tot, x_too, x_lk1, x_lk2, x_lk3, x_lk4, x_lk5, x_lk6, x_lk7, x_lk8, x_lk9, x_lk10, x_lookO, x_peekd, x_peeko, x_pk2, x_asB, x_test, x_not, x_and, x_or, x_ife, x_andV, x_orV, x_notV, x_ret0, x_chain, x_bnd, x_D0, x_D1, x_P0, x_P1, x_pks0, x_pks1, x_aps, x_tup, x_lst, x_dict0, x_call, x_ofok, x_items, x_range, x_sl, x_part, x_nopart, x_asI, x_mut, x_mutK, x_getO, x_getS, x_putO, x_putS, x_isLst, x_put, x_aug, x_str1, x_isStr, x_neg, x_endC, x_tName, x_yes, R.to_ok, R.to_stuck, R.to_exc, bind_ok, bind_stuck, bind_exc, RS.bind_nx, RS.bind_ret, RS.bind_bk, RS.bind_ct, RS.bind_stuck, RS.bind_exc, List.getElem?_cons_zero, List.getElem?_cons_succ, List.getElem?_nil, List.set_cons_zero, List.set_cons_succ, List.set_nil, List.length_cons, List.length_nil, if_true, if_false, Bool.false_eq_true, reduceIte, Bool.not_true, Bool.not_false, ite_true, ite_false, wipeE, backE, keepD, List.getD_cons_zero, List.getD_cons_succ, Option.bind_some, Option.map_some, f_isi t c_str, e1, f_lenS, v8, f_leI, h1, h2, decide_true, lk_W, f_inW, h3']
        rw [comp_abc n2 _ (fun g c hg => by simp only [x_seq, x_nil, x_pass, x_break, x_cont, x_set, x_share, x_putd, x_putt, x_puto, x_putsh, x_expr, x_ret, x_retN, x_if, x_for, x_outd, x_outt, x_outo, x_var, x_d, x_bin, x_opts, x_optn, x_rvd, x_rvn, x_frd, x_frt, x_fro, x_Cl, x_Cd, x_tod, x_tot, x_too, x_lk1, x_lk2, x_lk3, x_lk4, x_lk5, x_lk6, x_lk7, x_lk8, x_lk9, x_lk10, x_lookO, x_peekd, x_peeko, x_pk2, x_asB, x_test, x_not, x_and, x_or, x_ife, x_andV, x_orV, x_notV, x_ret0, x_chain, x_bnd, x_D0, x_D1, x_P0, x_P1, x_pks0, x_pks1, x_aps, x_tup, x_lst, x_dict0, x_call, x_ofok, x_items, x_range, x_sl, x_part, x_nopart, x_asI, x_mut, x_mutK, x_getO, x_getS, x_putO, x_putS, x_isLst, x_put, x_aug, x_str1, x_isStr, x_neg, x_endC, x_tName, x_yes, R.to_ok, R.to_stuck, R.to_exc, bind_ok, bind_stuck, bind_exc, RS.bind_nx, RS.bind_ret, RS.bind_bk, RS.bind_ct, RS.bind_stuck, RS.bind_exc, List.getElem?_cons_zero, List.getElem?_cons_succ, List.getElem?_nil, List.set_cons_zero, List.set_cons_succ, List.set_nil, List.length_cons, List.length_nil, if_true, if_false, Bool.false_eq_true, reduceIte, Bool.not_true, Bool.not_false, ite_true, ite_false, wipeE, backE, keepD, List.getD_cons_zero, List.getD_cons_succ, Option.bind_some, Option.map_some, hg, vl, f_inS])]
        simp only [x_seq, x_nil, x_pass, x_break, x_cont, x_set, x_share, x_putd, x_putt, x_puto, x_putsh, x_expr, x_ret, x_retN, x_if, x_for, x_outd, x_outt, x_outo, x_var, x_d, x_bin, x_opts, x_optn, x_rvd, x_rvn, x_frd, x_frt, x_fro, x_Cl, x_Cd, x_tod, x_tot, x_too, x_lk1, x_lk2, x_lk3, x_lk4, x_lk5, x_lk6, x_lk7, x_lk8, x_lk9, x_lk10, x_lookO, x_peekd, x_peeko, x_pk2, x_asB, x_test, x_not, x_and, x_or, x_ife, x_andV, x_orV, x_notV, x_ret0, x_chain, x_bnd, x_D0, x_D1, x_P0, x_P1, x_pks0, x_pks1, x_aps, x_tup, x_lst, x_dict0, x_call, x_ofok, x_items, x_range, x_sl, x_part, x_nopart, x_asI, x_mut, x_mutK, x_getO, x_getS, x_putO, x_putS, x_isLst, x_put, x_aug, x_str1, x_isStr, x_neg, x_endC, x_tName, x_yes, R.to_ok, R.to_stuck, R.to_exc, bind_ok, bind_stuck, bind_exc, RS.bind_nx, RS.bind_ret, RS.bind_bk, RS.bind_ct, RS.bind_stuck, RS.bind_exc, List.getElem?_cons_zero, List.getElem?_cons_succ, List.getElem?_nil, List.set_cons_zero, List.set_cons_succ, List.set_nil, List.length_cons, List.length_nil, if_true, if_false, Bool.false_eq_true, reduceIte, Bool.not_true, Bool.not_false, ite_true, ite_false, wipeE, backE, keepD, List.getD_cons_zero, List.getD_cons_succ, Option.bind_some, Option.map_some, f_allL]
        simp [nameB, h3', n1, n2]
    · have n2 : ¬ s.length ≤ 8 := by omega
      simp only [m_is_name, fnM, b_is_name, env0_2_1, x_seq, x_nil, x_pass, x_break, x_cont, x_set, x_share, x_putd, x_putt, x_puto, x_putsh, x_expr, x_ret, x_retN, x_if, x_for, x_outd, x_outt, x_outo, x_var, x_d, x_bin, x_opts, x_optn, x_rvd, x_rvn, x_frd, x_frt, x_fro, x_Cl, x_Cd, x_tod, x_tot, x_too, x_lk1, x_lk2, x_lk3, x_lk4, x_lk5, x_lk6, x_lk7, x_lk8, x_lk9, x_lk10, x_lookO, x_peekd, x_peeko, x_pk2, x_asB, x_test, x_not, x_and, x_or, x_ife, x_andV, x_orV, x_notV, x_ret0, x_chain, x_bnd, x_D0, x_D1, x_P0, x_P1, x_pks0, x_pks1, x_aps, x_tup, x_lst, x_dict0, x_call, x_ofok, x_items, x_range, x_sl, x_part, x_nopart, x_asI, x_mut, x_mutK, x_getO, x_getS, x_putO, x_putS, x_isLst, x_put, x_aug, x_str1, x_isStr, x_neg, x_endC, x_tName, x_yes, R.to_ok, R.to_stuck, R.to_exc, bind_ok, bind_stuck, bind_exc, RS.bind_nx, RS.bind_ret, RS.bind_bk, RS.bind_ct, RS.bind_stuck, RS.bind_exc, List.getElem?_cons_zero, List.getElem?_cons_succ, List.getElem?_nil, List.set_cons_zero, List.set_cons_succ, List.set_nil, List.length_cons, List.length_nil, if_true, if_false, Bool.false_eq_true, reduceIte, Bool.not_true, Bool.not_false, ite_true, ite_false, wipeE, backE, keepD, List.getD_cons_zero, List.getD_cons_succ, Option.bind_some, Option.map_some, f_isi t c_str, e1, f_lenS, v8, f_leI, h1, h2, decide_true, decide_false]
      simp [nameB, n2]
  · have n1 : ¬ 1 ≤ s.length := by omega
    simp only [m_is_name, fnM, b_is_name, env0_2_1, x_seq, x_nil, x_pass, x_break, x_cont, x_set, x_share, x_putd, x_putt, x_puto, x_putsh, x_expr, x_ret, x_retN, x_if, x_for, x_outd, x_outt, x_outo, x_var, x_d, x_bin, x_opts, x_optn, x_rvd, x_rvn, x_frd, x_frt, x_fro, x_Cl, x_Cd, x_tod, x_tot, x_too, x_lk1, x_lk2, x_lk3, x_lk4, x_lk5, x_lk6, x_lk7, x_lk8, x_lk9, x_lk10, x_lookO, x_peekd, x_peeko, x_pk2, x_asB, x_test, x_not, x_and, x_or, x_ife, x_andV, x_orV, x_notV, x_ret0, x_chain, x_bnd, x_D0, x_D1, x_P0, x_P1, x_pks0, x_pks1, x_aps, x_tup, x_lst, x_dict0, x_call, x_ofok, x_items, x_range, x_sl, x_part, x_nopart, x_asI, x_mut, x_mutK, x_getO, x_getS, x_putO, x_putS, x_isLst, x_put, x_aug, x_str1, x_isStr, x_neg, x_endC, x_tName, x_yes, R.to_ok, R.to_stuck, R.to_exc, bind_ok, bind_stuck, bind_exc, RS.bind_nx, RS.bind_ret, RS.bind_bk, RS.bind_ct, RS.bind_stuck, RS.bind_exc, List.getElem?_cons_zero, List.getElem?_cons_succ, List.getElem?_nil, List.set_cons_zero, List.set_cons_succ, List.set_nil, List.length_cons, List.length_nil, if_true, if_false, Bool.false_eq_true, reduceIte, Bool.not_true, Bool.not_false, ite_true, ite_false, wipeE, backE, keepD, List.getD_cons_zero, List.getD_cons_succ, Option.bind_some, Option.map_some, f_isi t c_str, e1, f_lenS, v8, f_leI, h1, decide_false]
    simp [nameB, n1]
theorem named_str (s : Str) (S : List C) : m__law_named [.str s] S = .ok (.d (.bl (nameB s))) S := by
  have t : tyN (.str s) = some "str" := rfl
  have e1 : isB "str" "str" = true := by decide
  by_cases h1 : (1 : Int) ≤ s.length
  · by_cases h2 : (s.length : Int) ≤ 8
    · have n1 : 1 ≤ s.length := by omega
      have n2 : s.length ≤ 8 := by omega
      by_cases h3 : inD (.str s) words = true
      · simp only [m__law_named, fnM, b__law_named, env0_2_1, x_seq, x_nil, x_pass, x_break, x_cont, x_set, x_share, x_putd, x_putt, x_puto, x_putsh, x_expr, x_ret, x_retN, x_if, x_for, x_outd, x_outt, x_outo, x_var, x_d, x_bin, x_opts, x_optn, x_rvd, x_rvn, x_frd, x_frt, x_fro, x_Cl, x_Cd, x_tod, x_tot, x_too, x_lk1, x_lk2, x_lk3, x_lk4, x_lk5, x_lk6, x_lk7, x_lk8, x_lk9, x_lk10, x_lookO, x_peekd, x_peeko, x_pk2, x_asB, x_test, x_not, x_and, x_or, x_ife, x_andV, x_orV, x_notV, x_ret0, x_chain, x_bnd, x_D0, x_D1, x_P0, x_P1, x_pks0, x_pks1, x_aps, x_tup, x_lst, x_dict0, x_call, x_ofok, x_items, x_range, x_sl, x_part, x_nopart, x_asI, x_mut, x_mutK, x_getO, x_getS, x_putO, x_putS, x_isLst, x_put, x_aug, x_str1, x_isStr, x_neg, x_endC, x_tName, x_yes, R.to_ok, R.to_stuck, R.to_exc, bind_ok, bind_stuck, bind_exc, RS.bind_nx, RS.bind_ret, RS.bind_bk, RS.bind_ct, RS.bind_stuck, RS.bind_exc, List.getElem?_cons_zero, List.getElem?_cons_succ, List.getElem?_nil, List.set_cons_zero, List.set_cons_succ, List.set_nil, List.length_cons, List.length_nil, if_true, if_false, Bool.false_eq_true, reduceIte, Bool.not_true, Bool.not_false, ite_true, ite_false, wipeE, backE, keepD, List.getD_cons_zero, List.getD_cons_succ, Option.bind_some, Option.map_some, f_isi t c_str, e1, f_lenS, f_leI, h1, h2, decide_true, all_words, f_inW2, h3]
        simp [nameB, h3]
      · have h3' : inD (.str s) words = false := by simpa using h3
        simp only [m__law_named, fnM, b__law_named, env0_2_1, x_seq, x_nil, x_pass, x_break, x_cont, x_set, x_share, x_putd, x_putt, x_puto, x_putsh, x_expr, x_ret, x_retN, x_if, x_for, x_outd, x_outt, x_outo, x_var, x_d, x_bin, x_opts, x_optn, x_rvd, x_rvn, x_frd, x_frt, x_fro, x_Cl, x_Cd, x_tod, x_tot, x_too, x_lk1, x_lk2, x_lk3, x_lk4, x_lk5, x_lk6, x_lk7, x_lk8, x_lk9, x_lk10, x_lookO, x_peekd, x_peeko, x_pk2, x_asB, x_test, x_not, x_and, x_or, x_ife, x_andV, x_orV, x_notV, x_ret0, x_chain, x_bnd, x_D0, x_D1, x_P0, x_P1, x_pks0, x_pks1, x_aps, x_tup, x_lst, x_dict0, x_call, x_ofok, x_items, x_range, x_sl, x_part, x_nopart, x_asI, x_mut, x_mutK, x_getO, x_getS, x_putO, x_putS, x_isLst, x_put, x_aug, x_str1, x_isStr, x_neg, x_endC, x_tName, x_yes, R.to_ok, R.to_stuck, R.to_exc, bind_ok, bind_stuck, bind_exc, RS.bind_nx, RS.bind_ret, RS.bind_bk, RS.bind_ct, RS.bind_stuck, RS.bind_exc, List.getElem?_cons_zero, List.getElem?_cons_succ, List.getElem?_nil, List.set_cons_zero, List.set_cons_succ, List.set_nil, List.length_cons, List.length_nil, if_true, if_false, Bool.false_eq_true, reduceIte, Bool.not_true, Bool.not_false, ite_true, ite_false, wipeE, backE, keepD, List.getD_cons_zero, List.getD_cons_succ, Option.bind_some, Option.map_some, f_isi t c_str, e1, f_lenS, f_leI, h1, h2, decide_true, all_words, f_inW2, h3']
        rw [comp_abc n2 _ (fun g c hg => by
          have e := f_inS c abc
          unfold abc at e ⊢
          simp only [x_seq, x_nil, x_pass, x_break, x_cont, x_set, x_share, x_putd, x_putt, x_puto, x_putsh, x_expr, x_ret, x_retN, x_if, x_for, x_outd, x_outt, x_outo, x_var, x_d, x_bin, x_opts, x_optn, x_rvd, x_rvn, x_frd, x_frt, x_fro, x_Cl, x_Cd, x_tod, x_tot, x_too, x_lk1, x_lk2, x_lk3, x_lk4, x_lk5, x_lk6, x_lk7, x_lk8, x_lk9, x_lk10, x_lookO, x_peekd, x_peeko, x_pk2, x_asB, x_test, x_not, x_and, x_or, x_ife, x_andV, x_orV, x_notV, x_ret0, x_chain, x_bnd, x_D0, x_D1, x_P0, x_P1, x_pks0, x_pks1, x_aps, x_tup, x_lst, x_dict0, x_call, x_ofok, x_items, x_range, x_sl, x_part, x_nopart, x_asI, x_mut, x_mutK, x_getO, x_getS, x_putO, x_putS, x_isLst, x_put, x_aug, x_str1, x_isStr, x_neg, x_endC, x_tName, x_yes, R.to_ok, R.to_stuck, R.to_exc, bind_ok, bind_stuck, bind_exc, RS.bind_nx, RS.bind_ret, RS.bind_bk, RS.bind_ct, RS.bind_stuck, RS.bind_exc, List.getElem?_cons_zero, List.getElem?_cons_succ, List.getElem?_nil, List.set_cons_zero, List.set_cons_succ, List.set_nil, List.length_cons, List.length_nil, if_true, if_false, Bool.false_eq_true, reduceIte, Bool.not_true, Bool.not_false, ite_true, ite_false, wipeE, backE, keepD, List.getD_cons_zero, List.getD_cons_succ, Option.bind_some, Option.map_some, hg, e])]
        simp only [x_seq, x_nil, x_pass, x_break, x_cont, x_set, x_share, x_putd, x_putt, x_puto, x_putsh, x_expr, x_ret, x_retN, x_if, x_for, x_outd, x_outt, x_outo, x_var, x_d, x_bin, x_opts, x_optn, x_rvd, x_rvn, x_frd, x_frt, x_fro, x_Cl, x_Cd, x_tod, x_tot, x_too, x_lk1, x_lk2, x_lk3, x_lk4, x_lk5, x_lk6, x_lk7, x_lk8, x_lk9, x_lk10, x_lookO, x_peekd, x_peeko, x_pk2, x_asB, x_test, x_not, x_and, x_or, x_ife, x_andV, x_orV, x_notV, x_ret0, x_chain, x_bnd, x_D0, x_D1, x_P0, x_P1, x_pks0, x_pks1, x_aps, x_tup, x_lst, x_dict0, x_call, x_ofok, x_items, x_range, x_sl, x_part, x_nopart, x_asI, x_mut, x_mutK, x_getO, x_getS, x_putO, x_putS, x_isLst, x_put, x_aug, x_str1, x_isStr, x_neg, x_endC, x_tName, x_yes, R.to_ok, R.to_stuck, R.to_exc, bind_ok, bind_stuck, bind_exc, RS.bind_nx, RS.bind_ret, RS.bind_bk, RS.bind_ct, RS.bind_stuck, RS.bind_exc, List.getElem?_cons_zero, List.getElem?_cons_succ, List.getElem?_nil, List.set_cons_zero, List.set_cons_succ, List.set_nil, List.length_cons, List.length_nil, if_true, if_false, Bool.false_eq_true, reduceIte, Bool.not_true, Bool.not_false, ite_true, ite_false, wipeE, backE, keepD, List.getD_cons_zero, List.getD_cons_succ, Option.bind_some, Option.map_some, f_allL]
        simp [nameB, h3', n1, n2]
    · have n2 : ¬ s.length ≤ 8 := by omega
      simp only [m__law_named, fnM, b__law_named, env0_2_1, x_seq, x_nil, x_pass, x_break, x_cont, x_set, x_share, x_putd, x_putt, x_puto, x_putsh, x_expr, x_ret, x_retN, x_if, x_for, x_outd, x_outt, x_outo, x_var, x_d, x_bin, x_opts, x_optn, x_rvd, x_rvn, x_frd, x_frt, x_fro, x_Cl, x_Cd, x_tod, x_tot, x_too, x_lk1, x_lk2, x_lk3, x_lk4, x_lk5, x_lk6, x_lk7, x_lk8, x_lk9, x_lk10, x_lookO, x_peekd, x_peeko, x_pk2, x_asB, x_test, x_not, x_and, x_or, x_ife, x_andV, x_orV, x_notV, x_ret0, x_chain, x_bnd, x_D0, x_D1, x_P0, x_P1, x_pks0, x_pks1, x_aps, x_tup, x_lst, x_dict0, x_call, x_ofok, x_items, x_range, x_sl, x_part, x_nopart, x_asI, x_mut, x_mutK, x_getO, x_getS, x_putO, x_putS, x_isLst, x_put, x_aug, x_str1, x_isStr, x_neg, x_endC, x_tName, x_yes, R.to_ok, R.to_stuck, R.to_exc, bind_ok, bind_stuck, bind_exc, RS.bind_nx, RS.bind_ret, RS.bind_bk, RS.bind_ct, RS.bind_stuck, RS.bind_exc, List.getElem?_cons_zero, List.getElem?_cons_succ, List.getElem?_nil, List.set_cons_zero, List.set_cons_succ, List.set_nil, List.length_cons, List.length_nil, if_true, if_false, Bool.false_eq_true, reduceIte, Bool.not_true, Bool.not_false, ite_true, ite_false, wipeE, backE, keepD, List.getD_cons_zero, List.getD_cons_succ, Option.bind_some, Option.map_some, f_isi t c_str, e1, f_lenS, f_leI, h1, h2, decide_true, decide_false]
      simp [nameB, n2]
  · have n1 : ¬ 1 ≤ s.length := by omega
    simp only [m__law_named, fnM, b__law_named, env0_2_1, x_seq, x_nil, x_pass, x_break, x_cont, x_set, x_share, x_putd, x_putt, x_puto, x_putsh, x_expr, x_ret, x_retN, x_if, x_for, x_outd, x_outt, x_outo, x_var, x_d, x_bin, x_opts, x_optn, x_rvd, x_rvn, x_frd, x_frt, x_fro, x_Cl, x_Cd, x_tod, x_tot, x_too, x_lk1, x_lk2, x_lk3, x_lk4, x_lk5, x_lk6, x_lk7, x_lk8, x_lk9, x_lk10, x_lookO, x_peekd, x_peeko, x_pk2, x_asB, x_test, x_not, x_and, x_or, x_ife, x_andV, x_orV, x_notV, x_ret0, x_chain, x_bnd, x_D0, x_D1, x_P0, x_P1, x_pks0, x_pks1, x_aps, x_tup, x_lst, x_dict0, x_call, x_ofok, x_items, x_range, x_sl, x_part, x_nopart, x_asI, x_mut, x_mutK, x_getO, x_getS, x_putO, x_putS, x_isLst, x_put, x_aug, x_str1, x_isStr, x_neg, x_endC, x_tName, x_yes, R.to_ok, R.to_stuck, R.to_exc, bind_ok, bind_stuck, bind_exc, RS.bind_nx, RS.bind_ret, RS.bind_bk, RS.bind_ct, RS.bind_stuck, RS.bind_exc, List.getElem?_cons_zero, List.getElem?_cons_succ, List.getElem?_nil, List.set_cons_zero, List.set_cons_succ, List.set_nil, List.length_cons, List.length_nil, if_true, if_false, Bool.false_eq_true, reduceIte, Bool.not_true, Bool.not_false, ite_true, ite_false, wipeE, backE, keepD, List.getD_cons_zero, List.getD_cons_succ, Option.bind_some, Option.map_some, f_isi t c_str, e1, f_lenS, f_leI, h1, decide_false]
    simp [nameB, n1]
theorem isB_str {t : String} (h : t ≠ "str") : isB t "str" = false := by
  simp [isB, h]
theorem is_name_other {x : D} {t : String} (h : tyN x = some t) (n : t ≠ "str") (S : List C) : m_is_name [x] S = .ok (.d (.bl false)) S := by
  simp only [m_is_name, fnM, b_is_name, env0_2_1, x_seq, x_nil, x_pass, x_break, x_cont, x_set, x_share, x_putd, x_putt, x_puto, x_putsh, x_expr, x_ret, x_retN, x_if, x_for, x_outd, x_outt, x_outo, x_var, x_d, x_bin, x_opts, x_optn, x_rvd, x_rvn, x_frd, x_frt, x_fro, x_Cl, x_Cd, x_tod, x_tot, x_too, x_lk1, x_lk2, x_lk3, x_lk4, x_lk5, x_lk6, x_lk7, x_lk8, x_lk9, x_lk10, x_lookO, x_peekd, x_peeko, x_pk2, x_asB, x_test, x_not, x_and, x_or, x_ife, x_andV, x_orV, x_notV, x_ret0, x_chain, x_bnd, x_D0, x_D1, x_P0, x_P1, x_pks0, x_pks1, x_aps, x_tup, x_lst, x_dict0, x_call, x_ofok, x_items, x_range, x_sl, x_part, x_nopart, x_asI, x_mut, x_mutK, x_getO, x_getS, x_putO, x_putS, x_isLst, x_put, x_aug, x_str1, x_isStr, x_neg, x_endC, x_tName, x_yes, R.to_ok, R.to_stuck, R.to_exc, bind_ok, bind_stuck, bind_exc, RS.bind_nx, RS.bind_ret, RS.bind_bk, RS.bind_ct, RS.bind_stuck, RS.bind_exc, List.getElem?_cons_zero, List.getElem?_cons_succ, List.getElem?_nil, List.set_cons_zero, List.set_cons_succ, List.set_nil, List.length_cons, List.length_nil, if_true, if_false, Bool.false_eq_true, reduceIte, Bool.not_true, Bool.not_false, ite_true, ite_false, wipeE, backE, keepD, List.getD_cons_zero, List.getD_cons_succ, Option.bind_some, Option.map_some, look_ty h, f_isi h c_str, isB_str n]
theorem named_other {x : D} {t : String} (h : tyN x = some t) (n : t ≠ "str") (S : List C) : m__law_named [x] S = .ok (.d (.bl false)) S := by
  simp only [m__law_named, fnM, b__law_named, env0_2_1, x_seq, x_nil, x_pass, x_break, x_cont, x_set, x_share, x_putd, x_putt, x_puto, x_putsh, x_expr, x_ret, x_retN, x_if, x_for, x_outd, x_outt, x_outo, x_var, x_d, x_bin, x_opts, x_optn, x_rvd, x_rvn, x_frd, x_frt, x_fro, x_Cl, x_Cd, x_tod, x_tot, x_too, x_lk1, x_lk2, x_lk3, x_lk4, x_lk5, x_lk6, x_lk7, x_lk8, x_lk9, x_lk10, x_lookO, x_peekd, x_peeko, x_pk2, x_asB, x_test, x_not, x_and, x_or, x_ife, x_andV, x_orV, x_notV, x_ret0, x_chain, x_bnd, x_D0, x_D1, x_P0, x_P1, x_pks0, x_pks1, x_aps, x_tup, x_lst, x_dict0, x_call, x_ofok, x_items, x_range, x_sl, x_part, x_nopart, x_asI, x_mut, x_mutK, x_getO, x_getS, x_putO, x_putS, x_isLst, x_put, x_aug, x_str1, x_isStr, x_neg, x_endC, x_tName, x_yes, R.to_ok, R.to_stuck, R.to_exc, bind_ok, bind_stuck, bind_exc, RS.bind_nx, RS.bind_ret, RS.bind_bk, RS.bind_ct, RS.bind_stuck, RS.bind_exc, List.getElem?_cons_zero, List.getElem?_cons_succ, List.getElem?_nil, List.set_cons_zero, List.set_cons_succ, List.set_nil, List.length_cons, List.length_nil, if_true, if_false, Bool.false_eq_true, reduceIte, Bool.not_true, Bool.not_false, ite_true, ite_false, wipeE, backE, keepD, List.getD_cons_zero, List.getD_cons_succ, Option.bind_some, Option.map_some, look_ty h, f_isi h c_str, isB_str n]
/-- what both say of a thing -/
def nameD : D → Bool
  | .str s => nameB s
  | _ => false
theorem is_name_ok {x : D} {t : String} (h : tyN x = some t) (S : List C) : m_is_name [x] S = .ok (.d (.bl (nameD x))) S := by
  cases x with
  | str s => exact is_name_str s S
  | _ => exact is_name_other h (by first | (simp [tyN] at h; done) | (simp [tyN] at h; subst h; decide)) S
theorem named_ok {x : D} {t : String} (h : tyN x = some t) (S : List C) : m__law_named [x] S = .ok (.d (.bl (nameD x))) S := by
  cases x with
  | str s => exact named_str s S
  | _ => exact named_other h (by first | (simp [tyN] at h; done) | (simp [tyN] at h; subst h; decide)) S
/-! ### likeness -/
theorem same_bl (n : Nat) (a b : Bool) (S : List C) : m__law_same (n + 1) [.bl a, .bl b] S = .ok (.d (.bl (a == b))) S := by
  have t : ∀ c, tyN (.bl c) = some "bool" := fun _ => rfl
  have e1 : isB "bool" "bool" = true := by decide
  have e2 : fIsN false (.bl b) .non = some (.d (.bl false)) := rfl
  have e3 : fEq false (.bl a) (.bl b) = some (.d (.bl (a == b))) := rfl
  simp only [m__law_same, fnM, b__law_same, env0_3_2, x_seq, x_nil, x_pass, x_break, x_cont, x_set, x_share, x_putd, x_putt, x_puto, x_putsh, x_expr, x_ret, x_retN, x_if, x_for, x_outd, x_outt, x_outo, x_var, x_d, x_bin, x_opts, x_optn, x_rvd, x_rvn, x_frd, x_frt, x_fro, x_Cl, x_Cd, x_tod, x_tot, x_too, x_lk1, x_lk2, x_lk3, x_lk4, x_lk5, x_lk6, x_lk7, x_lk8, x_lk9, x_lk10, x_lookO, x_peekd, x_peeko, x_pk2, x_asB, x_test, x_not, x_and, x_or, x_ife, x_andV, x_orV, x_notV, x_ret0, x_chain, x_bnd, x_D0, x_D1, x_P0, x_P1, x_pks0, x_pks1, x_aps, x_tup, x_lst, x_dict0, x_call, x_ofok, x_items, x_range, x_sl, x_part, x_nopart, x_asI, x_mut, x_mutK, x_getO, x_getS, x_putO, x_putS, x_isLst, x_put, x_aug, x_str1, x_isStr, x_neg, x_endC, x_tName, x_yes, R.to_ok, R.to_stuck, R.to_exc, bind_ok, bind_stuck, bind_exc, RS.bind_nx, RS.bind_ret, RS.bind_bk, RS.bind_ct, RS.bind_stuck, RS.bind_exc, List.getElem?_cons_zero, List.getElem?_cons_succ, List.getElem?_nil, List.set_cons_zero, List.set_cons_succ, List.set_nil, List.length_cons, List.length_nil, if_true, if_false, Bool.false_eq_true, reduceIte, Bool.not_true, Bool.not_false, ite_true, ite_false, wipeE, backE, keepD, List.getD_cons_zero, List.getD_cons_succ, Option.bind_some, Option.map_some, e2, f_isi (t _) c_bool, e1, e3]
theorem same_int (n : Nat) (a b : Int) (S : List C) : m__law_same (n + 1) [.int a, .int b] S = .ok (.d (.bl (a == b))) S := by
  have t : ∀ c, tyN (.int c) = some "int" := fun _ => rfl
  have e1 : isB "int" "bool" = false := by decide
  have e4 : isB "int" "int" = true := by decide
  have e5 : isB "int" "str" = false := by decide
  have e2 : fIsN false (.int b) .non = some (.d (.bl false)) := rfl
  have e3 : fEq false (.int a) (.int b) = some (.d (.bl (a == b))) := rfl
  have e6 : fEq false (.bl true) (.bl true) = some (.d (.bl true)) := rfl
  have e7 : (2 : Nat) ≤ sizeLine := by decide
  simp only [m__law_same, fnM, b__law_same, env0_3_2, x_seq, x_nil, x_pass, x_break, x_cont, x_set, x_share, x_putd, x_putt, x_puto, x_putsh, x_expr, x_ret, x_retN, x_if, x_for, x_outd, x_outt, x_outo, x_var, x_d, x_bin, x_opts, x_optn, x_rvd, x_rvn, x_frd, x_frt, x_fro, x_Cl, x_Cd, x_tod, x_tot, x_too, x_lk1, x_lk2, x_lk3, x_lk4, x_lk5, x_lk6, x_lk7, x_lk8, x_lk9, x_lk10, x_lookO, x_peekd, x_peeko, x_pk2, x_asB, x_test, x_not, x_and, x_or, x_ife, x_andV, x_orV, x_notV, x_ret0, x_chain, x_bnd, x_D0, x_D1, x_P0, x_P1, x_pks0, x_pks1, x_aps, x_tup, x_lst, x_dict0, x_call, x_ofok, x_items, x_range, x_sl, x_part, x_nopart, x_asI, x_mut, x_mutK, x_getO, x_getS, x_putO, x_putS, x_isLst, x_put, x_aug, x_str1, x_isStr, x_neg, x_endC, x_tName, x_yes, R.to_ok, R.to_stuck, R.to_exc, bind_ok, bind_stuck, bind_exc, RS.bind_nx, RS.bind_ret, RS.bind_bk, RS.bind_ct, RS.bind_stuck, RS.bind_exc, List.getElem?_cons_zero, List.getElem?_cons_succ, List.getElem?_nil, List.set_cons_zero, List.set_cons_succ, List.set_nil, List.length_cons, List.length_nil, if_true, if_false, Bool.false_eq_true, reduceIte, Bool.not_true, Bool.not_false, ite_true, ite_false, wipeE, backE, keepD, List.getD_cons_zero, List.getD_cons_succ, Option.bind_some, Option.map_some, e2, f_isi (t _) c_bool, f_isi (t _) c_int, f_isi2 (t _) c_int c_str, e1, e4, e5, e6, e3, Nat.zero_add, Nat.reduceAdd, e7, Bool.or_false]
end Lib

set_option Elab.async false
set_option linter.all false
set_option maxRecDepth 100000
set_option maxHeartbeats 0
namespace K20
open PySem PySem.Spec PyProof.Rows L2 Mx Lib
/-! ### the text -/
def top (i : Nat) : Stmt := PySem.Challenge.pw_selfhold_k20_names_and_words.main.body.getD i (.Pass ⟨0, 0, 0, 0⟩)
abbrev s_is_name : Stmt := top 5
abbrev s__law_jar : Stmt := top 7
abbrev s__law_draw : Stmt := top 8
abbrev s__law_of : Stmt := top 9
abbrev s__law_same : Stmt := top 10
abbrev s__law_wild : Stmt := top 11
abbrev s__law_all_words : Stmt := top 12
abbrev s__law_named : Stmt := top 13
abbrev s__law_some_name : Stmt := top 14
abbrev s_law : Stmt := top 15
/-! ### constants -/
def v_DEEP : D := .int 8
/-! ### mirrors -/
/-- 0 _law_jar_here, 1 _law_things -/
def b__law_wild : SM := sSeq (sSet 1 (mLst [mD .non, mD (.bl true), mD (.int 5), mNeg (mD (.int 1)), mD (.str ""), mD (.str "ab"), mLst [], mTup [], mDict0, mTup [mD (.int 0)], mTup [mTup [mD (.int 0)], mD (.int 0)], mLst [mLst [mD (.int 0)]], mTup [mTup [mD (.bl true)]], mTup [mTup [mD (.int 1)]], mTup [mTup [mNeg (mD (.int 1))]], mTup [mD .non]]))
  (sRet (mCall (m__law_of) [mVar 0, mVar 1]))
def m__law_wild : FM := fnM 2 b__law_wild
/-- 0 _law_jar_here, 1 _law_letters, 2 _law_size, 3 _law_name, 4 _law_step -/
def b__law_some_name : SM := sSeq (sSet 1 (mD (.str "abcdefghijklmnopqrstuvwxyz")))
  (sSeq (sSet 2 (mCall (m__law_of) [mVar 0, mLst [mD (.int 1), mD (.int 8), mBin fAdd (mD (.int 1)) (mCall (m__law_draw) [mVar 0, mD (.int 8)])]]))
  (sSeq (sSet 3 (mStr1 fJoin (mD (.str "")) (mComp (mRange rng1 [mVar 2]) [4] (tName 4) (mYes) (mBin fIx (mVar 1) (mCall (m__law_draw) [mVar 0, mD (.int 26)])))))
  (sRet (mIf (mTest (mCall (m__law_named) [mVar 3])) (mVar 3) (mD (.str "q"))))))
def m__law_some_name : FM := fnM 5 b__law_some_name
/-- 0 _law_script, 1 _law_jar_here, 2 _law_turn, 3 _law_name, 4 _law_word, 5 _law_spot, 6 _law_bent, 7 _law_thing -/
def b_law : SM := sSeq (sShare 1 (mCall (m__law_jar) [mVar 0]))
  (sSeq (sFor (mRange rng1 [mD (.int 12)]) (tName 2) (sSeq (sSet 3 (mCall (m__law_some_name) [mVar 1]))
  (sSeq (sSet 4 (mCall (m__law_of) [mVar 1, mCall (m__law_all_words) []]))
  (sSeq (sSet 5 (mCall (m__law_draw) [mVar 1, mBin fAdd (mAps fLen [mVar 3]) (mD (.int 1))]))
  (sSeq (sSet 6 (mBin fAdd (mBin fAdd (mSl (mVar 3) (mNoPart) (mPart (mVar 5))) (mCall (m__law_of) [mVar 1, mLst [mD (.str "A"), mD (.str "1"), mD (.str " "), mD (.str "("), mD (.str "-"), mD (.str ""), mD (.str "z"), mD (.str "abcdefgh"), mD (.str "{")]])) (mSl (mVar 3) (mPart (mVar 5)) (mNoPart))))
  (sFor (mItems (mLst [mVar 3, mVar 4, mBin fAdd (mVar 4) (mD (.str "s")), mSl (mVar 4) (mPart (mD (.int 1))) (mNoPart), mVar 6, mCall (m__law_wild) [mVar 1]])) (tName 7) (sIf (mNot (mTest (mCall (m__law_same 40) [mCall (m_is_name) [mVar 7], mCall (m__law_named) [mVar 7]]))) (sRet (mD (.bl false))) (sNil))))))))
  (sRet (mAndV (mBin (fEq false) (mD v_WORDS) (mAps fTuple [mCall (m__law_all_words) []])) (mCall (m__law_same 40) [mD v_DEEP, mD (.int 8)]))))
def m_law : FM := fnM 8 b_law
/-! ### scopes -/
abbrev N_is_name : List Str := ["thing", "sign"]
theorem sc_is_name : FnScope N_is_name ["thing"] (defScope s_is_name) := ⟨rfl, rfl, rfl, by decide +kernel, rfl, by decide +kernel, by decide +kernel⟩
abbrev N__law_jar : List Str := ["_law_script", "_law_seed", "_law_cell"]
theorem sc__law_jar : FnScope N__law_jar ["_law_script"] (defScope s__law_jar) := ⟨rfl, rfl, rfl, by decide +kernel, rfl, by decide +kernel, by decide +kernel⟩
abbrev N__law_draw : List Str := ["_law_jar_here", "_law_top", "_law_cell", "_law_digit"]
theorem sc__law_draw : FnScope N__law_draw ["_law_jar_here", "_law_top"] (defScope s__law_draw) := ⟨rfl, rfl, rfl, by decide +kernel, rfl, by decide +kernel, by decide +kernel⟩
abbrev N__law_of : List Str := ["_law_jar_here", "_law_some"]
theorem sc__law_of : FnScope N__law_of ["_law_jar_here", "_law_some"] (defScope s__law_of) := ⟨rfl, rfl, rfl, by decide +kernel, rfl, by decide +kernel, by decide +kernel⟩
abbrev N__law_same : List Str := ["_law_found", "_law_due", "_law_spot"]
theorem sc__law_same : FnScope N__law_same ["_law_found", "_law_due"] (defScope s__law_same) := ⟨rfl, rfl, rfl, by decide +kernel, rfl, by decide +kernel, by decide +kernel⟩
abbrev N__law_wild : List Str := ["_law_jar_here", "_law_things"]
theorem sc__law_wild : FnScope N__law_wild ["_law_jar_here"] (defScope s__law_wild) := ⟨rfl, rfl, rfl, by decide +kernel, rfl, by decide +kernel, by decide +kernel⟩
abbrev N__law_all_words : List Str := ["_law_words"]
theorem sc__law_all_words : FnScope N__law_all_words [] (defScope s__law_all_words) := ⟨rfl, rfl, rfl, by decide +kernel, rfl, by decide +kernel, by decide +kernel⟩
abbrev N__law_named : List Str := ["_law_thing", "_law_sign"]
theorem sc__law_named : FnScope N__law_named ["_law_thing"] (defScope s__law_named) := ⟨rfl, rfl, rfl, by decide +kernel, rfl, by decide +kernel, by decide +kernel⟩
abbrev N__law_some_name : List Str := ["_law_jar_here", "_law_letters", "_law_size", "_law_name", "_law_step"]
theorem sc__law_some_name : FnScope N__law_some_name ["_law_jar_here"] (defScope s__law_some_name) := ⟨rfl, rfl, rfl, by decide +kernel, rfl, by decide +kernel, by decide +kernel⟩
abbrev N_law : List Str := ["_law_script", "_law_jar_here", "_law_turn", "_law_name", "_law_word", "_law_spot", "_law_bent", "_law_thing"]
theorem sc_law : FnScope N_law ["_law_script"] (defScope s_law) := ⟨rfl, rfl, rfl, by decide +kernel, rfl, by decide +kernel, by decide +kernel⟩
/-! ### derivations -/
section
variable {P : Program} {w : World} {K : PySem.W.Frag} {mg : Str → Option Value} {base : Heap} {xm : XM}
theorem d_is_name (F : FunAt K mg "is_name" s_is_name) (h_all : mg "all" = none) (h_isinstance : mg "isinstance" = none) (h_len : mg "len" = none) (h_str : mg "str" = none) (k_LETTERS : Dat K mg "LETTERS" v_LETTERS) (k_LONGEST : Dat K mg "LONGEST" v_LONGEST) (k_WORDS : Dat K mg "WORDS" v_WORDS) : Def P w K mg base xm "is_name" 1 1 m_is_name := by
  refine def_ok (k := 0) F sc_is_name rfl rfl (fun _ _ _ _ _ _ us hl => match us, hl with | [_], _ => rfl) fun f cdv A outer s H N E hK hn en hr c hp => ?_
  unfold b_is_name
  exact s_cons (s_if (PW.pt (w_or (t_not (t_val (e_callB c cr_isi f_isi rfl h_isinstance bo_isinstance (p_cons (e_var c 0 (pv 0)) (p_cons (e_ty c rfl h_str bo_str) p_nil))))) (w_or (t_not (t_chain c op_le op_le f_le f_le (e_int c) (e_callB c call_len f_len rfl h_len bo_len (p_cons (e_var c 0 (pv 0)) p_nil)) (e_dat c rfl k_LONGEST))) (w_or1 (t_cmp c (op_inAll c.un) f_in (e_var c 0 (pv 0)) (e_dat c rfl k_WORDS) rfl))))) (s_one (s_ret en (e_bl c))) (s_nil))
        (s_one (s_ret en (e_callB c (cr_all c.calm) f_all rfl h_all bo_all (p_cons (e_comp (own := [("sign", 1)]) c (i_any c (e_var c 0 (pv 0))) (blkOk_by (own := [("sign", 1)]) (N := N_is_name) (sc := (defScope s_is_name)) (by decide +kernel)) (fun s H C cl fp => pg_name (i := 1) c.nd rfl (by first | exact Or.inl rfl | exact Or.inr rfl)) (fun N hn2 hK2 => tg_name (by omega)) (by decide) (fun s H C cl fp => fun N hn2 c => ts_nil) (fun s H C cl fp => fun N hn2 c => e_cmp c (op_inAll c.un) f_in (e_var c 1 (pv 1)) (e_dat c rfl k_LETTERS) rfl)) p_nil))))
theorem d__law_jar (F : FunAt K mg "_law_jar" s__law_jar) (h_len : mg "len" = none) (h_list : mg "list" = none) : Def P w K mg base xm "_law_jar" 1 1 m__law_jar := by
  refine def_ok (k := 0) F sc__law_jar rfl rfl (fun _ _ _ _ _ _ us hl => match us, hl with | [_], _ => rfl) fun f cdv A outer s H N E hK hn en hr c hp => ?_
  unfold b__law_jar
  exact s_cons (s_set (i := 1) c rfl (by first | exact Or.inl rfl | exact Or.inr rfl) (e_bin c op_addAll f_add (e_int c) (e_callB c call_len f_len rfl h_len bo_len (p_cons (e_var c 0 (pv 0)) p_nil))) (by omega))
        (s_cons (s_for c hp (i_any c (e_slice c (e_var c 0 (pv 0)) (o_none) (o_some (e_int c)))) (pg_name (i := 2) c.nd rfl (by first | exact Or.inl rfl | exact Or.inr rfl)) (tg_name (by omega)) (s_one (s_set (i := 1) c rfl (by first | exact Or.inl rfl | exact Or.inr rfl) (e_bin c op_mod f_mod (e_bin c op_addAll f_add (e_bin c op_addAll f_add (e_bin c op_mulAll f_mul (e_var c 1 (pv 1)) (e_int c)) (e_var c 2 (pv 2))) (e_int c)) (e_int c)) (by omega))))
        (s_one (s_ret en (e_lst c (d_cons (e_callTy c call_list_of f_list rfl h_list bo_list (p_cons (e_slice c (e_var c 0 (pv 0)) (o_none) (o_some (e_int c))) p_nil)) (d_cons (e_int c) (d_cons (e_int c) (d_cons (e_var c 1 (pv 1)) (d_cons (e_int c) d_nil)))))))))
theorem d__law_draw (F : FunAt K mg "_law_draw" s__law_draw) (h_len : mg "len" = none) : Def P w K mg base xm "_law_draw" 1 2 m__law_draw := by
  refine def_ok (k := 0) F sc__law_draw rfl rfl (fun _ _ _ _ _ _ us hl => match us, hl with | [_, _], _ => rfl) fun f cdv A outer s H N E hK hn en hr c hp => ?_
  unfold b__law_draw
  exact s_cons (s_if (PW.pt (w_and (t_cmp c op_lt f_lt (e_ix c ix_all f_ix (e_var c 0 (pv 0)) (e_int c) (fun _ _ => rfl)) (e_var c 1 (pv 1)) rfl) (w_and1 (t_cmp c op_lt f_lt (e_ix c ix_all f_ix (e_var c 0 (pv 0)) (e_int c) (fun _ _ => rfl)) (e_callB c call_len f_len rfl h_len bo_len (p_cons (e_ix c ix_all f_ix (e_var c 0 (pv 0)) (e_int c) (fun _ _ => rfl)) p_nil)) rfl)))) (s_cons (s_set (i := 2) c rfl (by first | exact Or.inl rfl | exact Or.inr rfl) (e_ix c ix_all f_ix (e_ix c ix_all f_ix (e_var c 0 (pv 0)) (e_int c) (fun _ _ => rfl)) (e_ix c ix_all f_ix (e_var c 0 (pv 0)) (e_int c) (fun _ _ => rfl)) (fun _ _ => rfl)) (by omega))
        (s_cons (s_put c (e_var c 0 (pv 0)) (e_int c) (e_bin c op_addAll f_add (e_ix c ix_all f_ix (e_var c 0 (pv 0)) (e_int c) (fun _ _ => rfl)) (e_int c)) set_list s_setL)
        (s_cons (s_put c (e_var c 0 (pv 0)) (e_int c) (e_bin c op_mod f_mod (e_bin c op_addAll f_add (e_bin c op_addAll f_add (e_bin c op_mulAll f_mul (e_ix c ix_all f_ix (e_var c 0 (pv 0)) (e_int c) (fun _ _ => rfl)) (e_int c)) (e_var c 2 (pv 2))) (e_ix c ix_all f_ix (e_var c 0 (pv 0)) (e_int c) (fun _ _ => rfl))) (e_int c)) set_list s_setL)
        (s_one (s_put c (e_var c 0 (pv 0)) (e_int c) (e_if (t_cmp c op_ge f_ge (e_var c 2 (pv 2)) (e_bin c op_pow f_pow (e_int c) (e_int c)) rfl) (e_var c 2 (pv 2)) (e_int c)) set_list s_setL))))) (s_nil))
        (s_cons (s_if (t_cmp c op_ge f_ge (e_ix c ix_all f_ix (e_var c 0 (pv 0)) (e_int c) (fun _ _ => rfl)) (e_var c 1 (pv 1)) rfl) (s_cons (s_set (i := 3) c rfl (by first | exact Or.inl rfl | exact Or.inr rfl) (e_bin c op_mod f_mod (e_ix c ix_all f_ix (e_var c 0 (pv 0)) (e_int c) (fun _ _ => rfl)) (e_var c 1 (pv 1))) (by omega))
        (s_cons (s_put c (e_var c 0 (pv 0)) (e_int c) (e_bin c op_fdiv f_fdiv (e_ix c ix_all f_ix (e_var c 0 (pv 0)) (e_int c) (fun _ _ => rfl)) (e_var c 1 (pv 1))) set_list s_setL)
        (s_one (s_ret en (e_var c 3 (pv 3)))))) (s_nil))
        (s_cons (s_put c (e_var c 0 (pv 0)) (e_int c) (e_bin c op_addAll f_add (e_ix c ix_all f_ix (e_var c 0 (pv 0)) (e_int c) (fun _ _ => rfl)) (e_int c)) set_list s_setL)
        (s_cons (s_put c (e_var c 0 (pv 0)) (e_int c) (e_bin c op_mod f_mod (e_bin c op_addAll f_add (e_bin c op_addAll f_add (e_bin c op_addAll f_add (e_bin c op_pow f_pow (e_ix c ix_all f_ix (e_var c 0 (pv 0)) (e_int c) (fun _ _ => rfl)) (e_int c)) (e_bin c op_mulAll f_mul (e_int c) (e_ix c ix_all f_ix (e_var c 0 (pv 0)) (e_int c) (fun _ _ => rfl)))) (e_bin c op_fdiv f_fdiv (e_ix c ix_all f_ix (e_var c 0 (pv 0)) (e_int c) (fun _ _ => rfl)) (e_int c))) (e_int c)) (e_int c)) set_list s_setL)
        (s_one (s_ret en (e_bin c op_mod f_mod (e_bin c op_fdiv f_fdiv (e_ix c ix_all f_ix (e_var c 0 (pv 0)) (e_int c) (fun _ _ => rfl)) (e_int c)) (e_var c 1 (pv 1))))))))
theorem d__law_of (F : FunAt K mg "_law_of" s__law_of) (h_len : mg "len" = none) (d__law_draw : Def P w K mg base xm "_law_draw" 1 2 (m__law_draw)) : Def P w K mg base xm "_law_of" 2 2 m__law_of := by
  refine def_ok (k := 1) F sc__law_of rfl rfl (fun _ _ _ _ _ _ us hl => match us, hl with | [_, _], _ => rfl) fun f cdv A outer s H N E hK hn en hr c hp => ?_
  unfold b__law_of
  exact s_one (s_ret en (e_ix c ix_all f_ix (e_var c 1 (pv 1)) (e_def c d__law_draw hr rfl (d_cons (e_var c 0 (pv 0)) (d_cons (e_callB c call_len f_len rfl h_len bo_len (p_cons (e_var c 1 (pv 1)) p_nil)) d_nil)) (hk := by omega)) (fun _ _ => rfl)))
theorem d__law_same (F : FunAt K mg "_law_same" s__law_same) (h_all : mg "all" = none) (h_bool : mg "bool" = none) (h_int : mg "int" = none) (h_isinstance : mg "isinstance" = none) (h_len : mg "len" = none) (h_list : mg "list" = none) (h_range : mg "range" = none) (h_str : mg "str" = none) (h_tuple : mg "tuple" = none) : ∀ n : Nat, Def P w K mg base xm "_law_same" (0 + n) 2 (m__law_same n)
  | 0 => def_none F (ps := ["_law_found", "_law_due"]) rfl (fun _ _ _ _ _ _ us hl => match us, hl with | [_, _], _ => rfl)
  | n + 1 => by
    have d__law_same := d__law_same F h_all h_bool h_int h_isinstance h_len h_list h_range h_str h_tuple n
    refine def_ok (k := 0 + n) F sc__law_same rfl rfl (fun _ _ _ _ _ _ us hl => match us, hl with | [_, _], _ => rfl) fun f cdv A outer s H N E hK hn en hr c hp => ?_
    unfold b__law_same
    exact s_cons (s_if (t_cmp c op_isN f_isN (e_var c 1 (pv 1)) (e_non c) rfl) (s_one (s_ret en (e_cmp c op_isN f_isN (e_var c 0 (pv 0)) (e_non c) rfl))) (s_nil))
        (s_cons (s_if (PW.pt (w_or (t_val (e_callB c cr_isi f_isi rfl h_isinstance bo_isinstance (p_cons (e_var c 1 (pv 1)) (p_cons (e_ty c rfl h_bool bo_bool) p_nil)))) (w_or1 (t_val (e_callB c cr_isi f_isi rfl h_isinstance bo_isinstance (p_cons (e_var c 0 (pv 0)) (p_cons (e_ty c rfl h_bool bo_bool) p_nil))))))) (s_one (s_ret en (v_and (e_callB c cr_isi f_isi rfl h_isinstance bo_isinstance (p_cons (e_var c 1 (pv 1)) (p_cons (e_ty c rfl h_bool bo_bool) p_nil))) (v_and (e_callB c cr_isi f_isi rfl h_isinstance bo_isinstance (p_cons (e_var c 0 (pv 0)) (p_cons (e_ty c rfl h_bool bo_bool) p_nil))) (v_one (e_cmp c (op_eqD (by have := c.un; omega)) f_eq (e_var c 0 (pv 0)) (e_var c 1 (pv 1)) rfl)))))) (s_nil))
        (s_cons (s_if (t_val (e_callB c cr_isi f_isi rfl h_isinstance bo_isinstance (p_cons (e_var c 1 (pv 1)) (p_cons (e_tup c (d_cons (e_ty c rfl h_int bo_int) (d_cons (e_ty c rfl h_str bo_str) d_nil))) p_nil)))) (s_one (s_ret en (v_and (e_callB c cr_isi f_isi rfl h_isinstance bo_isinstance (p_cons (e_var c 0 (pv 0)) (p_cons (e_tup c (d_cons (e_ty c rfl h_int bo_int) (d_cons (e_ty c rfl h_str bo_str) d_nil))) p_nil))) (v_and (e_cmp c (op_eqD (by have := c.un; omega)) f_eq (e_callB c cr_isi f_isi rfl h_isinstance bo_isinstance (p_cons (e_var c 0 (pv 0)) (p_cons (e_ty c rfl h_int bo_int) p_nil))) (e_callB c cr_isi f_isi rfl h_isinstance bo_isinstance (p_cons (e_var c 1 (pv 1)) (p_cons (e_ty c rfl h_int bo_int) p_nil))) rfl) (v_one (e_cmp c (op_eqD (by have := c.un; omega)) f_eq (e_var c 0 (pv 0)) (e_var c 1 (pv 1)) rfl)))))) (s_nil))
        (s_cons (s_if (PW.pt (w_or (t_cmp c (op_neD (by have := c.un; omega)) f_ne (e_callB c cr_isi f_isi rfl h_isinstance bo_isinstance (p_cons (e_var c 1 (pv 1)) (p_cons (e_ty c rfl h_list bo_list) p_nil))) (e_callB c cr_isi f_isi rfl h_isinstance bo_isinstance (p_cons (e_var c 0 (pv 0)) (p_cons (e_ty c rfl h_list bo_list) p_nil))) rfl) (w_or1 (t_cmp c (op_neD (by have := c.un; omega)) f_ne (e_callB c cr_isi f_isi rfl h_isinstance bo_isinstance (p_cons (e_var c 1 (pv 1)) (p_cons (e_ty c rfl h_tuple bo_tuple) p_nil))) (e_callB c cr_isi f_isi rfl h_isinstance bo_isinstance (p_cons (e_var c 0 (pv 0)) (p_cons (e_ty c rfl h_tuple bo_tuple) p_nil))) rfl)))) (s_one (s_ret en (e_bl c))) (s_nil))
        (s_cons (s_if (PW.pt (w_or (t_not (t_val (e_callB c cr_isi f_isi rfl h_isinstance bo_isinstance (p_cons (e_var c 0 (pv 0)) (p_cons (e_tup c (d_cons (e_ty c rfl h_list bo_list) (d_cons (e_ty c rfl h_tuple bo_tuple) d_nil))) p_nil))))) (w_or1 (t_cmp c (op_neD (by have := c.un; omega)) f_ne (e_callB c call_len f_len rfl h_len bo_len (p_cons (e_var c 0 (pv 0)) p_nil)) (e_callB c call_len f_len rfl h_len bo_len (p_cons (e_var c 1 (pv 1)) p_nil)) rfl)))) (s_one (s_ret en (e_bl c))) (s_nil))
        (s_one (s_ret en (e_callB c (cr_all c.calm) f_all rfl h_all bo_all (p_cons (e_comp (own := [("_law_spot", 2)]) c (i_range1 c rfl h_range (d_cons (e_callB c call_len f_len rfl h_len bo_len (p_cons (e_var c 1 (pv 1)) p_nil)) d_nil)) (blkOk_by (own := [("_law_spot", 2)]) (N := N__law_same) (sc := (defScope s__law_same)) (by decide +kernel)) (fun s H C cl fp => pg_name (i := 2) c.nd rfl (by first | exact Or.inl rfl | exact Or.inr rfl)) (fun N hn2 hK2 => tg_name (by omega)) (by decide) (fun s H C cl fp => fun N hn2 c => ts_nil) (fun s H C cl fp => fun N hn2 c => e_def c d__law_same hr rfl (d_cons (e_ix c ix_all f_ix (e_var c 0 (pv 0)) (e_var c 2 (pv 2)) (fun _ _ => rfl)) (d_cons (e_ix c ix_all f_ix (e_var c 1 (pv 1)) (e_var c 2 (pv 2)) (fun _ _ => rfl)) d_nil)) (hk := by omega))) p_nil))))))))
theorem d__law_wild (F : FunAt K mg "_law_wild" s__law_wild) (d__law_of : Def P w K mg base xm "_law_of" 2 2 (m__law_of)) : Def P w K mg base xm "_law_wild" 3 1 m__law_wild := by
  refine def_ok (k := 2) F sc__law_wild rfl rfl (fun _ _ _ _ _ _ us hl => match us, hl with | [_], _ => rfl) fun f cdv A outer s H N E hK hn en hr c hp => ?_
  unfold b__law_wild
  exact s_cons (s_set (i := 1) c rfl (by first | exact Or.inl rfl | exact Or.inr rfl) (e_lst c (d_cons (e_non c) (d_cons (e_bl c) (d_cons (e_int c) (d_cons (e_neg (e_int c)) (d_cons (e_str c) (d_cons (e_str c) (d_cons (e_lst c (d_nil)) (d_cons (e_tup c (d_nil)) (d_cons (e_dict0 c) (d_cons (e_tup c (d_cons (e_int c) d_nil)) (d_cons (e_tup c (d_cons (e_tup c (d_cons (e_int c) d_nil)) (d_cons (e_int c) d_nil))) (d_cons (e_lst c (d_cons (e_lst c (d_cons (e_int c) d_nil)) d_nil)) (d_cons (e_tup c (d_cons (e_tup c (d_cons (e_bl c) d_nil)) d_nil)) (d_cons (e_tup c (d_cons (e_tup c (d_cons (e_int c) d_nil)) d_nil)) (d_cons (e_tup c (d_cons (e_tup c (d_cons (e_neg (e_int c)) d_nil)) d_nil)) (d_cons (e_tup c (d_cons (e_non c) d_nil)) d_nil))))))))))))))))) (by omega))
        (s_one (s_ret en (e_def c d__law_of hr rfl (d_cons (e_var c 0 (pv 0)) (d_cons (e_var c 1 (pv 1)) d_nil)) (hk := by omega))))
theorem d__law_all_words (F : FunAt K mg "_law_all_words" s__law_all_words) : Def P w K mg base xm "_law_all_words" 1 0 m__law_all_words := by
  refine def_ok (k := 0) F sc__law_all_words rfl rfl (fun _ _ _ _ _ _ us hl => match us, hl with | [], _ => rfl) fun f cdv A outer s H N E hK hn en hr c hp => ?_
  unfold b__law_all_words
  exact s_cons (s_set (i := 0) c rfl (by first | exact Or.inl rfl | exact Or.inr rfl) (e_lst c (d_cons (e_str c) (d_cons (e_str c) (d_cons (e_str c) (d_cons (e_str c) (d_cons (e_str c) (d_cons (e_str c) (d_cons (e_str c) (d_cons (e_str c) d_nil))))))))) (by omega))
        (s_one (s_ret en (e_bin c op_addAll f_add (e_var c 0 (pv 0)) (e_lst c (d_cons (e_str c) (d_cons (e_str c) (d_cons (e_str c) (d_cons (e_str c) (d_cons (e_str c) (d_cons (e_str c) (d_cons (e_str c) d_nil)))))))))))
theorem d__law_named (F : FunAt K mg "_law_named" s__law_named) (h_all : mg "all" = none) (h_isinstance : mg "isinstance" = none) (h_len : mg "len" = none) (h_str : mg "str" = none) (d__law_all_words : Def P w K mg base xm "_law_all_words" 1 0 (m__law_all_words)) : Def P w K mg base xm "_law_named" 2 1 m__law_named := by
  refine def_ok (k := 1) F sc__law_named rfl rfl (fun _ _ _ _ _ _ us hl => match us, hl with | [_], _ => rfl) fun f cdv A outer s H N E hK hn en hr c hp => ?_
  unfold b__law_named
  exact s_cons (s_if (PW.pt (w_or (t_not (t_val (e_callB c cr_isi f_isi rfl h_isinstance bo_isinstance (p_cons (e_var c 0 (pv 0)) (p_cons (e_ty c rfl h_str bo_str) p_nil))))) (w_or (t_not (t_chain c op_le op_le f_le f_le (e_int c) (e_callB c call_len f_len rfl h_len bo_len (p_cons (e_var c 0 (pv 0)) p_nil)) (e_int c))) (w_or1 (t_cmp c (op_inAll c.un) f_in (e_var c 0 (pv 0)) (e_def0 c d__law_all_words hr rfl (hk := by omega)) rfl))))) (s_one (s_ret en (e_bl c))) (s_nil))
        (s_one (s_ret en (e_callB c (cr_all c.calm) f_all rfl h_all bo_all (p_cons (e_comp (own := [("_law_sign", 1)]) c (i_any c (e_var c 0 (pv 0))) (blkOk_by (own := [("_law_sign", 1)]) (N := N__law_named) (sc := (defScope s__law_named)) (by decide +kernel)) (fun s H C cl fp => pg_name (i := 1) c.nd rfl (by first | exact Or.inl rfl | exact Or.inr rfl)) (fun N hn2 hK2 => tg_name (by omega)) (by decide) (fun s H C cl fp => fun N hn2 c => ts_nil) (fun s H C cl fp => fun N hn2 c => e_cmp c (op_inAll c.un) f_in (e_var c 1 (pv 1)) (e_str c) rfl)) p_nil))))
theorem d__law_some_name (F : FunAt K mg "_law_some_name" s__law_some_name) (h_range : mg "range" = none) (d__law_draw : Def P w K mg base xm "_law_draw" 1 2 (m__law_draw)) (d__law_named : Def P w K mg base xm "_law_named" 2 1 (m__law_named)) (d__law_of : Def P w K mg base xm "_law_of" 2 2 (m__law_of)) : Def P w K mg base xm "_law_some_name" 3 1 m__law_some_name := by
  refine def_ok (k := 2) F sc__law_some_name rfl rfl (fun _ _ _ _ _ _ us hl => match us, hl with | [_], _ => rfl) fun f cdv A outer s H N E hK hn en hr c hp => ?_
  unfold b__law_some_name
  exact s_cons (s_set (i := 1) c rfl (by first | exact Or.inl rfl | exact Or.inr rfl) (e_str c) (by omega))
        (s_cons (s_set (i := 2) c rfl (by first | exact Or.inl rfl | exact Or.inr rfl) (e_def c d__law_of hr rfl (d_cons (e_var c 0 (pv 0)) (d_cons (e_lst c (d_cons (e_int c) (d_cons (e_int c) (d_cons (e_bin c op_addAll f_add (e_int c) (e_def c d__law_draw hr rfl (d_cons (e_var c 0 (pv 0)) (d_cons (e_int c) d_nil)) (hk := by omega))) d_nil)))) d_nil)) (hk := by omega)) (by omega))
        (s_cons (s_set (i := 3) c rfl (by first | exact Or.inl rfl | exact Or.inr rfl) (e_join c (e_str c) (e_comp (own := [("_law_step", 4)]) c (i_range1 c rfl h_range (d_cons (e_var c 2 (pv 2)) d_nil)) (blkOk_by (own := [("_law_step", 4)]) (N := N__law_some_name) (sc := (defScope s__law_some_name)) (by decide +kernel)) (fun s H C cl fp => pg_name (i := 4) c.nd rfl (by first | exact Or.inl rfl | exact Or.inr rfl)) (fun N hn2 hK2 => tg_name (by omega)) (by decide) (fun s H C cl fp => fun N hn2 c => ts_nil) (fun s H C cl fp => fun N hn2 c => e_ix c ix_all f_ix (e_var c 1 (pv 1)) (e_def c d__law_draw hr rfl (d_cons (e_var c 0 (pv 0)) (d_cons (e_int c) d_nil)) (hk := by omega)) (fun _ _ => rfl)))) (by omega))
        (s_one (s_ret en (e_if (t_val (e_def c d__law_named hr rfl (d_cons (e_var c 3 (pv 3)) d_nil) (hk := by omega))) (e_var c 3 (pv 3)) (e_str c))))))
theorem d_law {f : Addr} {fd : FuncData} (F : FunD K "law" "law" (defArgs s_law) (defBody s_law) (defScope s_law) [] [] f fd) (h_len : mg "len" = none) (h_range : mg "range" = none) (h_tuple : mg "tuple" = none) (k_DEEP : Dat K mg "DEEP" v_DEEP) (k_WORDS : Dat K mg "WORDS" v_WORDS) (d__law_all_words : Def P w K mg base xm "_law_all_words" 1 0 (m__law_all_words)) (d__law_draw : Def P w K mg base xm "_law_draw" 1 2 (m__law_draw)) (d__law_jar : Def P w K mg base xm "_law_jar" 1 1 (m__law_jar)) (d__law_named : Def P w K mg base xm "_law_named" 2 1 (m__law_named)) (d__law_of : Def P w K mg base xm "_law_of" 2 2 (m__law_of)) (d__law_same : Def P w K mg base xm "_law_same" 40 2 (m__law_same 40)) (d__law_some_name : Def P w K mg base xm "_law_some_name" 3 1 (m__law_some_name)) (d__law_wild : Def P w K mg base xm "_law_wild" 3 1 (m__law_wild)) (d_is_name : Def P w K mg base xm "is_name" 1 1 (m_is_name)) : FnOk P w K mg base (L2.CX P w) 41 f fd ["_law_script"] (spF K xm 1 m_law) := by
  refine fnD_ok (k := 40) F sc_law rfl rfl fun f cdv A outer s H N E hK hn en hr c hp => ?_
  unfold b_law
  exact s_cons (s_share (i := 1) c rfl (by first | exact Or.inl rfl | exact Or.inr rfl) (e_def c d__law_jar hr rfl (d_cons (e_var c 0 (pv 0)) d_nil) (hk := by omega)) (by omega))
        (s_cons (s_for c hp (i_range1 c rfl h_range (d_cons (e_int c) d_nil)) (pg_name (i := 2) c.nd rfl (by first | exact Or.inl rfl | exact Or.inr rfl)) (tg_name (by omega)) (s_cons (s_set (i := 3) c rfl (by first | exact Or.inl rfl | exact Or.inr rfl) (e_def c d__law_some_name hr rfl (d_cons (e_var c 1 (pv 1)) d_nil) (hk := by omega)) (by omega))
        (s_cons (s_set (i := 4) c rfl (by first | exact Or.inl rfl | exact Or.inr rfl) (e_def c d__law_of hr rfl (d_cons (e_var c 1 (pv 1)) (d_cons (e_def0 c d__law_all_words hr rfl (hk := by omega)) d_nil)) (hk := by omega)) (by omega))
        (s_cons (s_set (i := 5) c rfl (by first | exact Or.inl rfl | exact Or.inr rfl) (e_def c d__law_draw hr rfl (d_cons (e_var c 1 (pv 1)) (d_cons (e_bin c op_addAll f_add (e_callB c call_len f_len rfl h_len bo_len (p_cons (e_var c 3 (pv 3)) p_nil)) (e_int c)) d_nil)) (hk := by omega)) (by omega))
        (s_cons (s_set (i := 6) c rfl (by first | exact Or.inl rfl | exact Or.inr rfl) (e_bin c op_addAll f_add (e_bin c op_addAll f_add (e_slice c (e_var c 3 (pv 3)) (o_none) (o_some (e_var c 5 (pv 5)))) (e_def c d__law_of hr rfl (d_cons (e_var c 1 (pv 1)) (d_cons (e_lst c (d_cons (e_str c) (d_cons (e_str c) (d_cons (e_str c) (d_cons (e_str c) (d_cons (e_str c) (d_cons (e_str c) (d_cons (e_str c) (d_cons (e_str c) (d_cons (e_str c) d_nil)))))))))) d_nil)) (hk := by omega))) (e_slice c (e_var c 3 (pv 3)) (o_some (e_var c 5 (pv 5))) (o_none))) (by omega))
        (s_one (s_for c hp (i_any c (e_lst c (d_cons (e_var c 3 (pv 3)) (d_cons (e_var c 4 (pv 4)) (d_cons (e_bin c op_addAll f_add (e_var c 4 (pv 4)) (e_str c)) (d_cons (e_slice c (e_var c 4 (pv 4)) (o_some (e_int c)) (o_none)) (d_cons (e_var c 6 (pv 6)) (d_cons (e_def c d__law_wild hr rfl (d_cons (e_var c 1 (pv 1)) d_nil) (hk := by omega)) d_nil)))))))) (pg_name (i := 7) c.nd rfl (by first | exact Or.inl rfl | exact Or.inr rfl)) (tg_name (by omega)) (s_one (s_if (t_not (t_val (e_def c d__law_same hr rfl (d_cons (e_def c d_is_name hr rfl (d_cons (e_var c 7 (pv 7)) d_nil) (hk := by omega)) (d_cons (e_def c d__law_named hr rfl (d_cons (e_var c 7 (pv 7)) d_nil) (hk := by omega)) d_nil)) (hk := by omega)))) (s_one (s_ret en (e_bl c))) (s_nil))))))))))
        (s_one (s_ret en (v_and (e_cmp c (op_eqD (by have := c.un; omega)) f_eq (e_dat c rfl k_WORDS) (e_callTy c call_tuple_of f_tuple rfl h_tuple bo_tuple (p_cons (e_def0 c d__law_all_words hr rfl (hk := by omega)) p_nil)) rfl) (v_one (e_def c d__law_same hr rfl (d_cons (e_dat c rfl k_DEEP) (d_cons (e_int c) d_nil)) (hk := by omega)))))))
end
/-! ### the head -/
def fn : List He.DefD := [dfn "is_name" s_is_name, dfn "_law_jar" s__law_jar, dfn "_law_draw" s__law_draw, dfn "_law_of" s__law_of, dfn "_law_same" s__law_same, dfn "_law_wild" s__law_wild, dfn "_law_all_words" s__law_all_words, dfn "_law_named" s__law_named, dfn "_law_some_name" s__law_some_name, dfn "law" s_law]
def fa : List He.Fa := [.glo "is_name", .glo "_law_jar", .glo "_law_draw", .glo "_law_of", .glo "_law_same", .glo "_law_wild", .glo "_law_all_words", .glo "_law_named", .glo "_law_some_name", .glo "law", .free "all", .free "bool", .free "int", .free "isinstance", .free "len", .free "list", .free "range", .free "str", .free "tuple"]
def ex (K : PySem.W.Frag) : Bool := datB K "DEEP" v_DEEP && datB K "LETTERS" v_LETTERS && datB K "LONGEST" v_LONGEST && datB K "WORDS" v_WORDS
abbrev Ro : PySem.W.OpenRow := PySem.W.OpenLaw.row PySem.Challenge.rw_selfhold_k20_names_and_words
abbrev hk : PySem.W.Hook := hookM 4 fa fn ex
def ob (s : PySem.W.SharedT) : AlM := obsM 4 fa fn ex (HandSHeadRun.getT s)
theorem ob_eq (s : PySem.W.SharedT) : ob s = hk.obs s.abs := obsM_eq (HandSHeadRun.getT_eq s)
def loo : List Str := ["WORDS", "DEEP", "LONGEST", "LETTERS", "is_name", "_law_jar", "_law_draw", "_law_of", "_law_same", "_law_wild", "_law_all_words", "_law_named", "_law_some_name"]
theorem run (w : World) : HandSHeadRun.RunEq Ro (PySem.W.view Ro.prog [15]) hk ob 4000 loo w := by
  intro os
  kernel_rfl
theorem facts {P : Program} {w : World} {K : PySem.W.Frag} {h : Heap} {mg : Str → Option Value} {xm : XM} {a : Addr} (X : K.In h) (G : h.Ns mainGlobals mg) (c : He.SaysD fa fn K) (x : ex K = true) (ha : mg "law" = some (.ref a)) : LawDef P w K mg xm 41 m_law "_law_script" a := by
  simp only [ex, Bool.and_eq_true] at x
  obtain ⟨⟨⟨x_DEEP, x_LETTERS⟩, x_LONGEST⟩, x_WORDS⟩ := x
  have k_DEEP : Dat K mg "DEEP" v_DEEP := dat_ok X G x_DEEP
  have k_LETTERS : Dat K mg "LETTERS" v_LETTERS := dat_ok X G x_LETTERS
  have k_LONGEST : Dat K mg "LONGEST" v_LONGEST := dat_ok X G x_LONGEST
  have k_WORDS : Dat K mg "WORDS" v_WORDS := dat_ok X G x_WORDS
  have h_all : mg "all" = none := He.free_ok X G (c.fact 10 (f := .free "all") rfl)
  have h_bool : mg "bool" = none := He.free_ok X G (c.fact 11 (f := .free "bool") rfl)
  have h_int : mg "int" = none := He.free_ok X G (c.fact 12 (f := .free "int") rfl)
  have h_isinstance : mg "isinstance" = none := He.free_ok X G (c.fact 13 (f := .free "isinstance") rfl)
  have h_len : mg "len" = none := He.free_ok X G (c.fact 14 (f := .free "len") rfl)
  have h_list : mg "list" = none := He.free_ok X G (c.fact 15 (f := .free "list") rfl)
  have h_range : mg "range" = none := He.free_ok X G (c.fact 16 (f := .free "range") rfl)
  have h_str : mg "str" = none := He.free_ok X G (c.fact 17 (f := .free "str") rfl)
  have h_tuple : mg "tuple" = none := He.free_ok X G (c.fact 18 (f := .free "tuple") rfl)
  have F_is_name : FunAt K mg "is_name" s_is_name := funAt X G c "is_name" s_is_name 0 0 rfl rfl
  have F__law_jar : FunAt K mg "_law_jar" s__law_jar := funAt X G c "_law_jar" s__law_jar 1 1 rfl rfl
  have F__law_draw : FunAt K mg "_law_draw" s__law_draw := funAt X G c "_law_draw" s__law_draw 2 2 rfl rfl
  have F__law_of : FunAt K mg "_law_of" s__law_of := funAt X G c "_law_of" s__law_of 3 3 rfl rfl
  have F__law_same : FunAt K mg "_law_same" s__law_same := funAt X G c "_law_same" s__law_same 4 4 rfl rfl
  have F__law_wild : FunAt K mg "_law_wild" s__law_wild := funAt X G c "_law_wild" s__law_wild 5 5 rfl rfl
  have F__law_all_words : FunAt K mg "_law_all_words" s__law_all_words := funAt X G c "_law_all_words" s__law_all_words 6 6 rfl rfl
  have F__law_named : FunAt K mg "_law_named" s__law_named := funAt X G c "_law_named" s__law_named 7 7 rfl rfl
  have F__law_some_name : FunAt K mg "_law_some_name" s__law_some_name := funAt X G c "_law_some_name" s__law_some_name 8 8 rfl rfl
  have F_law : FunAt K mg "law" s_law := funAt X G c "law" s_law 9 9 rfl rfl
  obtain ⟨f, fd, hm, F_law⟩ := F_law
  cases hm.symm.trans ha
  refine ⟨fd, fun s u => FunD.bindsA (ps := ["_law_script"]) F_law (fun _ _ _ _ _ _ us hl => match us, hl with | [_], _ => rfl) s [u] rfl, fun base => ?_⟩
  have d_is_name : Def P w K mg base xm "is_name" 1 1 m_is_name := d_is_name F_is_name h_all h_isinstance h_len h_str k_LETTERS k_LONGEST k_WORDS
  have d__law_jar : Def P w K mg base xm "_law_jar" 1 1 m__law_jar := d__law_jar F__law_jar h_len h_list
  have d__law_draw : Def P w K mg base xm "_law_draw" 1 2 m__law_draw := d__law_draw F__law_draw h_len
  have d__law_of : Def P w K mg base xm "_law_of" 2 2 m__law_of := d__law_of F__law_of h_len d__law_draw
  have d__law_same : Def P w K mg base xm "_law_same" 40 2 (m__law_same 40) := d__law_same F__law_same h_all h_bool h_int h_isinstance h_len h_list h_range h_str h_tuple 40
  have d__law_wild : Def P w K mg base xm "_law_wild" 3 1 m__law_wild := d__law_wild F__law_wild d__law_of
  have d__law_all_words : Def P w K mg base xm "_law_all_words" 1 0 m__law_all_words := d__law_all_words F__law_all_words
  have d__law_named : Def P w K mg base xm "_law_named" 2 1 m__law_named := d__law_named F__law_named h_all h_isinstance h_len h_str d__law_all_words
  have d__law_some_name : Def P w K mg base xm "_law_some_name" 3 1 m__law_some_name := d__law_some_name F__law_some_name h_range d__law_draw d__law_named d__law_of
  exact d_law F_law h_len h_range h_tuple k_DEEP k_WORDS d__law_all_words d__law_draw d__law_jar d__law_named d__law_of d__law_same d__law_some_name d__law_wild d_is_name
/-- the row, from the plain law -/
theorem row_of (law : ∀ ns : List Int, ns.length ≤ 63 → ∃ S, m_law [.scr ns] [] = .ok (.d (.bl true)) S) : PySem.Challenge.rw_selfhold_k20_names_and_words.Holds := by
  open PySem PySem.W PySem.Calls PyProof.Rows in
  w_on; o_law
  refine HandSHeadRun.head_any (r := Ro) (q := PySem.W.view Ro.prog [15]) (H := hk) (ob := ob) (M := 4000) (loose := loo) (d := HandSHeadRun.topDef Ro.prog 15) (kwd := []) ob_eq
    (by kernel_rfl) (fun s => by kernel_rfl) run (by kernel_rfl) (by kernel_rfl) (by kernel_rfl) (by rfl) (by first | assumption | decide +kernel) (by decide +kernel) ⟨rfl, rfl, rfl, rfl, rfl, by decide +kernel⟩ ?hw ?hc
  case hw => w_witness2
  case hc => exact walk_law (l := PySem.Challenge.rw_selfhold_k20_names_and_words) (n := 63) (k := 41) (x := "_law_script") (F := m_law) rfl (by decide) (by kernel_rfl) ⟨rfl, by decide, by decide⟩ (by kernel_rfl) (fun w K mg h a X G c x ha => ⟨xm0, facts X G c x ha⟩) law
end K20

set_option Elab.async false
set_option linter.all false
set_option maxRecDepth 100000
set_option maxHeartbeats 1000000
namespace K20
open PySem PySem.Spec PyProof.Rows L2 Mx Lib
theorem len_of {s : String} {n : Nat} (h : (Str.ofString s).length = n := by rfl) : (Str.ofString s).length = n := h
theorem cutS_le (s : Str) (lo hi : Option Int) : (cutS s lo hi).length ≤ s.length := by
  unfold cutS
  simp only [Str.length]
  simp
  try omega
theorem app_len (x y : Str) : (x ++ y).length = x.length + y.length := by
  show (x.cps ++ y.cps).size = _
  rw [Array.size_append]
  rfl
theorem f_addS1 {x y : Str} (h : x.length + y.length ≤ sizeLine) : fAdd (.str x) (.str y) = some (.d (.str (x ++ y))) := by
  simp only [fAdd]
  rw [if_pos h]
theorem line : sizeLine = 16777216 := by decide
theorem nameB_len {s : Str} (h : nameB s = true) : 1 ≤ s.length ∧ s.length ≤ 8 := by
  simp only [nameB, Bool.and_eq_true, decide_eq_true_eq] at h
  exact ⟨h.1.1.1, h.1.1.2⟩
def wild : List D := [.non, .bl true, .int 5, .int (-1), .str "", .str "ab", .lst [], .tup [], .dct [], .tup [.int 0], .tup [.tup [.int 0], .int 0], .lst [.lst [.int 0]], .tup [.tup [.bl true]], .tup [.tup [.int 1]], .tup [.tup [.int (-1)]], .tup [.non]]
theorem wild_ok {j : Jar} (ok : j.Ok) : ∃ (x : D) (j' : Jar), m__law_wild [.obj 0] [jarC j] = .ok (.d x) [jarC j'] ∧ x ∈ wild ∧ j'.Ok := by
  obtain ⟨x, j', e, hx, ok'⟩ := of_ok ok (T := []) (xs := wild) (by decide) (by decide)
  refine ⟨x, j', ?_, hx, ok'⟩
  have e16 : (16 : Nat) ≤ sizeLine := by decide
  have e0 : (0 : Nat) ≤ sizeLine := by decide
  have e1 : (1 : Nat) ≤ sizeLine := by decide
  have e2 : (2 : Nat) ≤ sizeLine := by decide
  unfold wild at e
  simp only [m__law_wild, fnM, b__law_wild, env0_2_1, x_seq, x_nil, x_pass, x_break, x_cont, x_set, x_share, x_putd, x_putt, x_puto, x_putsh, x_expr, x_ret, x_retN, x_if, x_for, x_outd, x_outt, x_outo, x_var, x_d, x_bin, x_opts, x_optn, x_rvd, x_rvn, x_frd, x_frt, x_fro, x_Cl, x_Cd, x_tod, x_tot, x_too, x_lk1, x_lk2, x_lk3, x_lk4, x_lk5, x_lk6, x_lk7, x_lk8, x_lk9, x_lk10, x_lookO, x_peekd, x_peeko, x_pk2, x_asB, x_test, x_not, x_and, x_or, x_ife, x_andV, x_orV, x_notV, x_ret0, x_chain, x_bnd, x_D0, x_D1, x_P0, x_P1, x_pks0, x_pks1, x_aps, x_tup, x_lst, x_dict0, x_call, x_ofok, x_items, x_range, x_sl, x_part, x_nopart, x_asI, x_mut, x_mutK, x_getO, x_getS, x_putO, x_putS, x_isLst, x_put, x_aug, x_str1, x_isStr, x_neg, x_endC, x_tName, x_yes, R.to_ok, R.to_stuck, R.to_exc, bind_ok, bind_stuck, bind_exc, RS.bind_nx, RS.bind_ret, RS.bind_bk, RS.bind_ct, RS.bind_stuck, RS.bind_exc, List.getElem?_cons_zero, List.getElem?_cons_succ, List.getElem?_nil, List.set_cons_zero, List.set_cons_succ, List.set_nil, List.length_cons, List.length_nil, if_true, if_false, Bool.false_eq_true, reduceIte, Bool.not_true, Bool.not_false, ite_true, ite_false, wipeE, backE, keepD, List.getD_cons_zero, List.getD_cons_succ, Option.bind_some, Option.map_some, Nat.zero_add, Nat.reduceAdd, e16, e0, e1, e2, e]
theorem wild_ty {x : D} (h : x ∈ wild) : ∃ t, tyN x = some t := by
  have : ∀ x ∈ wild, (tyN x).isSome = true := by
    intro x hx
    simp only [wild, List.mem_cons, List.not_mem_nil, or_false] at hx
    rcases hx with h | h | h | h | h | h | h | h | h | h | h | h | h | h | h | h <;> subst h <;> rfl
  exact Option.isSome_iff_exists.mp (this x h)
theorem env0_5_1 (a : D) : env0 5 [a] = [some (.d a), none, none, none, none] := rfl
theorem strs_one : ∀ {xs : List D}, (∀ x ∈ xs, ∃ c : Nat, x = .str ⟨#[c]⟩) → ∃ ys : List Str, strsD xs = some ys ∧ ys.length = xs.length ∧ (ys.map (·.length)).sum = xs.length
  | [], _ => ⟨[], rfl, rfl, rfl⟩
  | x :: xs, h => by
    obtain ⟨c, rfl⟩ := h x List.mem_cons_self
    obtain ⟨ys, h1, h2, h3⟩ := strs_one fun y hy => h y (List.mem_cons_of_mem _ hy)
    refine ⟨⟨#[c]⟩ :: ys, by simp [strsD, h1], by simp [h2], ?_⟩
    simp only [List.map_cons, List.sum_cons, h3, List.length_cons]
    show 1 + _ = _
    omega
theorem some_name_ok {j : Jar} (ok : j.Ok) : ∃ (s : Str) (j' : Jar), m__law_some_name [.obj 0] [jarC j] = .ok (.d (.str s)) [jarC j'] ∧ s.length ≤ 8 ∧ j'.Ok := by
  have key : FI (m__law_some_name [.obj 0] [jarC j]) fun r S => ∃ (s : Str) (j' : Jar), r = .d (.str s) ∧ S = [jarC j'] ∧ s.length ≤ 8 ∧ j'.Ok := by
    refine FI.fnM ?_
    rw [env0_5_1, b__law_some_name]
    refine SI.seq_eq (g' := ⟨[some (.d (.obj 0)), some (.d (.str abc)), none, none, none], [jarC j]⟩) ?_ ?_
    · simp only [x_seq, x_nil, x_pass, x_break, x_cont, x_set, x_share, x_putd, x_putt, x_puto, x_putsh, x_expr, x_ret, x_retN, x_if, x_for, x_outd, x_outt, x_outo, x_var, x_d, x_bin, x_opts, x_optn, x_rvd, x_rvn, x_frd, x_frt, x_fro, x_Cl, x_Cd, x_tod, x_tot, x_too, x_lk1, x_lk2, x_lk3, x_lk4, x_lk5, x_lk6, x_lk7, x_lk8, x_lk9, x_lk10, x_lookO, x_peekd, x_peeko, x_pk2, x_asB, x_test, x_not, x_and, x_or, x_ife, x_andV, x_orV, x_notV, x_ret0, x_chain, x_bnd, x_D0, x_D1, x_P0, x_P1, x_pks0, x_pks1, x_aps, x_tup, x_lst, x_dict0, x_call, x_ofok, x_items, x_range, x_sl, x_part, x_nopart, x_asI, x_mut, x_mutK, x_getO, x_getS, x_putO, x_putS, x_isLst, x_put, x_aug, x_str1, x_isStr, x_neg, x_endC, x_tName, x_yes, R.to_ok, R.to_stuck, R.to_exc, bind_ok, bind_stuck, bind_exc, RS.bind_nx, RS.bind_ret, RS.bind_bk, RS.bind_ct, RS.bind_stuck, RS.bind_exc, List.getElem?_cons_zero, List.getElem?_cons_succ, List.getElem?_nil, List.set_cons_zero, List.set_cons_succ, List.set_nil, List.length_cons, List.length_nil, if_true, if_false, Bool.false_eq_true, reduceIte, Bool.not_true, Bool.not_false, ite_true, ite_false, wipeE, backE, keepD, List.getD_cons_zero, List.getD_cons_succ, Option.bind_some, Option.map_some]; rfl
    obtain ⟨k, j1, e1, k0, k1, ok1⟩ := draw_ok ok (T := []) (top := 8) (by omega) (by omega)
    obtain ⟨x, j2, e2, hx, ok2⟩ := of_ok ok1 (T := []) (xs := [.int 1, .int 8, .int (1 + k)]) (by simp) (by simp)
    have hx2 : ∃ i : Int, x = .int i ∧ 1 ≤ i ∧ i ≤ 8 := by
      simp only [List.mem_cons, List.not_mem_nil, or_false] at hx
      rcases hx with h | h | h <;> subst h <;> exact ⟨_, rfl, by omega, by omega⟩
    obtain ⟨i, rfl, i0, i1⟩ := hx2
    refine SI.seq_eq (g' := ⟨[some (.d (.obj 0)), some (.d (.str abc)), some (.d (.int i)), none, none], [jarC j2]⟩) ?_ ?_
    · have e3 : (3 : Nat) ≤ sizeLine := by decide
      simp only [x_seq, x_nil, x_pass, x_break, x_cont, x_set, x_share, x_putd, x_putt, x_puto, x_putsh, x_expr, x_ret, x_retN, x_if, x_for, x_outd, x_outt, x_outo, x_var, x_d, x_bin, x_opts, x_optn, x_rvd, x_rvn, x_frd, x_frt, x_fro, x_Cl, x_Cd, x_tod, x_tot, x_too, x_lk1, x_lk2, x_lk3, x_lk4, x_lk5, x_lk6, x_lk7, x_lk8, x_lk9, x_lk10, x_lookO, x_peekd, x_peeko, x_pk2, x_asB, x_test, x_not, x_and, x_or, x_ife, x_andV, x_orV, x_notV, x_ret0, x_chain, x_bnd, x_D0, x_D1, x_P0, x_P1, x_pks0, x_pks1, x_aps, x_tup, x_lst, x_dict0, x_call, x_ofok, x_items, x_range, x_sl, x_part, x_nopart, x_asI, x_mut, x_mutK, x_getO, x_getS, x_putO, x_putS, x_isLst, x_put, x_aug, x_str1, x_isStr, x_neg, x_endC, x_tName, x_yes, R.to_ok, R.to_stuck, R.to_exc, bind_ok, bind_stuck, bind_exc, RS.bind_nx, RS.bind_ret, RS.bind_bk, RS.bind_ct, RS.bind_stuck, RS.bind_exc, List.getElem?_cons_zero, List.getElem?_cons_succ, List.getElem?_nil, List.set_cons_zero, List.set_cons_succ, List.set_nil, List.length_cons, List.length_nil, if_true, if_false, Bool.false_eq_true, reduceIte, Bool.not_true, Bool.not_false, ite_true, ite_false, wipeE, backE, keepD, List.getD_cons_zero, List.getD_cons_succ, Option.bind_some, Option.map_some, e1, f_addI, e2, Nat.zero_add, Nat.reduceAdd, e3]
    refine SI.seqx ?_
    rw [x_set]
    refine SI.to ?_
    rw [x_str1]
    simp only [x_d, bind_ok, x_isStr, if_true, x_bnd]
    refine RI.bind ?_
    have ei : (mRange rng1 [mVar 2]) ⟨[some (.d (.obj 0)), some (.d (.str abc)), some (.d (.int i)), none, none], [jarC j2]⟩ = .ok (rng 0 i.toNat) ⟨[some (.d (.obj 0)), some (.d (.str abc)), some (.d (.int i)), none, none], [jarC j2]⟩ := by
      have : -(2 ^ 62) ≤ i ∧ i < 2 ^ 62 := by omega
      simp only [x_seq, x_nil, x_pass, x_break, x_cont, x_set, x_share, x_putd, x_putt, x_puto, x_putsh, x_expr, x_ret, x_retN, x_if, x_for, x_outd, x_outt, x_outo, x_var, x_d, x_bin, x_opts, x_optn, x_rvd, x_rvn, x_frd, x_frt, x_fro, x_Cl, x_Cd, x_tod, x_tot, x_too, x_lk1, x_lk2, x_lk3, x_lk4, x_lk5, x_lk6, x_lk7, x_lk8, x_lk9, x_lk10, x_lookO, x_peekd, x_peeko, x_pk2, x_asB, x_test, x_not, x_and, x_or, x_ife, x_andV, x_orV, x_notV, x_ret0, x_chain, x_bnd, x_D0, x_D1, x_P0, x_P1, x_pks0, x_pks1, x_aps, x_tup, x_lst, x_dict0, x_call, x_ofok, x_items, x_range, x_sl, x_part, x_nopart, x_asI, x_mut, x_mutK, x_getO, x_getS, x_putO, x_putS, x_isLst, x_put, x_aug, x_str1, x_isStr, x_neg, x_endC, x_tName, x_yes, R.to_ok, R.to_stuck, R.to_exc, bind_ok, bind_stuck, bind_exc, RS.bind_nx, RS.bind_ret, RS.bind_bk, RS.bind_ct, RS.bind_stuck, RS.bind_exc, List.getElem?_cons_zero, List.getElem?_cons_succ, List.getElem?_nil, List.set_cons_zero, List.set_cons_succ, List.set_nil, List.length_cons, List.length_nil, if_true, if_false, Bool.false_eq_true, reduceIte, Bool.not_true, Bool.not_false, ite_true, ite_false, wipeE, backE, keepD, List.getD_cons_zero, List.getD_cons_succ, Option.bind_some, Option.map_some, rng1, this]
      rfl
    have hl : (rng 0 i.toNat).length = i.toNat := by simp [rng]
    refine mComp_inv (fun rest acc S => (∃ j3 : Jar, S = [jarC j3] ∧ j3.Ok) ∧ (∀ x ∈ acc, ∃ c : Nat, x = .str ⟨#[c]⟩) ∧ acc.length + rest.length = i.toNat) ei ⟨⟨j2, rfl, ok2⟩, by simp, by simp [hl]⟩ (by rw [hl, line]; omega) ?_ ?_
    · rintro x xs acc S ⟨⟨j3, rfl, ok3⟩, h1, h2⟩
      refine ⟨_, rfl, ?_⟩
      obtain ⟨k, j4, e4, k0, k1, ok4⟩ := draw_ok ok3 (T := []) (top := 26) (by omega) (by omega)
      obtain ⟨n, rfl⟩ := Int.eq_ofNat_of_zero_le k0
      have hn : n < abc.cps.toList.length := by
        show n < 26
        omega
      have ex : fIx (.str abc) (.int n) = some (.d (.str ⟨#[abc.cps.toList[n]]⟩)) := by
        have : atI abc.cps.toList (n : Int) = some abc.cps.toList[n] := by
          have e : ixN abc.cps.toList.length (n : Int) = some n := by
            unfold ixN
            rw [if_pos (by omega), if_pos (by omega)]
            simp
          unfold atI
          rw [e]
          simp [hn]
        simp only [fIx, this, Option.map_some]
      simp only [x_seq, x_nil, x_pass, x_break, x_cont, x_set, x_share, x_putd, x_putt, x_puto, x_putsh, x_expr, x_ret, x_retN, x_if, x_for, x_outd, x_outt, x_outo, x_var, x_d, x_bin, x_opts, x_optn, x_rvd, x_rvn, x_frd, x_frt, x_fro, x_Cl, x_Cd, x_tod, x_tot, x_too, x_lk1, x_lk2, x_lk3, x_lk4, x_lk5, x_lk6, x_lk7, x_lk8, x_lk9, x_lk10, x_lookO, x_peekd, x_peeko, x_pk2, x_asB, x_test, x_not, x_and, x_or, x_ife, x_andV, x_orV, x_notV, x_ret0, x_chain, x_bnd, x_D0, x_D1, x_P0, x_P1, x_pks0, x_pks1, x_aps, x_tup, x_lst, x_dict0, x_call, x_ofok, x_items, x_range, x_sl, x_part, x_nopart, x_asI, x_mut, x_mutK, x_getO, x_getS, x_putO, x_putS, x_isLst, x_put, x_aug, x_str1, x_isStr, x_neg, x_endC, x_tName, x_yes, R.to_ok, R.to_stuck, R.to_exc, bind_ok, bind_stuck, bind_exc, RS.bind_nx, RS.bind_ret, RS.bind_bk, RS.bind_ct, RS.bind_stuck, RS.bind_exc, List.getElem?_cons_zero, List.getElem?_cons_succ, List.getElem?_nil, List.set_cons_zero, List.set_cons_succ, List.set_nil, List.length_cons, List.length_nil, if_true, if_false, Bool.false_eq_true, reduceIte, Bool.not_true, Bool.not_false, ite_true, ite_false, wipeE, backE, keepD, List.getD_cons_zero, List.getD_cons_succ, Option.bind_some, Option.map_some, RI, e4, ex]
      refine ⟨trivial, ⟨j4, rfl, ok4⟩, ?_, ?_⟩
      · intro y hy
        simp only [addO, List.mem_append, List.mem_singleton] at hy
        rcases hy with hy | hy
        · exact h1 y hy
        · exact ⟨_, hy⟩
      · simp only [addO, List.length_append, List.length_cons, List.length_nil] at h2 ⊢
        omega
    · rintro ys S ⟨⟨j3, rfl, ok3⟩, h1, h2⟩
      obtain ⟨zs, z1, z2, z3⟩ := strs_one h1
      simp only [List.length_nil, Nat.add_zero] at h2
      have hj : fJoin (.str "") (.lst ys) = some (.d (.str (Str.join "" zs))) := by
        simp only [fJoin, z1, Option.bind_some]
        rw [if_pos ?_]
        rw [z3, z2]
        show ys.length + ys.length * 0 ≤ 16777216
        omega
      simp only [x_seq, x_nil, x_pass, x_break, x_cont, x_set, x_share, x_putd, x_putt, x_puto, x_putsh, x_expr, x_ret, x_retN, x_if, x_for, x_outd, x_outt, x_outo, x_var, x_d, x_bin, x_opts, x_optn, x_rvd, x_rvn, x_frd, x_frt, x_fro, x_Cl, x_Cd, x_tod, x_tot, x_too, x_lk1, x_lk2, x_lk3, x_lk4, x_lk5, x_lk6, x_lk7, x_lk8, x_lk9, x_lk10, x_lookO, x_peekd, x_peeko, x_pk2, x_asB, x_test, x_not, x_and, x_or, x_ife, x_andV, x_orV, x_notV, x_ret0, x_chain, x_bnd, x_D0, x_D1, x_P0, x_P1, x_pks0, x_pks1, x_aps, x_tup, x_lst, x_dict0, x_call, x_ofok, x_items, x_range, x_sl, x_part, x_nopart, x_asI, x_mut, x_mutK, x_getO, x_getS, x_putO, x_putS, x_isLst, x_put, x_aug, x_str1, x_isStr, x_neg, x_endC, x_tName, x_yes, R.to_ok, R.to_stuck, R.to_exc, bind_ok, bind_stuck, bind_exc, RS.bind_nx, RS.bind_ret, RS.bind_bk, RS.bind_ct, RS.bind_stuck, RS.bind_exc, List.getElem?_cons_zero, List.getElem?_cons_succ, List.getElem?_nil, List.set_cons_zero, List.set_cons_succ, List.set_nil, List.length_cons, List.length_nil, if_true, if_false, Bool.false_eq_true, reduceIte, Bool.not_true, Bool.not_false, ite_true, ite_false, wipeE, backE, keepD, List.getD_cons_zero, List.getD_cons_succ, Option.bind_some, Option.map_some, RI, SI, hj, named_str]
      by_cases hb : nameB (Str.join "" zs) = true
      · simp only [hb, x_seq, x_nil, x_pass, x_break, x_cont, x_set, x_share, x_putd, x_putt, x_puto, x_putsh, x_expr, x_ret, x_retN, x_if, x_for, x_outd, x_outt, x_outo, x_var, x_d, x_bin, x_opts, x_optn, x_rvd, x_rvn, x_frd, x_frt, x_fro, x_Cl, x_Cd, x_tod, x_tot, x_too, x_lk1, x_lk2, x_lk3, x_lk4, x_lk5, x_lk6, x_lk7, x_lk8, x_lk9, x_lk10, x_lookO, x_peekd, x_peeko, x_pk2, x_asB, x_test, x_not, x_and, x_or, x_ife, x_andV, x_orV, x_notV, x_ret0, x_chain, x_bnd, x_D0, x_D1, x_P0, x_P1, x_pks0, x_pks1, x_aps, x_tup, x_lst, x_dict0, x_call, x_ofok, x_items, x_range, x_sl, x_part, x_nopart, x_asI, x_mut, x_mutK, x_getO, x_getS, x_putO, x_putS, x_isLst, x_put, x_aug, x_str1, x_isStr, x_neg, x_endC, x_tName, x_yes, R.to_ok, R.to_stuck, R.to_exc, bind_ok, bind_stuck, bind_exc, RS.bind_nx, RS.bind_ret, RS.bind_bk, RS.bind_ct, RS.bind_stuck, RS.bind_exc, List.getElem?_cons_zero, List.getElem?_cons_succ, List.getElem?_nil, List.set_cons_zero, List.set_cons_succ, List.set_nil, List.length_cons, List.length_nil, if_true, if_false, Bool.false_eq_true, reduceIte, Bool.not_true, Bool.not_false, ite_true, ite_false, wipeE, backE, keepD, List.getD_cons_zero, List.getD_cons_succ, Option.bind_some, Option.map_some, SI]
        exact ⟨_, j3, rfl, rfl, (nameB_len hb).2, ok3⟩
      · have hb' : nameB (Str.join "" zs) = false := by simpa using hb
        simp only [hb', x_seq, x_nil, x_pass, x_break, x_cont, x_set, x_share, x_putd, x_putt, x_puto, x_putsh, x_expr, x_ret, x_retN, x_if, x_for, x_outd, x_outt, x_outo, x_var, x_d, x_bin, x_opts, x_optn, x_rvd, x_rvn, x_frd, x_frt, x_fro, x_Cl, x_Cd, x_tod, x_tot, x_too, x_lk1, x_lk2, x_lk3, x_lk4, x_lk5, x_lk6, x_lk7, x_lk8, x_lk9, x_lk10, x_lookO, x_peekd, x_peeko, x_pk2, x_asB, x_test, x_not, x_and, x_or, x_ife, x_andV, x_orV, x_notV, x_ret0, x_chain, x_bnd, x_D0, x_D1, x_P0, x_P1, x_pks0, x_pks1, x_aps, x_tup, x_lst, x_dict0, x_call, x_ofok, x_items, x_range, x_sl, x_part, x_nopart, x_asI, x_mut, x_mutK, x_getO, x_getS, x_putO, x_putS, x_isLst, x_put, x_aug, x_str1, x_isStr, x_neg, x_endC, x_tName, x_yes, R.to_ok, R.to_stuck, R.to_exc, bind_ok, bind_stuck, bind_exc, RS.bind_nx, RS.bind_ret, RS.bind_bk, RS.bind_ct, RS.bind_stuck, RS.bind_exc, List.getElem?_cons_zero, List.getElem?_cons_succ, List.getElem?_nil, List.set_cons_zero, List.set_cons_succ, List.set_nil, List.length_cons, List.length_nil, if_true, if_false, Bool.false_eq_true, reduceIte, Bool.not_true, Bool.not_false, ite_true, ite_false, wipeE, backE, keepD, List.getD_cons_zero, List.getD_cons_succ, Option.bind_some, Option.map_some, SI]
        exact ⟨_, j3, rfl, rfl, by decide, ok3⟩
  obtain ⟨r, S, e, s, j', rfl, rfl, h⟩ := key.of
  exact ⟨s, j', e, h⟩
def bents : List D := [.str "A", .str "1", .str " ", .str "(", .str "-", .str "", .str "z", .str "abcdefgh", .str "{"]
theorem bent_str {x : D} (h : x ∈ bents) : ∃ s : Str, x = .str s ∧ s.length ≤ 8 := by
  simp only [bents, List.mem_cons, List.not_mem_nil, or_false] at h
  rcases h with h | h | h | h | h | h | h | h | h <;> subst h <;> exact ⟨_, rfl, by decide⟩
theorem word_str {x : D} (h : x ∈ words) : ∃ s : Str, x = .str s ∧ s.length ≤ 8 := by
  simp only [words, List.mem_cons, List.not_mem_nil, or_false] at h
  rcases h with h | h | h | h | h | h | h | h | h | h | h | h | h | h | h <;> subst h <;> exact ⟨_, rfl, by decide⟩
theorem env0_8_1 (a : D) : env0 8 [a] = [some (.d a), none, none, none, none, none, none, none] := rfl
theorem law_true (ns : List Int) (h : ns.length ≤ 63) : ∃ S, m_law [.scr ns] [] = .ok (.d (.bl true)) S := by
  have key : FI (m_law [.scr ns] []) fun r S => r = .d (.bl true) := by
    refine FI.fnM ?_
    rw [env0_8_1, b_law]
    obtain ⟨j, ej, ok⟩ := jar_ok ns h
    refine SI.seq_eq (g' := ⟨[some (.d (.scr ns)), some (.d (.obj 0)), none, none, none, none, none, none], [jarC j]⟩) ?_ ?_
    · simp only [x_seq, x_nil, x_pass, x_break, x_cont, x_set, x_share, x_putd, x_putt, x_puto, x_putsh, x_expr, x_ret, x_retN, x_if, x_for, x_outd, x_outt, x_outo, x_var, x_d, x_bin, x_opts, x_optn, x_rvd, x_rvn, x_frd, x_frt, x_fro, x_Cl, x_Cd, x_tod, x_tot, x_too, x_lk1, x_lk2, x_lk3, x_lk4, x_lk5, x_lk6, x_lk7, x_lk8, x_lk9, x_lk10, x_lookO, x_peekd, x_peeko, x_pk2, x_asB, x_test, x_not, x_and, x_or, x_ife, x_andV, x_orV, x_notV, x_ret0, x_chain, x_bnd, x_D0, x_D1, x_P0, x_P1, x_pks0, x_pks1, x_aps, x_tup, x_lst, x_dict0, x_call, x_ofok, x_items, x_range, x_sl, x_part, x_nopart, x_asI, x_mut, x_mutK, x_getO, x_getS, x_putO, x_putS, x_isLst, x_put, x_aug, x_str1, x_isStr, x_neg, x_endC, x_tName, x_yes, R.to_ok, R.to_stuck, R.to_exc, bind_ok, bind_stuck, bind_exc, RS.bind_nx, RS.bind_ret, RS.bind_bk, RS.bind_ct, RS.bind_stuck, RS.bind_exc, List.getElem?_cons_zero, List.getElem?_cons_succ, List.getElem?_nil, List.set_cons_zero, List.set_cons_succ, List.set_nil, List.length_cons, List.length_nil, if_true, if_false, Bool.false_eq_true, reduceIte, Bool.not_true, Bool.not_false, ite_true, ite_false, wipeE, backE, keepD, List.getD_cons_zero, List.getD_cons_succ, Option.bind_some, Option.map_some, ej, List.nil_append]
    refine SI.seqx ?_
    rw [x_for]
    have ei : ∀ g : Sg, (mRange rng1 [mD (.int 12)]) g = .ok (rng 0 12) g := fun g => rfl
    rw [ei, R.to_ok]
    refine SI.for_ (fun rest g => ∃ (j : Jar) (e2 e3 e4 e5 e6 e7 : Option SD), g = ⟨[some (.d (.scr ns)), some (.d (.obj 0)), e2, e3, e4, e5, e6, e7], [jarC j]⟩ ∧ j.Ok) ⟨j, _, _, _, _, _, _, rfl, ok⟩ ?_ ?_
    · rintro x xs g ⟨j, e2, e3, e4, e5, e6, e7, rfl, ok⟩
      refine ⟨_, rfl, ?_⟩
      obtain ⟨nm, j1, h1, l1, ok1⟩ := some_name_ok ok
      refine SI.seq_eq (g' := ⟨[some (.d (.scr ns)), some (.d (.obj 0)), some (.d x), some (.d (.str nm)), e4, e5, e6, e7], [jarC j1]⟩) (by simp only [x_seq, x_nil, x_pass, x_break, x_cont, x_set, x_share, x_putd, x_putt, x_puto, x_putsh, x_expr, x_ret, x_retN, x_if, x_for, x_outd, x_outt, x_outo, x_var, x_d, x_bin, x_opts, x_optn, x_rvd, x_rvn, x_frd, x_frt, x_fro, x_Cl, x_Cd, x_tod, x_tot, x_too, x_lk1, x_lk2, x_lk3, x_lk4, x_lk5, x_lk6, x_lk7, x_lk8, x_lk9, x_lk10, x_lookO, x_peekd, x_peeko, x_pk2, x_asB, x_test, x_not, x_and, x_or, x_ife, x_andV, x_orV, x_notV, x_ret0, x_chain, x_bnd, x_D0, x_D1, x_P0, x_P1, x_pks0, x_pks1, x_aps, x_tup, x_lst, x_dict0, x_call, x_ofok, x_items, x_range, x_sl, x_part, x_nopart, x_asI, x_mut, x_mutK, x_getO, x_getS, x_putO, x_putS, x_isLst, x_put, x_aug, x_str1, x_isStr, x_neg, x_endC, x_tName, x_yes, R.to_ok, R.to_stuck, R.to_exc, bind_ok, bind_stuck, bind_exc, RS.bind_nx, RS.bind_ret, RS.bind_bk, RS.bind_ct, RS.bind_stuck, RS.bind_exc, List.getElem?_cons_zero, List.getElem?_cons_succ, List.getElem?_nil, List.set_cons_zero, List.set_cons_succ, List.set_nil, List.length_cons, List.length_nil, if_true, if_false, Bool.false_eq_true, reduceIte, Bool.not_true, Bool.not_false, ite_true, ite_false, wipeE, backE, keepD, List.getD_cons_zero, List.getD_cons_succ, Option.bind_some, Option.map_some, h1]) ?_
      obtain ⟨w, j2, h2, hw, ok2⟩ := of_ok ok1 (T := []) (xs := words) (by decide) (by decide)
      obtain ⟨ws, rfl, lw⟩ := word_str hw
      refine SI.seq_eq (g' := ⟨[some (.d (.scr ns)), some (.d (.obj 0)), some (.d x), some (.d (.str nm)), some (.d (.str ws)), e5, e6, e7], [jarC j2]⟩) (by simp only [x_seq, x_nil, x_pass, x_break, x_cont, x_set, x_share, x_putd, x_putt, x_puto, x_putsh, x_expr, x_ret, x_retN, x_if, x_for, x_outd, x_outt, x_outo, x_var, x_d, x_bin, x_opts, x_optn, x_rvd, x_rvn, x_frd, x_frt, x_fro, x_Cl, x_Cd, x_tod, x_tot, x_too, x_lk1, x_lk2, x_lk3, x_lk4, x_lk5, x_lk6, x_lk7, x_lk8, x_lk9, x_lk10, x_lookO, x_peekd, x_peeko, x_pk2, x_asB, x_test, x_not, x_and, x_or, x_ife, x_andV, x_orV, x_notV, x_ret0, x_chain, x_bnd, x_D0, x_D1, x_P0, x_P1, x_pks0, x_pks1, x_aps, x_tup, x_lst, x_dict0, x_call, x_ofok, x_items, x_range, x_sl, x_part, x_nopart, x_asI, x_mut, x_mutK, x_getO, x_getS, x_putO, x_putS, x_isLst, x_put, x_aug, x_str1, x_isStr, x_neg, x_endC, x_tName, x_yes, R.to_ok, R.to_stuck, R.to_exc, bind_ok, bind_stuck, bind_exc, RS.bind_nx, RS.bind_ret, RS.bind_bk, RS.bind_ct, RS.bind_stuck, RS.bind_exc, List.getElem?_cons_zero, List.getElem?_cons_succ, List.getElem?_nil, List.set_cons_zero, List.set_cons_succ, List.set_nil, List.length_cons, List.length_nil, if_true, if_false, Bool.false_eq_true, reduceIte, Bool.not_true, Bool.not_false, ite_true, ite_false, wipeE, backE, keepD, List.getD_cons_zero, List.getD_cons_succ, Option.bind_some, Option.map_some, all_words, h2]) ?_
      obtain ⟨k, j3, h3, k0, k1, ok3⟩ := draw_ok ok2 (T := []) (top := (nm.length : Int) + 1) (by omega) (by omega)
      refine SI.seq_eq (g' := ⟨[some (.d (.scr ns)), some (.d (.obj 0)), some (.d x), some (.d (.str nm)), some (.d (.str ws)), some (.d (.int k)), e6, e7], [jarC j3]⟩) (by simp only [x_seq, x_nil, x_pass, x_break, x_cont, x_set, x_share, x_putd, x_putt, x_puto, x_putsh, x_expr, x_ret, x_retN, x_if, x_for, x_outd, x_outt, x_outo, x_var, x_d, x_bin, x_opts, x_optn, x_rvd, x_rvn, x_frd, x_frt, x_fro, x_Cl, x_Cd, x_tod, x_tot, x_too, x_lk1, x_lk2, x_lk3, x_lk4, x_lk5, x_lk6, x_lk7, x_lk8, x_lk9, x_lk10, x_lookO, x_peekd, x_peeko, x_pk2, x_asB, x_test, x_not, x_and, x_or, x_ife, x_andV, x_orV, x_notV, x_ret0, x_chain, x_bnd, x_D0, x_D1, x_P0, x_P1, x_pks0, x_pks1, x_aps, x_tup, x_lst, x_dict0, x_call, x_ofok, x_items, x_range, x_sl, x_part, x_nopart, x_asI, x_mut, x_mutK, x_getO, x_getS, x_putO, x_putS, x_isLst, x_put, x_aug, x_str1, x_isStr, x_neg, x_endC, x_tName, x_yes, R.to_ok, R.to_stuck, R.to_exc, bind_ok, bind_stuck, bind_exc, RS.bind_nx, RS.bind_ret, RS.bind_bk, RS.bind_ct, RS.bind_stuck, RS.bind_exc, List.getElem?_cons_zero, List.getElem?_cons_succ, List.getElem?_nil, List.set_cons_zero, List.set_cons_succ, List.set_nil, List.length_cons, List.length_nil, if_true, if_false, Bool.false_eq_true, reduceIte, Bool.not_true, Bool.not_false, ite_true, ite_false, wipeE, backE, keepD, List.getD_cons_zero, List.getD_cons_succ, Option.bind_some, Option.map_some, f_lenS, f_addI, h3]) ?_
      obtain ⟨b, j4, h4, hb, ok4⟩ := of_ok ok3 (T := []) (xs := bents) (by decide) (by decide)
      obtain ⟨bs, rfl, lb⟩ := bent_str hb
      have c1 := cutS_le nm none (some k)
      have c2 := cutS_le nm (some k) none
      have a1 : fAdd (.str (cutS nm none (some k))) (.str bs) = some (.d (.str (cutS nm none (some k) ++ bs))) := f_addS1 (by rw [line]; omega)
      have a2 : fAdd (.str (cutS nm none (some k) ++ bs)) (.str (cutS nm (some k) none)) = some (.d (.str (cutS nm none (some k) ++ bs ++ cutS nm (some k) none))) := f_addS1 (by rw [line, app_len]; omega)
      have e9 : (9 : Nat) ≤ sizeLine := by decide
      refine SI.seq_eq (g' := ⟨[some (.d (.scr ns)), some (.d (.obj 0)), some (.d x), some (.d (.str nm)), some (.d (.str ws)), some (.d (.int k)), some (.d (.str (cutS nm none (some k) ++ bs ++ cutS nm (some k) none))), e7], [jarC j4]⟩) ?_ ?_
      · unfold bents at h4
        simp only [x_seq, x_nil, x_pass, x_break, x_cont, x_set, x_share, x_putd, x_putt, x_puto, x_putsh, x_expr, x_ret, x_retN, x_if, x_for, x_outd, x_outt, x_outo, x_var, x_d, x_bin, x_opts, x_optn, x_rvd, x_rvn, x_frd, x_frt, x_fro, x_Cl, x_Cd, x_tod, x_tot, x_too, x_lk1, x_lk2, x_lk3, x_lk4, x_lk5, x_lk6, x_lk7, x_lk8, x_lk9, x_lk10, x_lookO, x_peekd, x_peeko, x_pk2, x_asB, x_test, x_not, x_and, x_or, x_ife, x_andV, x_orV, x_notV, x_ret0, x_chain, x_bnd, x_D0, x_D1, x_P0, x_P1, x_pks0, x_pks1, x_aps, x_tup, x_lst, x_dict0, x_call, x_ofok, x_items, x_range, x_sl, x_part, x_nopart, x_asI, x_mut, x_mutK, x_getO, x_getS, x_putO, x_putS, x_isLst, x_put, x_aug, x_str1, x_isStr, x_neg, x_endC, x_tName, x_yes, R.to_ok, R.to_stuck, R.to_exc, bind_ok, bind_stuck, bind_exc, RS.bind_nx, RS.bind_ret, RS.bind_bk, RS.bind_ct, RS.bind_stuck, RS.bind_exc, List.getElem?_cons_zero, List.getElem?_cons_succ, List.getElem?_nil, List.set_cons_zero, List.set_cons_succ, List.set_nil, List.length_cons, List.length_nil, if_true, if_false, Bool.false_eq_true, reduceIte, Bool.not_true, Bool.not_false, ite_true, ite_false, wipeE, backE, keepD, List.getD_cons_zero, List.getD_cons_succ, Option.bind_some, Option.map_some, fSl, Nat.zero_add, Nat.reduceAdd, e9, h4, a1, a2]
      obtain ⟨wl, j5, h5, hwl, ok5⟩ := wild_ok ok4
      obtain ⟨t5, ht5⟩ := wild_ty hwl
      have a3 : fAdd (.str ws) (.str "s") = some (.d (.str (ws ++ "s"))) := f_addS1 (by
        have : (("s" : Str)).length = 1 := rfl
        rw [line, this]; omega)
      have e6' : (6 : Nat) ≤ sizeLine := by decide
      rw [x_for]
      have el : (mItems (mLst [mVar 3, mVar 4, mBin fAdd (mVar 4) (mD (.str "s")), mSl (mVar 4) (mPart (mD (.int 1))) (mNoPart), mVar 6, mCall (m__law_wild) [mVar 1]])) ⟨[some (.d (.scr ns)), some (.d (.obj 0)), some (.d x), some (.d (.str nm)), some (.d (.str ws)), some (.d (.int k)), some (.d (.str (cutS nm none (some k) ++ bs ++ cutS nm (some k) none))), e7], [jarC j4]⟩
          = .ok [.str nm, .str ws, .str (ws ++ "s"), .str (cutS ws (some 1) none), .str (cutS nm none (some k) ++ bs ++ cutS nm (some k) none), wl] ⟨[some (.d (.scr ns)), some (.d (.obj 0)), some (.d x), some (.d (.str nm)), some (.d (.str ws)), some (.d (.int k)), some (.d (.str (cutS nm none (some k) ++ bs ++ cutS nm (some k) none))), e7], [jarC j5]⟩ := by
        simp only [x_seq, x_nil, x_pass, x_break, x_cont, x_set, x_share, x_putd, x_putt, x_puto, x_putsh, x_expr, x_ret, x_retN, x_if, x_for, x_outd, x_outt, x_outo, x_var, x_d, x_bin, x_opts, x_optn, x_rvd, x_rvn, x_frd, x_frt, x_fro, x_Cl, x_Cd, x_tod, x_tot, x_too, x_lk1, x_lk2, x_lk3, x_lk4, x_lk5, x_lk6, x_lk7, x_lk8, x_lk9, x_lk10, x_lookO, x_peekd, x_peeko, x_pk2, x_asB, x_test, x_not, x_and, x_or, x_ife, x_andV, x_orV, x_notV, x_ret0, x_chain, x_bnd, x_D0, x_D1, x_P0, x_P1, x_pks0, x_pks1, x_aps, x_tup, x_lst, x_dict0, x_call, x_ofok, x_items, x_range, x_sl, x_part, x_nopart, x_asI, x_mut, x_mutK, x_getO, x_getS, x_putO, x_putS, x_isLst, x_put, x_aug, x_str1, x_isStr, x_neg, x_endC, x_tName, x_yes, R.to_ok, R.to_stuck, R.to_exc, bind_ok, bind_stuck, bind_exc, RS.bind_nx, RS.bind_ret, RS.bind_bk, RS.bind_ct, RS.bind_stuck, RS.bind_exc, List.getElem?_cons_zero, List.getElem?_cons_succ, List.getElem?_nil, List.set_cons_zero, List.set_cons_succ, List.set_nil, List.length_cons, List.length_nil, if_true, if_false, Bool.false_eq_true, reduceIte, Bool.not_true, Bool.not_false, ite_true, ite_false, wipeE, backE, keepD, List.getD_cons_zero, List.getD_cons_succ, Option.bind_some, Option.map_some, a3, fSl, h5, Nat.zero_add, Nat.reduceAdd, e6', items]
      rw [el, R.to_ok]
      refine SI.for_ (fun rest g => (∀ x ∈ rest, ∃ t, tyN x = some t) ∧ ∃ (e2 e3 e4 e5 e6 e7 : Option SD), g = ⟨[some (.d (.scr ns)), some (.d (.obj 0)), e2, e3, e4, e5, e6, e7], [jarC j5]⟩) ⟨?_, _, _, _, _, _, _, rfl⟩ ?_ ?_
      · intro y hy
        simp only [List.mem_cons, List.not_mem_nil, or_false] at hy
        rcases hy with h | h | h | h | h | h <;> subst h <;> first | exact ⟨_, rfl⟩ | exact ⟨t5, ht5⟩
      · rintro y ys g ⟨hy, e2, e3, e4, e5, e6, e7, rfl⟩
        refine ⟨_, rfl, ?_⟩
        obtain ⟨t, ht⟩ := hy y List.mem_cons_self
        have hs : ∀ b : Bool, m__law_same 40 [.bl b, .bl b] [jarC j5] = .ok (.d (.bl true)) [jarC j5] := fun b => by
          have := same_bl 39 b b [jarC j5]
          simpa using this
        simp only [x_seq, x_nil, x_pass, x_break, x_cont, x_set, x_share, x_putd, x_putt, x_puto, x_putsh, x_expr, x_ret, x_retN, x_if, x_for, x_outd, x_outt, x_outo, x_var, x_d, x_bin, x_opts, x_optn, x_rvd, x_rvn, x_frd, x_frt, x_fro, x_Cl, x_Cd, x_tod, x_tot, x_too, x_lk1, x_lk2, x_lk3, x_lk4, x_lk5, x_lk6, x_lk7, x_lk8, x_lk9, x_lk10, x_lookO, x_peekd, x_peeko, x_pk2, x_asB, x_test, x_not, x_and, x_or, x_ife, x_andV, x_orV, x_notV, x_ret0, x_chain, x_bnd, x_D0, x_D1, x_P0, x_P1, x_pks0, x_pks1, x_aps, x_tup, x_lst, x_dict0, x_call, x_ofok, x_items, x_range, x_sl, x_part, x_nopart, x_asI, x_mut, x_mutK, x_getO, x_getS, x_putO, x_putS, x_isLst, x_put, x_aug, x_str1, x_isStr, x_neg, x_endC, x_tName, x_yes, R.to_ok, R.to_stuck, R.to_exc, bind_ok, bind_stuck, bind_exc, RS.bind_nx, RS.bind_ret, RS.bind_bk, RS.bind_ct, RS.bind_stuck, RS.bind_exc, List.getElem?_cons_zero, List.getElem?_cons_succ, List.getElem?_nil, List.set_cons_zero, List.set_cons_succ, List.set_nil, List.length_cons, List.length_nil, if_true, if_false, Bool.false_eq_true, reduceIte, Bool.not_true, Bool.not_false, ite_true, ite_false, wipeE, backE, keepD, List.getD_cons_zero, List.getD_cons_succ, Option.bind_some, Option.map_some, is_name_ok ht, named_ok ht, hs, SI]
        exact ⟨fun z hz => hy z (List.mem_cons_of_mem _ hz), _, _, _, _, _, _, rfl⟩
      · rintro g ⟨_, e2, e3, e4, e5, e6, e7, rfl⟩
        exact ⟨j5, _, _, _, _, _, _, rfl, ok5⟩
    · rintro g ⟨j, e2, e3, e4, e5, e6, e7, rfl, ok⟩
      have w1 : fTuple [.lst words] = some (.d v_WORDS) := rfl
      have w2 : fEq false v_WORDS v_WORDS = some (.d (.bl true)) := by
        have q1 : fits 64 v_WORDS = true := by decide +kernel
        have q2 : eqD v_WORDS v_WORDS = true := by decide +kernel
        simp [fEq, q1, q2]
      have s8 := same_int 39 8 8 [jarC j]
      have v8 : v_DEEP = .int 8 := rfl
      simp only [x_seq, x_nil, x_pass, x_break, x_cont, x_set, x_share, x_putd, x_putt, x_puto, x_putsh, x_expr, x_ret, x_retN, x_if, x_for, x_outd, x_outt, x_outo, x_var, x_d, x_bin, x_opts, x_optn, x_rvd, x_rvn, x_frd, x_frt, x_fro, x_Cl, x_Cd, x_tod, x_tot, x_too, x_lk1, x_lk2, x_lk3, x_lk4, x_lk5, x_lk6, x_lk7, x_lk8, x_lk9, x_lk10, x_lookO, x_peekd, x_peeko, x_pk2, x_asB, x_test, x_not, x_and, x_or, x_ife, x_andV, x_orV, x_notV, x_ret0, x_chain, x_bnd, x_D0, x_D1, x_P0, x_P1, x_pks0, x_pks1, x_aps, x_tup, x_lst, x_dict0, x_call, x_ofok, x_items, x_range, x_sl, x_part, x_nopart, x_asI, x_mut, x_mutK, x_getO, x_getS, x_putO, x_putS, x_isLst, x_put, x_aug, x_str1, x_isStr, x_neg, x_endC, x_tName, x_yes, R.to_ok, R.to_stuck, R.to_exc, bind_ok, bind_stuck, bind_exc, RS.bind_nx, RS.bind_ret, RS.bind_bk, RS.bind_ct, RS.bind_stuck, RS.bind_exc, List.getElem?_cons_zero, List.getElem?_cons_succ, List.getElem?_nil, List.set_cons_zero, List.set_cons_succ, List.set_nil, List.length_cons, List.length_nil, if_true, if_false, Bool.false_eq_true, reduceIte, Bool.not_true, Bool.not_false, ite_true, ite_false, wipeE, backE, keepD, List.getD_cons_zero, List.getD_cons_succ, Option.bind_some, Option.map_some, all_words, lk_W, w1, w2, v8, s8]
      rfl
  obtain ⟨r, S, e, rfl⟩ := key.of
  exact ⟨S, e⟩
end K20
theorem PySem.Challenge.cw_selfhold_k20_names_and_words_holds : PySem.Challenge.rw_selfhold_k20_names_and_words.Holds :=
  K20.row_of K20.law_true
