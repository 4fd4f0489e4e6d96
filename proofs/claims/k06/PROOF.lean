import PyProof.Rows.All
import Wide.All
import OpenK.AllK
import Wide.FinOn
import KE.KeyNested
import KE.KDictKeyed
import KE.SortData
import HandS.Base
import HandS.ForMost
import HandS.Exc
import HandS.TryMany
import HandS.Deep
import HandS.Flow
import HandS.IsInst
import HandS.SortInts
import HandS.Conv
import HandS.TupAny
import HandS.Sort
import HandS.TupSets
import HandS.Strs
import HandS.Wide
import HandS.WordsExc
import HandS.HeadEnd
import HandS.HeadHook1
import HandS.HeadHook2
import HandS.Head0
import HandS.Head1
import HandS.Head2
import HandS.Defaults
import HandS.More
import HandS.Lambda
import HandS.Words
import HandS.HeadHook4
import HandS.HeadWalk
import HandS.ExcInit
import HandS.ExcField
import HandS.ClsMeth
import KE.KExcIs
import HandS.HotCalls
import HandS.ExcInitHot
import HandS.CallLocal
import Wide.Once
import PySem.Challenge.RW_selfhold_k06_sizes_of_webs_and_sets
import HandS.CallSlots
import HandS.Walk
import HandS.SetBool
import HandS.Set
import KE.KDictCopyH
import HandS.DictComp
import HandS.SetFor
import KE.GoesMore
import KE.GoesEnum
import HandS.Dict
import HandS.MakeKwOnly
import HandS.TupLen
import HandS.TupLe
import HandS.TupMul
import KE.DataCmp
import HandS.SortKw
import KE.DatumOrd
import PyProof.AutoSeq1
set_option Elab.async false
set_option linter.all false
set_option maxRecDepth 100000
/-! dicts whose keys are nested tuples of numbers: the object alone -/
namespace NSet
open PySem PySem.Spec PyProof.Rows L2
abbrev Nk : Type := NestedKey
mutual
/-- no text within -/
def num : NestedKey → Bool
  | .text _ => false
  | .none => false
  | .tup ks => numAll ks
  | .num _ => true
def numAll : List NestedKey → Bool
  | [] => true
  | k :: ks => num k && numAll ks
end
mutual
/-- its hash, the same in each world -/
def hNum : Nk → Int
  | .num i => hashInt i
  | .tup ks => reduceHash (Builtin.Tuple.tupleHashOf (hNums ks))
  | _ => 0
def hNums : List Nk → List Int
  | [] => []
  | k :: ks => hNum k :: hNums ks
end
mutual
theorem hash_num (w : World) : ∀ k : Nk, num k = true → k.hash w = hNum k
  | .num i, _ => rfl
  | .tup ks, h => by
    simp only [num] at h
    simp only [NestedKey.hash, hNum, hash_nums w ks h]
  | .text x, h => by simp [num] at h
  | .none, h => by simp [num] at h
theorem hash_nums (w : World) : ∀ ks : List Nk, numAll ks = true → NestedKey.hashes w ks = hNums ks
  | [], _ => rfl
  | k :: ks, h => by
    simp only [numAll, Bool.and_eq_true] at h
    simp only [NestedKey.hashes, hNums, hash_num w k h.1, hash_nums w ks h.2]
end
def ent0 (x : (Nk × Addr × V) × Value) : DictEntry := ⟨hNum x.1.1, .ref x.1.2.1, x.2⟩
structure TD (h : Heap) (a : Addr) (L : List (Nk × Addr × V)) : Prop where
  ex : ∃ o es ep, ∃ us : List Value, h.get? a = some o ∧ o.ExactDict ∧ o.data = .dict es ep ∧ es.toList = (L.zip us).map ent0 ∧ Vals (L.map (·.2.2)) us
  nd : (L.map (·.1)).Nodup
  len : L.length ≤ sizeLine
  nm : ∀ p ∈ L, num p.1 = true ∧ p.1.depth ≤ 8
  sys : (a == sysModules) = false
def TDO (a : Addr) (L : List (Nk × Addr × V)) : HO := .ext fun h => TD h a L
theorem tdo_new {P : Program} {w : World} {H : Hp} {h : Heap} {a : Addr} {L : List (Nk × Addr × V)} (R : TD h a L) : ObjOk P w H h a (TDO a L) := by
  have ⟨o, es, ep, us, g, q⟩ := R.ex
  refine ⟨R, ⟨o, g⟩, fun h1 h2 p k => ?_⟩
  have p : TD h1 a L := p
  have ⟨o', es', ep', us', g', q'⟩ := p.ex
  exact ⟨⟨o', es', ep', us', k o' g', q'⟩, p.nd, p.len, p.nm, p.sys⟩
end NSet

set_option Elab.async false
set_option linter.all false
set_option maxRecDepth 100000
/-! Pure data over HandS: D, Rep, the state of a def's body (SR), lift. -/
namespace Mx
open PySem PySem.Spec PyProof.Rows L2

inductive D where
  | non | bl (b : Bool) | int (i : Int) | str (s : Str) | ty (n : String) | fn (a : Addr) | obj (i : Nat)
  | tup (xs : List D) | lst (xs : List D) | dct (kvs : List (D × D)) | scr (ns : List Int) | tdc (kvs : List (D × D)) | ins (c : Str) (ns : List Str) (ds : List D)
  deriving Inhabited

mutual
/-- numbers and tuples of such, as a key -/
def nkOf : D → Option NSet.Nk
  | .int i => some (.num i)
  | .tup xs => (nkOfs xs).map .tup
  | _ => none
def nkOfs : List D → Option (List NSet.Nk)
  | [] => some []
  | x :: xs => match nkOf x, nkOfs xs with
    | some k, some ks => some (k :: ks)
    | _, _ => none
end
def okS (x : Str) : Bool := x.cps.all (· < 0x110000)
structure StrOk (x : Str) : Prop where
  cps : okS x = true
  len : x.length ≤ sizeLine
def KOk : Key → Prop
  | .inl _ => True
  | .inr s => StrOk s
def dKey : Key → D
  | .inl i => .int i
  | .inr s => .str s

/-- a list of the written part -/
def StL (K : PySem.W.Frag) (a : Addr) (xs : List V) : Prop :=
  ∃ (o : Obj) (its : Array Value) (n : Nat), K.lookup a = some o ∧ o.cls = .type "list" ∧ o.dict = none ∧ o.data = .seq its n ∧ its.size ≤ sizeLine ∧ Vals xs its.toList
def StT (K : PySem.W.Frag) (a : Addr) (xs : List V) : Prop :=
  ∃ (o : Obj) (its : Array Value) (n : Nat), K.lookup a = some o ∧ o.cls = .type "tuple" ∧ o.data = .seq its n ∧ its.size ≤ sizeLine ∧ Vals xs its.toList

section
variable (K : PySem.W.Frag) (is : List Addr) (fz : Addr → Prop) (H : Hp)
mutual
inductive Rep : V → D → Prop
  | non : Rep .non .non
  | bl (b : Bool) : Rep (.bl b) (.bl b)
  | int (i : Int) : Rep (.int i) (.int i)
  | str (x : Str) : StrOk x → Rep (.str x) (.str x)
  | ty (n : String) : Rep (.ty n) (.ty n)
  | fn (a : Addr) : Rep (.ref a) (.fn a)
  | obj {i : Nat} {a : Addr} : is[i]? = some a → Rep (.ref a) (.obj i)
  | tup {a : Addr} {vs : List V} {ds : List D} : ((fz a ∧ H a = some (.tup vs)) ∨ StT K a vs) → RepA vs ds → Rep (.ref a) (.tup ds)
  | lst {a : Addr} {vs : List V} {ds : List D} : fz a → H a = some (.lst vs) → RepA vs ds → Rep (.ref a) (.lst ds)
  | scr {a : Addr} {ns : List Int} : ((fz a ∧ Rd H a (.lst (ns.map V.int))) ∨ StL K a (ns.map V.int)) → Rep (.ref a) (.scr ns)
  | dct {a : Addr} {ks : List (Key × V)} {kvs : List (D × D)} : fz a → Rd H a (.dK ks) → RepK ks kvs → Rep (.ref a) (.dct kvs)
  | tdc {a : Addr} {L : List (NSet.Nk × Addr × V)} {kvs : List (D × D)} : fz a → H a = some (NSet.TDO a L) → RepA (L.map fun p => V.ref p.2.1) (kvs.map (·.1)) → RepA (L.map (·.2.2)) (kvs.map (·.2)) → nkOfs (kvs.map (·.1)) = some (L.map (·.1)) → Rep (.ref a) (.tdc kvs)
  | ins {a dx : Addr} {fs : List (Str × V)} {c : Str} {ds : List D} : fz a → H a = some (.ins (He.ga K c) dx fs) → RepA (fs.map (·.2)) ds → Rep (.ref a) (.ins c (fs.map (·.1)) ds)
inductive RepA : List V → List D → Prop
  | nil : RepA [] []
  | cons {v : V} {vs : List V} {d : D} {ds : List D} : Rep v d → RepA vs ds → RepA (v :: vs) (d :: ds)
inductive RepK : List (Key × V) → List (D × D) → Prop
  | nil : RepK [] []
  | cons {k : Key} {v : V} {ks : List (Key × V)} {d : D} {ds : List (D × D)} : KOk k → Rep v d → RepK ks ds → RepK ((k, v) :: ks) ((dKey k, d) :: ds)
end
end

/-- the same object, or a table that a walk has locked -/
def HoLe (x y : Option HO) : Prop := y = x ∨ ∃ (o : Obj) (ks : List (Key × V)), x = some (.dK ks) ∧ y = some (.frz o (.dK ks))
theorem HoLe.trans {x y z : Option HO} (a : HoLe x y) (b : HoLe y z) : HoLe x z := by
  rcases a with rfl | ⟨o, ks, rfl, rfl⟩
  · exact b
  · rcases b with rfl | ⟨o', ks', e, _⟩
    · exact .inr ⟨o, ks, rfl, rfl⟩
    · cases e
theorem HoLe.at {x y : Option HO} (a : HoLe x y) {u : HO} (e : x = some u) (n : ∀ ks, u ≠ .dK ks) : y = some u := by
  rcases a with rfl | ⟨o, ks, h, _⟩
  · exact e
  · rw [e] at h; exact absurd (Option.some.inj h) (n ks)
theorem HoLe.some {x y : Option HO} (a : HoLe x y) {u : HO} (e : x = some u) : ∃ u', y = some u' := by
  rcases a with rfl | ⟨o, ks, _, h⟩
  · exact ⟨u, e⟩
  · exact ⟨_, h⟩
/-- a later state: what is frozen stays -/
structure Le (fz : Addr → Prop) (H : Hp) (is : List Addr) (fz' : Addr → Prop) (H' : Hp) (is' : List Addr) : Prop where
  up : ∀ b, fz b → fz' b
  hp : ∀ b, fz b → HoLe (H b) (H' b)
  ix : is <+: is'

theorem Le.refl {fz : Addr → Prop} {H : Hp} {is : List Addr} : Le fz H is fz H is := ⟨fun _ h => h, fun _ _ => .inl rfl, List.prefix_refl _⟩
theorem Le.trans {fz fz1 fz2 : Addr → Prop} {H H1 H2 : Hp} {is is1 is2 : List Addr} (a : Le fz H is fz1 H1 is1) (b : Le fz1 H1 is1 fz2 H2 is2) : Le fz H is fz2 H2 is2 :=
  ⟨fun c h => b.up c (a.up c h), fun c h => (a.hp c h).trans (b.hp c (a.up c h)), a.ix.trans b.ix⟩
theorem Le.at {fz fz' : Addr → Prop} {H H' : Hp} {is is' : List Addr} (l : Le fz H is fz' H' is') {a : Addr} {u : HO} (hz : fz a) (h : H a = some u) (n : ∀ ks, u ≠ .dK ks := by intro _ z; cases z) : H' a = some u := (l.hp a hz).at h n
theorem Le.rd {fz fz' : Addr → Prop} {H H' : Hp} {is is' : List Addr} (l : Le fz H is fz' H' is') {a : Addr} {u : HO} (hz : fz a) (h : Rd H a u) : Rd H' a u := by
  rcases h with h | ⟨o, h⟩
  · rcases l.hp a hz with e | ⟨o, ks, e1, e2⟩
    · exact .inl (e.trans h)
    · rw [h] at e1
      cases e1
      exact .inr ⟨o, e2⟩
  · exact .inr ⟨o, l.at hz h⟩
theorem prefix_get {α : Type} {xs ys : List α} (p : xs <+: ys) {i : Nat} {x : α} (h : xs[i]? = some x) : ys[i]? = some x := by
  obtain ⟨t, rfl⟩ := p
  have hi := (List.getElem?_eq_some_iff.mp h).1
  rw [List.getElem?_append_left hi]; exact h

section
variable {K : PySem.W.Frag} {is is' : List Addr} {fz fz' : Addr → Prop} {H H' : Hp}
theorem Rep.mono (l : Le fz H is fz' H' is') {v : V} {d : D} (h : Rep K is fz H v d) : Rep K is' fz' H' v d := by
  have rd : ∀ {a : Addr} {u : HO}, fz a → Rd H a u → Rd H' a u := fun {a u} hz h => l.rd hz h
  refine Rep.rec (K := K) (is := is) (fz := fz) (H := H) (motive_1 := fun v d _ => Rep K is' fz' H' v d) (motive_2 := fun v d _ => RepA K is' fz' H' v d) (motive_3 := fun v d _ => RepK K is' fz' H' v d)
    .non .bl .int .str .ty .fn ?_ ?_ ?_ ?_ ?_ ?_ ?_ .nil ?_ .nil ?_ h
  · intro i a h; exact .obj (prefix_get l.ix h)
  · intro a vs ds h _ ih
    exact .tup (h.imp (fun z => ⟨l.up a z.1, l.at z.1 z.2⟩) id) ih
  · intro a vs ds hz h _ ih
    exact .lst (l.up a hz) (l.at hz h) ih
  · intro a ns h
    exact .scr (h.imp (fun z => ⟨l.up a z.1, rd z.1 z.2⟩) id)
  · intro a ks kvs hz h _ ih
    exact .dct (l.up a hz) (rd hz h) ih
  · intro a L kvs hz h _ _ hk ih1 ih2
    exact .tdc (l.up a hz) (l.at hz h) ih1 ih2 hk
  · intro a dx fs c ds hz h _ ih
    exact .ins (l.up a hz) (l.at hz h) ih
  · intro v vs d ds _ _ h1 h2; exact .cons h1 h2
  · intro k v ks d ds h0 _ _ h1 h2; exact .cons h0 h1 h2
theorem RepA.mono (l : Le fz H is fz' H' is') : ∀ {vs : List V} {ds : List D}, RepA K is fz H vs ds → RepA K is' fz' H' vs ds
  | _, _, .nil => .nil
  | _, _, .cons h t => .cons (h.mono l) (RepA.mono l t)
theorem RepK.mono (l : Le fz H is fz' H' is') : ∀ {vs : List (Key × V)} {ds : List (D × D)}, RepK K is fz H vs ds → RepK K is' fz' H' vs ds
  | _, _, .nil => .nil
  | _, _, .cons k h t => .cons k (h.mono l) (RepK.mono l t)
theorem RepA.length : ∀ {vs : List V} {ds : List D}, RepA K is fz H vs ds → vs.length = ds.length
  | _, _, .nil => rfl
  | _, _, .cons _ t => by simp [RepA.length t]
theorem RepK.length : ∀ {vs : List (Key × V)} {ds : List (D × D)}, RepK K is fz H vs ds → vs.length = ds.length
  | _, _, .nil => rfl
  | _, _, .cons _ _ t => by simp [RepK.length t]
theorem RepA.get : ∀ {vs : List V} {ds : List D} {i : Nat} {d : D}, RepA K is fz H vs ds → ds[i]? = some d → ∃ v, vs[i]? = some v ∧ Rep K is fz H v d
  | _, _, _, _, .nil, e => by simp at e
  | _, _, 0, _, .cons h _, e => by simp at e; subst e; exact ⟨_, rfl, h⟩
  | _, _, i + 1, _, .cons _ t, e => by
    obtain ⟨v, h1, h2⟩ := RepA.get (i := i) t (by simpa using e)
    exact ⟨v, by simpa using h1, h2⟩
theorem RepA.append : ∀ {vs us : List V} {ds es : List D}, RepA K is fz H vs ds → RepA K is fz H us es → RepA K is fz H (vs ++ us) (ds ++ es)
  | _, _, _, _, .nil, s => s
  | _, _, _, _, .cons r t, s => .cons r (RepA.append t s)
theorem RepA.set {v : V} {d : D} (r : Rep K is fz H v d) : ∀ {vs : List V} {ds : List D} (i : Nat), RepA K is fz H vs ds → RepA K is fz H (vs.set i v) (ds.set i d)
  | _, _, _, .nil => .nil
  | _, _, 0, .cons _ t => .cons r t
  | _, _, i + 1, .cons q t => .cons q (RepA.set r i t)
theorem RepA.take : ∀ {vs : List V} {ds : List D} (n : Nat), RepA K is fz H vs ds → RepA K is fz H (vs.take n) (ds.take n)
  | _, _, 0, _ => .nil
  | _, _, _ + 1, .nil => .nil
  | _, _, n + 1, .cons r t => .cons r (RepA.take n t)
theorem RepA.drop : ∀ {vs : List V} {ds : List D} (n : Nat), RepA K is fz H vs ds → RepA K is fz H (vs.drop n) (ds.drop n)
  | _, _, 0, r => r
  | _, _, _ + 1, .nil => .nil
  | _, _, n + 1, .cons _ t => RepA.drop n t
theorem RepA.dropLast : ∀ {vs : List V} {ds : List D}, RepA K is fz H vs ds → RepA K is fz H vs.dropLast ds.dropLast := fun {vs ds} r => by
  rw [List.dropLast_eq_take, List.dropLast_eq_take, r.length]; exact r.take _
end

/-! ### containers that a body owns -/
inductive C where
  | lst (xs : List D) | dct (kvs : List (D × D)) | tct (kvs : List (D × D)) | ins (c : Str) (ns : List Str) (ds : List D) | tab (P : Addr) (q : Str)
  deriving Inhabited
def C.d : C → D
  | .lst xs => .lst xs
  | .dct kvs => .dct kvs
  | .tct kvs => .tdc kvs
  | .ins c ns ds => .ins c ns ds
  | .tab P _ => .fn P
def CAt (K : PySem.W.Frag) (is : List Addr) (fz : Addr → Prop) (H : Hp) (p : Addr) : C → Prop
  | .lst xs => ∃ vs, H p = some (.lst vs) ∧ RepA K is fz H vs xs
  | .dct kvs => ∃ ks, H p = some (.dK ks) ∧ RepK K is fz H ks kvs
  | .tct kvs => ∃ L : List (NSet.Nk × Addr × V), H p = some (NSet.TDO p L) ∧ RepA K is fz H (L.map fun p => V.ref p.2.1) (kvs.map (·.1)) ∧ RepA K is fz H (L.map (·.2.2)) (kvs.map (·.2)) ∧ nkOfs (kvs.map (·.1)) = some (L.map (·.1))
  | .ins c ns ds => ∃ (dx : Addr) (fs : List (Str × V)), H p = some (.ins (He.ga K c) dx fs) ∧ fs.map (·.1) = ns ∧ RepA K is fz H (fs.map (·.2)) ds
  | .tab P q => p = P ∧ ∃ ps : Array Value, H p = some (.tbl ps) ∧ TriplesOk ps.toList ∧ ∀ (pos : Pos) (cv : Value), codeAmong pos ps.toList = some cv → ∃ c, cv = .ref c ∧ fz c ∧ H c = some (LamX.CodeO c q)
inductive SD where
  | d (x : D) | own (c : C)
  deriving Inhabited
structure Sg where
  env : List (Option SD)
  st : List C
inductive RV where
  | d (x : D) | tmp (c : C) | own (i : Nat)
  deriving Inhabited
/-- an exception: its class's name, its fields -/
structure Ex where
  cls : String
  fs : List (Str × D)
inductive R (α : Type) where
  | stuck
  | ok (a : α) (g : Sg)
  | exc (e : Ex) (g : Sg)
abbrev ST (α : Type) := Sg → R α
def R.bind {α β : Type} : R α → (α → ST β) → R β
  | .stuck, _ => .stuck
  | .ok a g, f => f a g
  | .exc e g, _ => .exc e g
def ret {α : Type} (a : α) : ST α := fun g => .ok a g
def bnd {α β : Type} (m : ST α) (f : α → ST β) : ST β := fun g => (m g).bind f
def stop {α : Type} : ST α := fun _ => .stuck
@[simp] theorem bind_ok {α β : Type} (a : α) (g : Sg) (f : α → ST β) : (R.ok a g).bind f = f a g := rfl
@[simp] theorem bind_stuck {α β : Type} (f : α → ST β) : (R.stuck).bind f = .stuck := rfl
@[simp] theorem bind_exc {α β : Type} (e : Ex) (g : Sg) (f : α → ST β) : (R.exc e g).bind f = .exc e g := rfl

/-- the entry of the def at hand -/
structure En where
  K : PySem.W.Frag
  n : Nat
  H : Hp
  is : List Addr
  fz : Addr → Prop

structure Own (N : En) (fz : Addr → Prop) (is : List Addr) (p : Addr) : Prop where
  nf : ¬ fz p
  ni : p ∉ is
  new : N.H p = none
def SRep (N : En) (is : List Addr) (fz : Addr → Prop) (H : Hp) (v : V) : SD → Prop
  | .d x => Rep N.K is fz H v x
  | .own c => ∃ p, v = .ref p ∧ Own N fz is p ∧ CAt N.K is fz H p c
/-- slot i is an owned container's -/
def IsOwn (env : List (Option SD)) (i : Nat) : Prop := ∃ c, env[i]? = some (some (.own c))
structure SR (N : En) (σ : L2.St) (H : Hp) (g : Sg) (fz : Addr → Prop) (is : List Addr) : Prop where
  env : ∀ (i : Nat) (x : SD), g.env[i]? = some (some x) → ∃ v, σ[i]? = some (some v) ∧ SRep N is fz H v x
  dist : ∀ (i j : Nat) (p : Addr), IsOwn g.env i → IsOwn g.env j → σ[i]? = some (some (.ref p)) → σ[j]? = some (some (.ref p)) → i = j
  len : g.env.length = σ.length
  sz : σ.length = N.n
  dom : ∀ b, fz b → ∃ o, H b = some o
  stl : g.st.length = is.length
  st : ∀ (i : Nat) (c : C) (a : Addr), g.st[i]? = some c → is[i]? = some a → ¬ fz a ∧ CAt N.K is fz H a c
  nd : is.Nodup
  frame : ∀ b o, N.H b = some o → b ∉ N.is → H b = some o ∨ (N.fz b ∧ ∃ (ob : Obj) (ks : List (Key × V)), o = .dK ks ∧ H b = some (.frz ob (.dK ks)))
  fzn : ∀ b, fz b → N.fz b ∨ N.H b = none
  fz0 : ∀ b, N.fz b → fz b
  isx : N.is <+: is
  isn : ∀ a ∈ is, a ∈ N.is ∨ N.H a = none
def RVRep (N : En) (σ : L2.St) (H : Hp) (g : Sg) (fz : Addr → Prop) (is : List Addr) (v : V) : RV → Prop
  | .d x => Rep N.K is fz H v x
  | .tmp c => ∃ p, v = .ref p ∧ Own N fz is p ∧ CAt N.K is fz H p c ∧ ∀ i, IsOwn g.env i → σ[i]? ≠ some (some (.ref p))
  | .own i => σ[i]? = some (some v) ∧ IsOwn g.env i
/-- how an exception lies -/
structure XM where
  cls : String → Option Addr
def ExRep (XMm : XM) (K : PySem.W.Frag) (is : List Addr) (fz : Addr → Prop) (H : Hp) (e : Ex) (cls : Value) (od : Option Addr) : Prop :=
  ∃ C d fs, XMm.cls e.cls = some C ∧ cls = .ref C ∧ od = some d ∧ H d = some (.xd fs) ∧ fs.map (·.1) = e.fs.map (·.1) ∧ RepA K is fz H (fs.map (·.2)) (e.fs.map (·.2))

def postE (N : En) (xm : XM) (W : WX) (σ : L2.St) (H : Hp) (fz : Addr → Prop) (is : List Addr) (Q : VK) : R RV → Prop
  | .stuck => False
  | .ok r g' => ∀ v H' fz' is', Le fz H is fz' H' is' → SR N σ H' g' fz' is' → RVRep N σ H' g' fz' is' v r → Q v H'
  | .exc e g' => ∀ cls od H' fz' is', Le fz H is fz' H' is' → SR N σ H' g' fz' is' → ExRep xm N.K is' fz' H' e cls od → W cls od σ H'
def lift (N : En) (xm : XM) (W : WX) (m : ST RV) : TE := fun σ H Q => ∃ g fz is, SR N σ H g fz is ∧ postE N xm W σ H fz is Q (m g)

theorem imp {X : Cx} {e : Expr} {t t' : TE} (h : PE X e t) (i : ∀ σ H Q, t' σ H Q → t σ H Q) : PE X e t' := ⟨fun pins s σ H Q I q => h.run pins s σ H Q I (i σ H Q q)⟩
end Mx

set_option Elab.async false
set_option linter.all false
set_option maxRecDepth 100000
set_option maxHeartbeats 2000000
/-! what the head looks at: plain words alone, to stand early -/
namespace Mx
open PySem PySem.Spec PyProof.Rows L2
mutual
def stB (K : PySem.W.Frag) : Value → D → Bool
  | .none, .non => true
  | .bool b, .bl c => b == c
  | .int i _, .int j => decide (i = j)
  | .str x _, .str y => decide (x = y) && okS x && decide (x.length ≤ sizeLine)
  | .ref a, .tup ds => match K.lookup a with
    | some ⟨.type c, _, .seq its _, _⟩ => decide (c = "tuple") && decide (its.size ≤ sizeLine) && stA K its.toList ds
    | _ => false
  | _, _ => false
def stA (K : PySem.W.Frag) : List Value → List D → Bool
  | [], [] => true
  | u :: us, d :: ds => stB K u d && stA K us ds
  | _, _ => false
end
def datB (K : PySem.W.Frag) (x : Str) (d : D) : Bool := match PySem.W.nsIn K mainGlobals x with
  | some (some u) => stB K u d
  | _ => false
def dfn (x : Str) (st : Stmt) : He.DefD := ⟨(x, none), x, x, defArgs st, defBody st, defScope st, [], []⟩
def exNames : List Str := ["called", "rows", "most", "at", "place", "name"]
def oexB (K : PySem.W.Frag) (C : Addr) : Bool := match K.lookup C with
  | some ⟨.type "type", _, .cls cd, sl⟩ => (match cd.mro, sl.toList with
    | .ref C' :: bm, [_, _, _, _, some (.builtin n), _] => C' == C && (n == "ValueError.__new__" && (!cd.hasDel && (cd.hasDict && PySem.HandSPX.refsVE bm)))
    | _, _ => false)
  | _ => false
def initA (K : PySem.W.Frag) (C : Addr) : Addr := He.ma K C "__init__"
def excB (K : PySem.W.Frag) (c : Str) : Bool :=
  He.eqO (PySem.W.nsIn K mainGlobals c) (some (some (.ref (He.ga K c)))) && (oexB K (He.ga K c) && (He.eqO (PySem.W.findIn K (.ref (He.ga K c)) "__setattr__") (some (some (.builtin "object.__setattr__"))) &&
    (decide (PySem.W.subIn K (.ref (He.ga K c)) (.type "BaseException") = some true) && (decide (PySem.W.typeIn K (.ref (He.ga K c)) = some (.type "type")) && (PySem.W.keepIn K (.ref (He.ga K c)) &&
    (He.eqO (PySem.W.findIn K (.ref (He.ga K c)) "__init__") (some (some (.ref (initA K (He.ga K c))))) && (decide (PySem.W.typeIn K (.ref (initA K (He.ga K c))) = some (.type "function")) && (exNames.all fun f => He.eqO (PySem.W.findIn K (.ref (He.ga K c)) f) (some none)))))))))
def isCB (K : PySem.W.Frag) (C : Addr) : Bool := (PySem.W.clsIn K C).isSome && (He.eqO (PySem.W.findIn K (.ref C) "__getattribute__") (some (some (.builtin "BaseException.__getattribute__"))) && (He.eqO (PySem.W.findIn K (.ref C) "__getattr__") (some none) && (decide (PySem.W.subIn K (.ref C) (.type "BaseException") = some true) &&
  (He.eqO (PySem.W.findIn K (.ref C) "__class__") (some (some (.builtin "object.__class__"))) && (He.eqO (PySem.W.specialIn K (.builtin "object.__class__") "__get__") (some (some (.builtin "getset_descriptor.__get__"))) && (decide (PySem.W.takesIn K (.builtin "object.__class__") = some true) && decide (PySem.W.mroIn K C (.type "object") = some true)))))))
def famE (c : String) : Nat := if c = "NoName" then 1 else if c = "NothingLeft" then 2 else 0
def whyB (K : PySem.W.Frag) (c : String) : Bool := xfB K (He.ga K c) && (isCB K (He.ga K c) && ((exNames.all fun f => He.eqO (PySem.W.findIn K (.ref (He.ga K c)) f) (some none)) &&
  ((["TooBig", "TooMany", "Unread", "BadLine", "Tangled", "Loose"].all fun D : String => decide (PySem.W.kitOne K (.ref (He.ga K c)) (.ref (He.ga K D)) = some (decide (c = D)))) &&
  (decide (PySem.W.exmOne K (.ref (He.ga K c)) (.ref (He.ga K "HoldError")) = some (decide (famE c = 0))) && (decide (PySem.W.exmOne K (.ref (He.ga K c)) (.ref (He.ga K "NoName")) = some (decide (famE c = 1))) && decide (PySem.W.exmOne K (.ref (He.ga K c)) (.ref (He.ga K "NothingLeft")) = some (decide (famE c = 2))))))))
def vVB (K : PySem.W.Frag) : Bool := match PySem.W.findCls K (.type "ValueError") (.type "type") "__init__" with
  | some (.val (.builtin s)) => s == "ValueError.__init__"
  | _ => false
def clsIB (K : PySem.W.Frag) (C fI : Addr) : Bool := PySem.W.readsIn K C (.type "type") && (He.eqO (PySem.W.specialIn K (.ref C) "__getattribute__") (some (some (.builtin "type.__getattribute__"))) && (decide (PySem.W.typeIn K (.ref C) = some (.type "type")) &&
  ((match PySem.W.findCls K (.ref C) (.type "type") "__init__" with
    | some (.val (.ref a)) => decide (a = fI)
    | _ => false) && PySem.W.keepIn K (.ref fI))))
def dmt (c m q : Str) (st : Stmt) : He.DefD := ⟨(c, some m), m, q, defArgs st, defBody st, defScope st, [], []⟩
def lawT : He.Defn := ("law", none)
def dfnK (x : Str) (st : Stmt) (kwd : List (Str × He.Dv)) : He.DefD := ⟨(x, none), x, x, defArgs st, defBody st, defScope st, [], kwd⟩
section
variable {fa : List He.Fa} {fn : List He.DefD} {ts : List He.Tab} {tf : List He.Defn} {ex : PySem.W.Frag → Bool}
def asY (g : Addr → Option Obj) (n : Nat) : List Addr := He.asD g n ++ [cStatics]
def obsY (n : Nat) (fa : List He.Fa) (fn : List He.DefD) (ts : List He.Tab) (tf : List He.Defn) (ex : PySem.W.Frag → Bool) (g : Addr → Option Obj) : He.AlX :=
  (He.obsT fa fn ts (He.frT g (asY g n)), ex (He.frT g (asY g n)) && He.tabsB g tf (He.frT g (asY g n)))
theorem saysY_of {as : List Addr} {w : World} {h : Heap} (e : (He.obsT fa fn ts (He.frT h.get? as), ex (He.frT h.get? as) && He.tabsB h.get? tf (He.frT h.get? as)) = He.valX fn ts w) : He.SaysX fa fn ts tf ex w h (He.frT h.get? as) := by
  have e1 : He.obsT fa fn ts (He.frT h.get? as) = He.valT fn ts w := congrArg (fun z : He.AlX => z.1) e
  have e2 : (ex (He.frT h.get? as) && He.tabsB h.get? tf (He.frT h.get? as)) = true := congrArg (fun z : He.AlX => z.2) e
  simp only [Bool.and_eq_true] at e2
  obtain ⟨h1, h2⟩ := e2
  have key : ∀ p ∈ tf, PySem.W.codeHdIn (He.frT h.get? as) (He.cT (He.frT h.get? as) p).1 (He.cT (He.frT h.get? as) p).2 = true ∧ ∃ o, h.get? (He.cT (He.frT h.get? as) p).2 = some o ∧ He.emptyTab o = true := fun p hp => by
    have h3 := List.all_eq_true.mp h2 p hp
    simp only [Bool.and_eq_true] at h3
    obtain ⟨h3, h4⟩ := h3
    refine ⟨h3, ?_⟩
    split at h4
    · rename_i o q
      exact ⟨o, q, h4⟩
    · cases h4
  refine ⟨e1, h1, fun p hp => (key p hp).1, fun p hp => ?_, fun p hp => ?_⟩
  · obtain ⟨_, o, q, z⟩ := key p hp
    exact He.frT_none q z
  · obtain ⟨_, o, q, z⟩ := key p hp
    rw [q, He.emptyTab_eq z]
def hookY (n : Nat) (fa : List He.Fa) (fn : List He.DefD) (ts : List He.Tab) (tf : List He.Defn) (ex : PySem.W.Frag → Bool) : PySem.W.Hook where
  α := He.AlX
  obs := fun s => obsY n fa fn ts tf ex s.heap.get?
  val := fun w => He.valX fn ts w
  says := (He.hookX n fa fn ts tf ex).says
  of := fun _ _ e => ⟨_, He.frT_in, saysY_of e⟩
  keeps := (He.hookX n fa fn ts tf ex).keeps
theorem obsY_eq {n : Nat} {g : Addr → Option Obj} {s : Shared} (h : ∀ a, g a = s.heap.get? a) : obsY n fa fn ts tf ex g = (hookY n fa fn ts tf ex).obs s := by
  have e : g = s.heap.get? := funext h
  rw [e]
  rfl
end
end Mx

set_option Elab.async false
set_option linter.all false
set_option maxRecDepth 100000
set_option maxHeartbeats 2000000
/-! the head's run in parts: each part is a run of the top in the kernel, so that none wants too much memory -/
namespace Mx
open PySem PySem.W PySem.Spec PyProof.Rows HandSHeadRun
section
variable {α : Type} (r : OpenRow) (q : Program) (M : Nat) (loose : List PySem.Str) (w : World)
def RunA : Prop := ∀ os : OsState, (endF (stepQ (denQ tabQ) r.prog w) M r.prog w os).map (fun s => (looksF r.prog (boot_heap w.params) s.abs, seenQ q loose (importedModules r.prog.main.body) (fun s => xlAt q [] s && recOk r.toRowW.records s) s.abs)) = some (true, openGood q loose)
def RunB (f : SharedT → α) (v : α) : Prop := ∀ os : OsState, (endF (stepQ (denQ tabQ) r.prog w) M r.prog w os).map (fun s => f s) = some v
end
theorem run_two {r : OpenRow} {q : Program} {M : Nat} {loose : List PySem.Str} {w : World} {H : Hook} {ob : SharedT → H.α} (h0 : RunA r q M loose w) (h1 : RunB r M w ob (H.val w)) : RunEq r q H ob M loose w := fun os => by
  have a := h0 os
  have b := h1 os
  cases e : endF (stepQ (denQ tabQ) r.prog w) M r.prog w os with
  | none => rw [e] at a; cases a
  | some s =>
    rw [e] at a b
    have a2 : (looksF r.prog (boot_heap w.params) s.abs, seenQ q loose (importedModules r.prog.main.body) (fun s => xlAt q [] s && recOk r.toRowW.records s) s.abs) = (true, openGood q loose) := Option.some.inj a
    have b2 : ob s = H.val w := Option.some.inj b
    obtain ⟨a3, a4⟩ := Prod.mk.inj a2
    exact congrArg some (Prod.ext a3 (Prod.ext a4 b2))
end Mx

set_option Elab.async false
set_option linter.all false
set_option maxRecDepth 100000
set_option maxHeartbeats 0
namespace Lib
end Lib
namespace NSet
end NSet
namespace K06
open PySem PySem.Spec PyProof.Rows L2 Mx Lib NSet
/-! ### the text -/
def top (i : Nat) : Stmt := PySem.Challenge.pw_selfhold_k06_sizes_of_webs_and_sets.main.body.getD i (.Pass ⟨0, 0, 0, 0⟩)
abbrev s_is_whole : Stmt := top 15
abbrev s_is_row : Stmt := top 16
abbrev s_is_web : Stmt := top 17
abbrev s_next_round : Stmt := top 18
abbrev s_last_round : Stmt := top 19
abbrev s_come_to : Stmt := top 20
abbrev s_pictured : Stmt := top 21
abbrev s_need_web : Stmt := top 22
abbrev s_need_row : Stmt := top 23
abbrev s_picture : Stmt := top 24
abbrev s__law_jar : Stmt := top 26
abbrev s__law_draw : Stmt := top 27
abbrev s__law_of : Stmt := top 28
abbrev s__law_same : Stmt := top 29
abbrev s__law_chain : Stmt := top 32
abbrev s_law : Stmt := top 33
def exT : List String := ["BadNumber", "BadWeb", "TooBig"]
abbrev si_HoldError : Stmt := (C8.clsBody (top 1)).getD 0 (.Pass ⟨0, 0, 0, 0⟩)
abbrev si_BadNumber : Stmt := (C8.clsBody (top 3)).getD 0 (.Pass ⟨0, 0, 0, 0⟩)
abbrev si_BadWeb : Stmt := (C8.clsBody (top 2)).getD 0 (.Pass ⟨0, 0, 0, 0⟩)
abbrev si_TooBig : Stmt := (C8.clsBody (top 6)).getD 0 (.Pass ⟨0, 0, 0, 0⟩)
abbrev s__law_field : Stmt := top 30
abbrev s__law_why : Stmt := top 31
/-! ### the head -/
def fn : List He.DefD := [dfn "is_whole" s_is_whole, dfn "is_row" s_is_row, dfn "is_web" s_is_web, dfn "next_round" s_next_round, dfn "last_round" s_last_round, dfn "come_to" s_come_to, dfn "pictured" s_pictured, dfn "need_web" s_need_web, dfn "need_row" s_need_row, dfnK "picture" s_picture [("at", .int 0)], dfn "_law_jar" s__law_jar, dfn "_law_draw" s__law_draw, dfn "_law_of" s__law_of, dfn "_law_same" s__law_same, dfn "_law_chain" s__law_chain, dfn "law" s_law, dmt "HoldError" "__init__" "HoldError.__init__" si_HoldError, dmt "BadNumber" "__init__" "BadNumber.__init__" si_BadNumber, dmt "BadWeb" "__init__" "BadWeb.__init__" si_BadWeb, dmt "TooBig" "__init__" "TooBig.__init__" si_TooBig, dfn "_law_field" s__law_field, dfn "_law_why" s__law_why]
def fa : List He.Fa := [.glo "is_whole", .glo "is_row", .glo "is_web", .glo "next_round", .glo "last_round", .glo "come_to", .glo "pictured", .glo "need_web", .glo "need_row", .glo "picture", .glo "_law_jar", .glo "_law_draw", .glo "_law_of", .glo "_law_same", .glo "_law_chain", .glo "law", .free "ValueError", .free "all", .free "bool", .free "enumerate", .free "int", .free "isinstance", .free "len", .free "list", .free "max", .free "range", .free "set", .free "sorted", .free "str", .free "tuple", .glo "_law_field", .glo "_law_why", .glo "HoldError", .glo "NoName", .glo "NothingLeft", .glo "TooBig", .glo "TooMany", .glo "Unread", .glo "BadLine", .glo "Tangled", .glo "Loose"]
def ex (K : PySem.W.Frag) : Bool := datB K "MOST_ROWS" (.int 64) && datB K "MOST_WEB" (.int 512) && vVB K && clsIB K (He.ga K "HoldError") (initA K (He.ga K "HoldError")) && excB K "BadNumber" && excB K "BadWeb" && excB K "TooBig" && whyB K "BadNumber" && whyB K "BadWeb" && whyB K "TooBig"
abbrev Ro : PySem.W.OpenRow := PySem.W.OpenLaw.row PySem.Challenge.rw_selfhold_k06_sizes_of_webs_and_sets
abbrev hk : PySem.W.Hook := hookY 4 fa fn [] [lawT] ex
def ob (s : PySem.W.SharedT) : He.AlX := obsY 4 fa fn [] [lawT] ex (HandSHeadRun.getT s)
theorem ob_eq (s : PySem.W.SharedT) : ob s = hk.obs s.abs := obsY_eq (HandSHeadRun.getT_eq s)
def loo : List Str := "HoldError" :: "BadWeb" :: "BadNumber" :: "BadLine" :: "Unread" :: "TooBig" :: "TooMany" :: "Tangled" :: "Loose" :: "NoName" :: "NothingLeft" :: "MOST_ROWS" :: "MOST_WEB" :: "is_whole" :: "is_row" :: "is_web" :: "next_round" :: "last_round" :: "come_to" :: "pictured" :: "need_web" :: "need_row" :: "picture" :: "_law_jar" :: "_law_draw" :: "_law_of" :: "_law_same" :: "_law_field" :: "_law_why" :: "_law_chain" :: []
theorem runA (w : World) : RunA Ro (PySem.W.view Ro.prog [33]) 7000 loo w := by
  intro os
  kernel_rfl
theorem runB (w : World) : RunB Ro 7000 w ob (hk.val w) := by
  intro os
  kernel_rfl
theorem run (w : World) : HandSHeadRun.RunEq Ro (PySem.W.view Ro.prog [33]) hk ob 7000 loo w := run_two (runA w) (runB w)
end K06

set_option Elab.async false
set_option linter.all false
set_option maxRecDepth 100000
/-! the state's steps: a new object, freezing, slots -/
namespace Mx
open PySem PySem.Spec PyProof.Rows L2

section
variable {K : PySem.W.Frag} {is is' : List Addr} {fz fz' : Addr → Prop} {H H' : Hp} {N : En} {σ : L2.St} {g : Sg} {p : Addr}

theorem CAt.mono (l : Le fz H is fz' H' is') {c : C} (h : CAt K is fz H p c) (e : H' p = H p) : CAt K is' fz' H' p c := by
  cases c with
  | lst xs => obtain ⟨vs, h1, h2⟩ := h; exact ⟨vs, e.trans h1, h2.mono l⟩
  | dct kvs => obtain ⟨vs, h1, h2⟩ := h; exact ⟨vs, e.trans h1, h2.mono l⟩
  | tct kvs => obtain ⟨L, h1, h2, h3, h4⟩ := h; exact ⟨L, e.trans h1, h2.mono l, h3.mono l, h4⟩
  | ins c ns ds => obtain ⟨dx, fs, h1, h2, h3⟩ := h; exact ⟨dx, fs, e.trans h1, h2, h3.mono l⟩
  | tab P q =>
    obtain ⟨hp, ps, h1, h2, h3⟩ := h
    refine ⟨hp, ps, e.trans h1, h2, fun pos cv k => ?_⟩
    obtain ⟨c, e1, e2, e3⟩ := h3 pos cv k
    exact ⟨c, e1, l.up c e2, l.at e2 e3⟩
theorem CAt.some {c : C} (h : CAt K is fz H p c) : ∃ o, H p = some o := by
  cases c with
  | lst xs => obtain ⟨vs, h1, _⟩ := h; exact ⟨_, h1⟩
  | dct kvs => obtain ⟨vs, h1, _⟩ := h; exact ⟨_, h1⟩
  | tct kvs => obtain ⟨L, h1, _⟩ := h; exact ⟨_, h1⟩
  | ins c ns ds => obtain ⟨dx, fs, h1, _⟩ := h; exact ⟨_, h1⟩
  | tab P q => obtain ⟨_, ps, h1, _⟩ := h; exact ⟨_, h1⟩

theorem SR.isd (sr : SR N σ H g fz is) : ∀ a ∈ is, ∃ o, H a = some o := fun a ha => by
  obtain ⟨i, hi, e⟩ := List.getElem_of_mem ha
  have hl : i < g.st.length := by rw [sr.stl]; exact hi
  exact (sr.st i g.st[i] a (List.getElem?_eq_getElem hl) (by rw [List.getElem?_eq_getElem hi, e])).2.some
theorem SR.own_at (sr : SR N σ H g fz is) {i : Nat} {c : C} (h : g.env[i]? = some (some (.own c))) : ∃ p, σ[i]? = some (some (.ref p)) ∧ Own N fz is p ∧ CAt N.K is fz H p c := by
  obtain ⟨v, h1, p, rfl, h2, h3⟩ := sr.env i _ h
  exact ⟨p, h1, h2, h3⟩
/-- a free address is nobody's -/
structure Free (N : En) (σ : L2.St) (g : Sg) (fz : Addr → Prop) (is : List Addr) (p : Addr) : Prop where
  own : Own N fz is p
  ns : ∀ i, IsOwn g.env i → σ[i]? ≠ some (some (.ref p))
theorem SR.free (sr : SR N σ H g fz is) (h : H p = none) : Free N σ g fz is p := by
  have hi : p ∉ is := fun z => by obtain ⟨o, e⟩ := sr.isd p z; rw [h] at e; cases e
  refine ⟨⟨fun z => ?_, hi, ?_⟩, fun i ⟨c, hc⟩ z => ?_⟩
  · obtain ⟨o, e⟩ := sr.dom p z; rw [h] at e; cases e
  · cases q : N.H p with
    | none => rfl
    | some o =>
      have hn : p ∉ N.is := fun z => hi (sr.isx.subset z)
      rcases sr.frame p o q hn with this | ⟨_, _, _, _, this⟩ <;> (rw [h] at this; cases this)
  · obtain ⟨p', h1, _, h3⟩ := sr.own_at hc
    rw [z] at h1; cases h1
    obtain ⟨o, e⟩ := h3.some
    rw [h] at e; cases e

theorem Le.alloc {o : HO} (hp : ¬ fz p) : Le fz H is fz (upd H p o) is := ⟨fun _ h => h, fun b hb => .inl (upd_ne (fun e => hp (e ▸ hb))), List.prefix_refl _⟩
theorem Le.frz (q : Addr) : Le fz H is (fun b => fz b ∨ b = q) H is := ⟨fun _ h => .inl h, fun _ _ => .inl rfl, List.prefix_refl _⟩

/-- the heap changes at p alone, which is nobody's -/
theorem SR.alter (sr : SR N σ H g fz is) (f : Free N σ g fz is p) (o : HO) : SR N σ (upd H p o) g fz is := by
  have l : Le fz H is fz (upd H p o) is := Le.alloc f.own.nf
  refine ⟨fun i x h => ?_, sr.dist, sr.len, sr.sz, fun b hb => ?_, sr.stl, fun i c a h1 h2 => ?_, sr.nd, fun b u h1 h2 => ?_, sr.fzn, sr.fz0, sr.isx, sr.isn⟩
  · obtain ⟨v, h1, h2⟩ := sr.env i x h
    refine ⟨v, h1, ?_⟩
    cases x with
    | d x => exact Rep.mono l h2
    | own c =>
      obtain ⟨q, rfl, h3, h4⟩ := h2
      refine ⟨q, rfl, h3, h4.mono l (upd_ne fun e => ?_)⟩
      subst e
      exact f.ns i ⟨c, h⟩ h1
  · obtain ⟨u, e⟩ := sr.dom b hb
    exact ⟨u, by rw [upd_ne (fun (z : b = p) => f.own.nf (z ▸ hb))]; exact e⟩
  · obtain ⟨h3, h4⟩ := sr.st i c a h1 h2
    exact ⟨h3, h4.mono l (upd_ne fun e => f.own.ni (e ▸ List.mem_of_getElem? h2))⟩
  · have := sr.frame b u h1 h2
    rw [upd_ne]; exact this
    rintro rfl
    rw [f.own.new] at h1; cases h1
/-- p is frozen -/
theorem SR.freeze (sr : SR N σ H g fz is) (f : Free N σ g fz is p) (ho : ∃ o, H p = some o) : SR N σ H g (fun b => fz b ∨ b = p) is := by
  have l : Le fz H is (fun b => fz b ∨ b = p) H is := Le.frz p
  refine ⟨fun i x h => ?_, sr.dist, sr.len, sr.sz, fun b hb => ?_, sr.stl, fun i c a h1 h2 => ?_, sr.nd, sr.frame, fun b hb => ?_, fun b hb => .inl (sr.fz0 b hb), sr.isx, sr.isn⟩
  · obtain ⟨v, h1, h2⟩ := sr.env i x h
    refine ⟨v, h1, ?_⟩
    cases x with
    | d x => exact Rep.mono l h2
    | own c =>
      obtain ⟨q, rfl, h3, h4⟩ := h2
      refine ⟨q, rfl, ⟨fun z => ?_, h3.ni, h3.new⟩, h4.mono l rfl⟩
      rcases z with z | rfl
      · exact h3.nf z
      · exact f.ns i ⟨c, h⟩ h1
  · rcases hb with hb | rfl
    · exact sr.dom b hb
    · exact ho
  · obtain ⟨h3, h4⟩ := sr.st i c a h1 h2
    refine ⟨fun z => ?_, h4.mono l rfl⟩
    rcases z with z | rfl
    · exact h3 z
    · exact f.own.ni (List.mem_of_getElem? h2)
  · rcases hb with hb | rfl
    · exact sr.fzn b hb
    · exact .inr f.own.new

theorem CAt.rep {c : C} (h : CAt K is fz H p c) (hz : fz p) : Rep K is fz H (.ref p) c.d := by
  cases c with
  | lst xs => obtain ⟨vs, h1, h2⟩ := h; exact .lst hz h1 h2
  | dct kvs => obtain ⟨vs, h1, h2⟩ := h; exact .dct hz (.inl h1) h2
  | tct kvs => obtain ⟨L, h1, h2, h3, h4⟩ := h; exact .tdc hz h1 h2 h3 h4
  | ins c ns ds => obtain ⟨dx, fs, h1, rfl, h3⟩ := h; exact .ins hz h1 h3
  | tab P q => obtain ⟨rfl, _⟩ := h; exact .fn _

/-- a slot takes plain data -/
theorem SR.setD (sr : SR N σ H g fz is) {i : Nat} {v : V} {x : D} (r : Rep N.K is fz H v x) (hi : i < σ.length) : SR N (σ.set i (some v)) H { g with env := g.env.set i (some (.d x)) } fz is := by
  have own' : ∀ j, IsOwn (g.env.set i (some (.d x))) j → j ≠ i ∧ IsOwn g.env j := fun j ⟨c, h⟩ => by
    by_cases e : j = i
    · subst e
      rw [List.getElem?_set_self (by rw [sr.len]; exact hi)] at h; cases h
    · rw [List.getElem?_set_ne (Ne.symm e)] at h
      exact ⟨e, c, h⟩
  refine ⟨fun j y h => ?_, fun j k q h1 h2 h3 h4 => ?_, by simp [sr.len], by simp [sr.sz], sr.dom, sr.stl, sr.st, sr.nd, sr.frame, sr.fzn, sr.fz0, sr.isx, sr.isn⟩
  · by_cases e : j = i
    · subst e
      rw [List.getElem?_set_self (by rw [sr.len]; exact hi)] at h; cases h
      exact ⟨v, List.getElem?_set_self hi, r⟩
    · rw [List.getElem?_set_ne (Ne.symm e)] at h
      obtain ⟨w, h1, h2⟩ := sr.env j y h
      exact ⟨w, by rw [List.getElem?_set_ne (Ne.symm e)]; exact h1, h2⟩
  · obtain ⟨e1, o1⟩ := own' j h1
    obtain ⟨e2, o2⟩ := own' k h2
    rw [List.getElem?_set_ne (Ne.symm e1)] at h3
    rw [List.getElem?_set_ne (Ne.symm e2)] at h4
    exact sr.dist j k q o1 o2 h3 h4
/-- a slot takes a container of its own -/
theorem SR.setO (sr : SR N σ H g fz is) {i : Nat} {c : C} (f : Free N σ g fz is p) (r : CAt N.K is fz H p c) (hi : i < σ.length) : SR N (σ.set i (some (.ref p))) H { g with env := g.env.set i (some (.own c)) } fz is := by
  have own' : ∀ j, IsOwn (g.env.set i (some (.own c))) j → j = i ∨ (j ≠ i ∧ IsOwn g.env j) := fun j ⟨c', h⟩ => by
    by_cases e : j = i
    · exact .inl e
    · rw [List.getElem?_set_ne (Ne.symm e)] at h
      exact .inr ⟨e, c', h⟩
  refine ⟨fun j y h => ?_, fun j k q h1 h2 h3 h4 => ?_, by simp [sr.len], by simp [sr.sz], sr.dom, sr.stl, sr.st, sr.nd, sr.frame, sr.fzn, sr.fz0, sr.isx, sr.isn⟩
  · by_cases e : j = i
    · subst e
      rw [List.getElem?_set_self (by rw [sr.len]; exact hi)] at h; cases h
      exact ⟨.ref p, List.getElem?_set_self hi, p, rfl, f.own, r⟩
    · rw [List.getElem?_set_ne (Ne.symm e)] at h
      obtain ⟨w, h1, h2⟩ := sr.env j y h
      exact ⟨w, by rw [List.getElem?_set_ne (Ne.symm e)]; exact h1, h2⟩
  · rcases own' j h1 with rfl | ⟨e1, o1⟩ <;> rcases own' k h2 with rfl | ⟨e2, o2⟩
    · rfl
    · rw [List.getElem?_set_self hi] at h3; cases h3
      rw [List.getElem?_set_ne (Ne.symm e2)] at h4
      exact absurd h4 (f.ns k o2)
    · rw [List.getElem?_set_self hi] at h4; cases h4
      rw [List.getElem?_set_ne (Ne.symm e1)] at h3
      exact absurd h3 (f.ns j o1)
    · rw [List.getElem?_set_ne (Ne.symm e1)] at h3
      rw [List.getElem?_set_ne (Ne.symm e2)] at h4
      exact sr.dist j k q o1 o2 h3 h4
/-- an own slot's container changes -/
theorem SR.change (sr : SR N σ H g fz is) {i : Nat} {c c' : C} (h : g.env[i]? = some (some (.own c))) (hp : σ[i]? = some (some (.ref p))) {o : HO} (r : CAt N.K is fz (upd H p o) p c') :
    SR N σ (upd H p o) { g with env := g.env.set i (some (.own c')) } fz is := by
  obtain ⟨q, h1, h2, h3⟩ := sr.own_at h
  rw [hp] at h1; cases h1
  have l : Le fz H is fz (upd H p o) is := Le.alloc h2.nf
  have hi : i < g.env.length := (List.getElem?_eq_some_iff.mp h).1
  have iso : ∀ j, IsOwn (g.env.set i (some (.own c'))) j → IsOwn g.env j := fun j ⟨d, hd⟩ => by
    by_cases e : j = i
    · subst e; exact ⟨c, h⟩
    · rw [List.getElem?_set_ne (Ne.symm e)] at hd; exact ⟨d, hd⟩
  refine ⟨fun j y hj => ?_, fun j k q a b => sr.dist j k q (iso j a) (iso k b), by simp [sr.len], sr.sz, fun b hb => ?_, sr.stl, fun j d a h1 h5 => ?_, sr.nd, fun b u h1 h5 => ?_, sr.fzn, sr.fz0, sr.isx, sr.isn⟩
  · by_cases e : j = i
    · subst e
      rw [List.getElem?_set_self hi] at hj; cases hj
      exact ⟨.ref p, hp, p, rfl, h2, r⟩
    · rw [List.getElem?_set_ne (Ne.symm e)] at hj
      obtain ⟨v, h4, h5⟩ := sr.env j y hj
      refine ⟨v, h4, ?_⟩
      cases y with
      | d y => exact Rep.mono l h5
      | own d =>
        obtain ⟨q, rfl, h6, h7⟩ := h5
        refine ⟨q, rfl, h6, h7.mono l (upd_ne fun z => ?_)⟩
        subst z
        exact e (sr.dist j i q ⟨d, hj⟩ ⟨c, h⟩ h4 hp)
  · obtain ⟨u, e⟩ := sr.dom b hb
    exact ⟨u, by rw [upd_ne (fun (z : b = p) => h2.nf (z ▸ hb))]; exact e⟩
  · obtain ⟨h6, h7⟩ := sr.st j d a h1 h5
    exact ⟨h6, h7.mono l (upd_ne fun e => h2.ni (e ▸ List.mem_of_getElem? h5))⟩
  · have := sr.frame b u h1 h5
    rw [upd_ne]; exact this
    rintro rfl
    rw [h2.new] at h1; cases h1
/-- an own slot is frozen -/
theorem SR.freezeSlot (sr : SR N σ H g fz is) {i : Nat} {c : C} (h : g.env[i]? = some (some (.own c))) (hp : σ[i]? = some (some (.ref p))) :
    SR N σ H { g with env := g.env.set i (some (.d c.d)) } (fun b => fz b ∨ b = p) is ∧ Rep N.K is (fun b => fz b ∨ b = p) H (.ref p) c.d := by
  obtain ⟨q, h1, h2, h3⟩ := sr.own_at h
  rw [hp] at h1; cases h1
  have l : Le fz H is (fun b => fz b ∨ b = p) H is := Le.frz p
  have hi : i < g.env.length := (List.getElem?_eq_some_iff.mp h).1
  have rp : Rep N.K is (fun b => fz b ∨ b = p) H (.ref p) c.d := (h3.mono l rfl).rep (.inr rfl)
  have iso : ∀ j, IsOwn (g.env.set i (some (.d c.d))) j → j ≠ i ∧ IsOwn g.env j := fun j ⟨d, hd⟩ => by
    by_cases e : j = i
    · subst e; rw [List.getElem?_set_self hi] at hd; cases hd
    · rw [List.getElem?_set_ne (Ne.symm e)] at hd; exact ⟨e, d, hd⟩
  refine ⟨⟨fun j y hj => ?_, fun j k q a b => sr.dist j k q (iso j a).2 (iso k b).2, by simp [sr.len], sr.sz, fun b hb => ?_, sr.stl, fun j d a h1 h5 => ?_, sr.nd, sr.frame, fun b hb => ?_, fun b hb => .inl (sr.fz0 b hb), sr.isx, sr.isn⟩, rp⟩
  · by_cases e : j = i
    · subst e
      rw [List.getElem?_set_self hi] at hj; cases hj
      exact ⟨.ref p, hp, rp⟩
    · rw [List.getElem?_set_ne (Ne.symm e)] at hj
      obtain ⟨v, h4, h5⟩ := sr.env j y hj
      refine ⟨v, h4, ?_⟩
      cases y with
      | d y => exact Rep.mono l h5
      | own d =>
        obtain ⟨q, rfl, h6, h7⟩ := h5
        refine ⟨q, rfl, ⟨fun z => ?_, h6.ni, h6.new⟩, h7.mono l rfl⟩
        rcases z with z | rfl
        · exact h6.nf z
        · exact e (sr.dist j i q ⟨d, hj⟩ ⟨c, h⟩ h4 hp)
  · rcases hb with hb | rfl
    · exact sr.dom b hb
    · exact h3.some
  · obtain ⟨h6, h7⟩ := sr.st j d a h1 h5
    refine ⟨fun z => ?_, h7.mono l rfl⟩
    rcases z with z | rfl
    · exact h6 z
    · exact h2.ni (List.mem_of_getElem? h5)
  · rcases hb with hb | rfl
    · exact sr.fzn b hb
    · exact .inr h2.new
end

/-! ### values settled -/
def toD : RV → ST D
  | .d x => ret x
  | .tmp c => ret c.d
  | .own i => fun g => match g.env[i]? with
    | some (some (.own c)) => .ok c.d { g with env := g.env.set i (some (.d c.d)) }
    | _ => .stuck
/-- a new container is frozen, an own one stays as it is -/
def frz : RV → RV
  | .tmp c => .d c.d
  | r => r
/-- what a shared container holds now; other data as it is -/
def look (x : D) (g : Sg) : Option D := match x with
  | .obj i => match g.st[i]? with
    | some c => some c.d
    | none => none
  | x => some x
def peek (r : RV) (g : Sg) : Option D := match r with
  | .d x => look x g
  | .tmp c => some c.d
  | .own i => match g.env[i]? with
    | some (some (.own c)) => some c.d
    | _ => none
/-- data whose own object may change yet -/
def PRep (K : PySem.W.Frag) (is : List Addr) (fz : Addr → Prop) (H : Hp) (v : V) (x : D) : Prop :=
  Rep K is fz H v x ∨ ∃ p c, v = .ref p ∧ x = C.d c ∧ CAt K is fz H p c

section
variable {is is' : List Addr} {fz fz' : Addr → Prop} {H H' : Hp} {N : En} {σ : L2.St} {g g' : Sg} {v : V}
/-- what frz leaves -/
theorem frz_ok (sr : SR N σ H g fz is) {r : RV} (h : RVRep N σ H g fz is v r) : ∃ fz', Le fz H is fz' H is ∧ SR N σ H g fz' is ∧ RVRep N σ H g fz' is v (frz r) ∧ ∀ c, frz r ≠ .tmp c := by
  cases r with
  | d x => exact ⟨fz, .refl, sr, h, fun c e => by cases e⟩
  | own i => exact ⟨fz, .refl, sr, h, fun c e => by cases e⟩
  | tmp c =>
    obtain ⟨p, rfl, h1, h2, h3⟩ := h
    exact ⟨_, Le.frz p, sr.freeze ⟨h1, h3⟩ h2.some, (h2.mono (Le.frz p) rfl).rep (.inr rfl), fun c e => by cases e⟩
theorem Rep.look {x y : D} (h : Rep N.K is fz H v x) (sr : SR N σ H g fz is) (e : look x g = some y) : PRep N.K is fz H v y := by
  unfold Mx.look at e
  split at e
  · rename_i i
    split at e
    · rename_i c hc
      cases e
      cases h with
      | @obj _ a hi => exact .inr ⟨a, c, rfl, rfl, (sr.st i c a hc hi).2⟩
    · cases e
  · cases e; exact .inl h
/-- a settled value later -/
theorem RVRep.later (l : Le fz H is fz' H' is') {r : RV} (h : RVRep N σ H g fz is v r) (hr : ∀ c, r ≠ .tmp c) {x : D} (hx : peek r g' = some x) (sr : SR N σ H' g' fz' is') : PRep N.K is' fz' H' v x := by
  cases r with
  | d y => exact Rep.look (Rep.mono l h) sr hx
  | tmp c => exact absurd rfl (hr c)
  | own i =>
    simp only [peek] at hx
    split at hx
    · rename_i c hc
      cases hx
      obtain ⟨h1, _⟩ := h
      obtain ⟨p, h2, h3, h4⟩ := sr.own_at hc
      rw [h1] at h2; cases h2
      exact .inr ⟨p, c, rfl, rfl, h4⟩
    · cases hx
theorem toD_ok (sr : SR N σ H g fz is) {r : RV} (h : RVRep N σ H g fz is v r) {x : D} {g' : Sg} (e : toD r g = .ok x g') : ∃ fz', Le fz H is fz' H is ∧ SR N σ H g' fz' is ∧ Rep N.K is fz' H v x := by
  cases r with
  | d y => cases e; exact ⟨fz, .refl, sr, h⟩
  | tmp c =>
    cases e
    obtain ⟨p, rfl, h1, h2, h3⟩ := h
    exact ⟨_, Le.frz p, sr.freeze ⟨h1, h3⟩ h2.some, (h2.mono (Le.frz p) rfl).rep (.inr rfl)⟩
  | own i =>
    simp only [toD] at e
    split at e
    · rename_i c hc
      cases e
      obtain ⟨h1, _⟩ := h
      obtain ⟨p, h2, h3, h4⟩ := sr.own_at hc
      rw [h1] at h2; cases h2
      have := sr.freezeSlot hc h1
      exact ⟨_, Le.frz p, this.1, this.2⟩
    · cases e
end
end Mx

set_option Elab.async false
set_option linter.all false
set_option maxRecDepth 100000
/-! expressions -/
namespace Mx
open PySem PySem.Spec PyProof.Rows L2

/-- what the context of a body gives -/
structure MC (X : Cx) (N : En) (W : WX) : Prop where
  hK : N.K = X.K
  nd : X.N.Nodup
  calm : X.calm = true
  un : X.A.units + 65 < cLine
  tk : Takes X W

/-- an operation's result -/
inductive RN where
  | d (x : D) | new (c : C)
def RN.rv : RN → RV
  | .d x => .d x
  | .new c => .tmp c
inductive Grow (fz : Addr → Prop) (H : Hp) : (Addr → Prop) → Hp → Prop
  | same : Grow fz H fz H
  | new (p : Addr) (o : HO) : H p = none → Grow fz H (fun b => fz b ∨ b = p) (upd H p o)
def Fin (K : PySem.W.Frag) (is : List Addr) (fz : Addr → Prop) (H : Hp) (Q : VK) : RN → Prop
  | .d z => ∀ v fz' H', Grow fz H fz' H' → Rep K is fz' H' v z → Q v H'
  | .new c => ∀ p o, H p = none → CAt K is fz (upd H p o) p c → Q (.ref p) (upd H p o)

section
variable {N : En} {xm : XM} {W : WX} {σ : L2.St} {H H1 : Hp} {g : Sg} {fz fz1 : Addr → Prop} {is is1 : List Addr} {Q : VK} {v : V}
theorem Grow.le (sr : SR N σ H g fz is) {fz' : Addr → Prop} {H' : Hp} (gr : Grow fz H fz' H') : Le fz H is fz' H' is := by
  cases gr with
  | same => exact .refl
  | new p o h =>
    have f := sr.free h
    exact (Le.alloc f.own.nf).trans (Le.frz p)
theorem Grow.sr (sr : SR N σ H g fz is) {fz' : Addr → Prop} {H' : Hp} (gr : Grow fz H fz' H') : SR N σ H' g fz' is := by
  cases gr with
  | same => exact sr
  | new p o h =>
    have f := sr.free h
    exact (sr.alter f o).freeze f ⟨_, upd_same⟩
theorem Grow.dom {fz' : Addr → Prop} {H' : Hp} (d : ∀ b, fz b → ∃ o, H b = some o) (gr : Grow fz H fz' H') : ∀ b, fz' b → ∃ o, H' b = some o := by
  cases gr with
  | same => exact d
  | new p o h =>
    intro b hb
    by_cases e : b = p
    · subst e; exact ⟨_, upd_same⟩
    · rcases hb with hb | hb
      · obtain ⟨u, q⟩ := d b hb; exact ⟨u, by rw [upd_ne e]; exact q⟩
      · exact absurd hb e
theorem postE.later (l : Le fz H is fz1 H1 is1) {x : R RV} (h : postE N xm W σ H fz is Q x) : postE N xm W σ H1 fz1 is1 Q x := by
  cases x with
  | stuck => exact h
  | ok r g' => exact fun v H' fz' is' l' => h v H' fz' is' (l.trans l')
  | exc e g' => exact fun cls od H' fz' is' l' => h cls od H' fz' is' (l.trans l')
/-- a part is evaluated, then the rest -/
theorem step {m : ST RV} {f : RV → ST RV} {Q' : VK} (sr : SR N σ H g fz is) (h : postE N xm W σ H fz is Q ((m g).bind f))
    (k : ∀ r g1 v H1 fz1 is1, Le fz H is fz1 H1 is1 → SR N σ H1 g1 fz1 is1 → RVRep N σ H1 g1 fz1 is1 v r → postE N xm W σ H1 fz1 is1 Q (f r g1) → Q' v H1) : lift N xm W m σ H Q' := by
  refine ⟨g, fz, is, sr, ?_⟩
  cases e : m g with
  | stuck => rw [e] at h; exact h
  | exc x g' => rw [e] at h; exact h
  | ok r g1 =>
    rw [e] at h
    intro v H1 fz1 is1 l sr1 rep
    exact k r g1 v H1 fz1 is1 l sr1 rep (postE.later l h)
theorem fin_ok (sr : SR N σ H g fz is) {rn : RN} (h : postE N xm W σ H fz is Q (.ok rn.rv g)) : Fin N.K is fz H Q rn := by
  cases rn with
  | d z => exact fun v fz' H' gr rep => h v H' fz' is (gr.le sr) (gr.sr sr) rep
  | new c =>
    intro p o hp hc
    have f := sr.free hp
    exact h (.ref p) _ fz is (Le.alloc f.own.nf) (sr.alter f o) ⟨p, rfl, f.own, hc, f.ns⟩
end

/-! ### names and constants -/
def mVar (i : Nat) : ST RV := fun g => match g.env[i]? with
  | some (some (.d x)) => .ok (.d x) g
  | some (some (.own _)) => .ok (.own i) g
  | _ => .stuck
def mD (d : D) : ST RV := ret (.d d)
section
variable {X : Cx} {N : En} {xm : XM} {W : WX}
theorem e_var (c : MC X N W) (i : Nat) {x : Str} {pos : Pos} (h : PE X (.Name x pos) (tVar i)) : PE X (.Name x pos) (lift N xm W (mVar i)) := by
  refine imp h fun σ H Q ⟨g, fz, is, sr, h⟩ => ?_
  simp only [mVar] at h
  split at h
  · rename_i y hy
    obtain ⟨v, h1, h2⟩ := sr.env i _ hy
    exact ⟨v, h1, h v H fz is .refl sr h2⟩
  · rename_i y hy
    obtain ⟨p, h1, h2, h3⟩ := sr.own_at hy
    exact ⟨.ref p, h1, h _ H fz is .refl sr ⟨h1, y, hy⟩⟩
  · exact h.elim
theorem e_c {e : Expr} {v : V} {z : D} (c : MC X N W) (h : PE X e (tC v)) (r : ∀ is fz H, Rep X.K is fz H v z) : PE X e (lift N xm W (mD z)) := by
  refine imp h fun σ H Q ⟨g, fz, is, sr, h⟩ => ?_
  exact h v H fz is .refl sr (by show Rep N.K is fz H v z; rw [c.hK]; exact r is fz H)
theorem e_int {i j pos} (c : MC X N W) : PE X (.Constant (.int i) j pos) (lift N xm W (mD (.int i))) := e_c c pe_int fun _ _ _ => .int i
theorem e_bl {b j pos} (c : MC X N W) : PE X (.Constant (.bool b) j pos) (lift N xm W (mD (.bl b))) := e_c c pe_bl fun _ _ _ => .bl b
theorem e_non {j pos} (c : MC X N W) : PE X (.Constant .none j pos) (lift N xm W (mD .non)) := e_c c pe_non fun _ _ _ => .non
theorem e_str {x j pos} (c : MC X N W) (h : okS x = true := by decide +kernel) (hl : (decide (x.length ≤ sizeLine)) = true := by decide +kernel) : PE X (.Constant (.str x) j pos) (lift N xm W (mD (.str x))) := e_c c pe_str fun _ _ _ => .str x ⟨h, of_decide_eq_true hl⟩
/-- a module's constant -/
theorem e_glob {x : Str} {v : V} {u : Value} {z : D} {pos : Pos} (c : MC X N W) (hg : Gl X x) (hm : X.mg x = some u) (r : RelV v u) (rz : ∀ is fz H, Rep X.K is fz H v z) (hd : (x == ("__debug__" : Str)) = false := by decide) :
    PE X (.Name x pos) (lift N xm W (mD z)) := e_c c (pe_glob hg hm r hd) rz

/-! ### two operands -/
def opt (o : Option RN) : ST RV := fun g => match o with
  | some r => .ok r.rv g
  | none => .stuck
def pk2 (f : D → D → Option RN) (a b : RV) (g : Sg) : Option RN := match peek a g, peek b g with
  | some x, some y => f x y
  | _, _ => none
def mBin (f : D → D → Option RN) (ma mb : ST RV) : ST RV := bnd ma fun a => bnd mb fun b => fun g => opt (pk2 f (frz a) (frz b) g) g
/-- an operation by values does what f says of the data -/
def OpF (K : PySem.W.Frag) (r : R2) (f : D → D → Option RN) : Prop := ∀ is fz H v w x y rn Q, (∀ b, fz b → ∃ o, H b = some o) → PRep K is fz H v x → PRep K is fz H w y → f x y = some rn → Fin K is fz H Q rn → r v w H Q
theorem bin_tOp {r : R2} {f : D → D → Option RN} {ma mb : ST RV} (c : MC X N W) (hf : OpF X.K r f) {σ : L2.St} {H : Hp} {Q : VK} (h : lift N xm W (mBin f ma mb) σ H Q) : tOp r (lift N xm W ma) (lift N xm W mb) σ H Q := by
  obtain ⟨g, fz, is, sr, h⟩ := h
  refine step sr h fun ra g1 v H1 fz1 is1 l1 sr1 rep1 h1 => ?_
  obtain ⟨fz1', l1', sr1', rep1', nt1⟩ := frz_ok sr1 rep1
  have h1 := h1.later l1'
  refine step sr1' h1 fun rb g2 w H2 fz2 is2 l2 sr2 rep2 h2 => ?_
  obtain ⟨fz2', l2', sr2', rep2', nt2⟩ := frz_ok sr2 rep2
  have h2 := h2.later l2'
  simp only [opt, pk2] at h2
  split at h2
  · rename_i rn hrn
    split at hrn
    · rename_i x y hx hy
      have px := RVRep.later (l2.trans l2') rep1' nt1 hx sr2'
      have py := RVRep.later .refl rep2' nt2 hy sr2'
      rw [c.hK] at px py
      have fin := fin_ok sr2' h2
      rw [c.hK] at fin
      exact hf is2 fz2' H2 v w x y rn Q sr2'.dom px py hrn fin
    · cases hrn
  · exact h2.elim
theorem e_bin {a b : Expr} {pos : Pos} {op : Operator} {r : R2} {f : D → D → Option RN} {ma mb : ST RV} (c : MC X N W) (ho : OpR X (binaryOp op) r) (hf : OpF X.K r f) (ha : PE X a (lift N xm W ma)) (hb : PE X b (lift N xm W mb)) :
    PE X (.BinOp a op b pos) (lift N xm W (mBin f ma mb)) := imp (pe_op ho ha hb) fun _ _ _ h => bin_tOp c hf h
theorem e_cmp {a b : Expr} {pos : Pos} {op : CmpOp} {r : R2} {f : D → D → Option RN} {ma mb : ST RV} (c : MC X N W) (ho : OpR X (compareOp op) r) (hf : OpF X.K r f) (ha : PE X a (lift N xm W ma)) (hb : PE X b (lift N xm W mb)) (hm : behindInMarks op b = false) :
    PE X (.Compare a [op] [b] pos) (lift N xm W (mBin f ma mb)) := imp (pe_cmpR ho ha hb hm) fun _ _ _ h => bin_tOp c hf h
theorem e_ix {a b : Expr} {pos : Pos} {r : R2} {f : D → D → Option RN} {ma mb : ST RV} (c : MC X N W) (ho : IxR X r) (hf : OpF X.K r f) (ha : PE X a (lift N xm W ma)) (hb : PE X b (lift N xm W mb)) (hs : PlainIx b) :
    PE X (.Subscript a b pos) (lift N xm W (mBin f ma mb)) := imp (pe_ix ho ha hb hs) fun _ _ _ h => bin_tOp c hf h

/-! ### tests -/
def postB (N : En) (xm : XM) (W : WX) (σ : L2.St) (H : Hp) (fz : Addr → Prop) (is : List Addr) (Q : Bool → Hp → Prop) : R Bool → Prop
  | .stuck => False
  | .ok r g' => ∀ H' fz' is', Le fz H is fz' H' is' → SR N σ H' g' fz' is' → Q r H'
  | .exc e g' => ∀ cls od H' fz' is', Le fz H is fz' H' is' → SR N σ H' g' fz' is' → ExRep xm N.K is' fz' H' e cls od → W cls od σ H'
def liftB (N : En) (xm : XM) (W : WX) (m : ST Bool) : TT := fun σ H Q => ∃ g fz is, SR N σ H g fz is ∧ postB N xm W σ H fz is Q (m g)
theorem impT {e : Expr} {t t' : TT} (h : PT X e t) (i : ∀ σ H Q, t' σ H Q → t σ H Q) : PT X e t' := ⟨fun pins s σ H Q I q => h.run pins s σ H Q I (i σ H Q q)⟩
theorem impW {e : Expr} {t t' : TT} (h : PW X e t) (i : ∀ σ H Q, t' σ H Q → t σ H Q) : PW X e t' := ⟨fun wh pins s σ H Q I q => h.run wh pins s σ H Q I (i σ H Q q)⟩
/-- a truth value that is known -/
def asB (r : RV) : ST Bool := fun g => match r with
  | .d (.bl b) => .ok b g
  | _ => .stuck
def mTest (m : ST RV) : ST Bool := bnd m asB
theorem postB.later {σ : L2.St} {H H1 : Hp} {fz fz1 : Addr → Prop} {is is1 : List Addr} {Q : Bool → Hp → Prop} (l : Le fz H is fz1 H1 is1) {x : R Bool} (h : postB N xm W σ H fz is Q x) : postB N xm W σ H1 fz1 is1 Q x := by
  cases x with
  | stuck => exact h
  | ok r g' => exact fun H' fz' is' l' => h H' fz' is' (l.trans l')
  | exc e g' => exact fun cls od H' fz' is' l' => h cls od H' fz' is' (l.trans l')
/-- from a value to a test -/
theorem stepB {m : ST RV} {f : RV → ST Bool} {Q : Bool → Hp → Prop} {Q' : VK} {σ : L2.St} {H : Hp} {g : Sg} {fz : Addr → Prop} {is : List Addr} (sr : SR N σ H g fz is) (h : postB N xm W σ H fz is Q ((m g).bind f))
    (k : ∀ r g1 v H1 fz1 is1, Le fz H is fz1 H1 is1 → SR N σ H1 g1 fz1 is1 → RVRep N σ H1 g1 fz1 is1 v r → postB N xm W σ H1 fz1 is1 Q (f r g1) → Q' v H1) : lift N xm W m σ H Q' := by
  refine ⟨g, fz, is, sr, ?_⟩
  cases e : m g with
  | stuck => rw [e] at h; exact h
  | exc x g' => rw [e] at h; exact h
  | ok r g1 =>
    rw [e] at h
    intro v H1 fz1 is1 l sr1 rep
    exact k r g1 v H1 fz1 is1 l sr1 rep (postB.later l h)
/-- from a test to a test -/
theorem stepT {m : ST Bool} {f : Bool → ST Bool} {Q Q' : Bool → Hp → Prop} {σ : L2.St} {H : Hp} {g : Sg} {fz : Addr → Prop} {is : List Addr} (sr : SR N σ H g fz is) (h : postB N xm W σ H fz is Q ((m g).bind f))
    (k : ∀ r g1 H1 fz1 is1, SR N σ H1 g1 fz1 is1 → postB N xm W σ H1 fz1 is1 Q (f r g1) → Q' r H1) : liftB N xm W m σ H Q' := by
  refine ⟨g, fz, is, sr, ?_⟩
  cases e : m g with
  | stuck => rw [e] at h; exact h
  | exc x g' => rw [e] at h; exact h
  | ok r g1 =>
    rw [e] at h
    intro H1 fz1 is1 l sr1
    exact k r g1 H1 fz1 is1 sr1 (postB.later l h)
/-- from a test to a value -/
theorem stepV {m : ST Bool} {f : Bool → ST RV} {Q : VK} {Q' : Bool → Hp → Prop} {σ : L2.St} {H : Hp} {g : Sg} {fz : Addr → Prop} {is : List Addr} (sr : SR N σ H g fz is) (h : postE N xm W σ H fz is Q ((m g).bind f))
    (k : ∀ r g1 H1 fz1 is1, SR N σ H1 g1 fz1 is1 → postE N xm W σ H1 fz1 is1 Q (f r g1) → Q' r H1) : liftB N xm W m σ H Q' := by
  refine ⟨g, fz, is, sr, ?_⟩
  cases e : m g with
  | stuck => rw [e] at h; exact h
  | exc x g' => rw [e] at h; exact h
  | ok r g1 =>
    rw [e] at h
    intro H1 fz1 is1 l sr1
    exact k r g1 H1 fz1 is1 sr1 (postE.later l h)
theorem asB_ok {r : RV} {g : Sg} {Q : Bool → Hp → Prop} {σ : L2.St} {H : Hp} {fz : Addr → Prop} {is : List Addr} {v : V} (sr : SR N σ H g fz is) (rep : RVRep N σ H g fz is v r) (h : postB N xm W σ H fz is Q (asB r g)) : ∃ b, v = .bl b ∧ Q b H := by
  simp only [asB] at h
  split at h
  · rename_i b
    cases (show Rep N.K is fz H v (.bl b) from rep)
    exact ⟨b, rfl, h H fz is .refl sr⟩
  · exact h.elim
/-- a comparison as a test -/
theorem t_cmp {a b : Expr} {pos : Pos} {op : CmpOp} {r : R2} {f : D → D → Option RN} {ma mb : ST RV} (c : MC X N W) (ho : OpR X (compareOp op) r) (hf : OpF X.K r f) (ha : PE X a (lift N xm W ma)) (hb : PE X b (lift N xm W mb)) (hm : behindInMarks op b = false) :
    PT X (.Compare a [op] [b] pos) (liftB N xm W (mTest (mBin f ma mb))) := by
  refine impT (pt_cmpR ho ha hb hm) fun σ H Q ⟨g, fz, is, sr, h⟩ => ?_
  have h' : lift N xm W (mBin f ma mb) σ H (fun x H' => ∃ k, x = .bl k ∧ Q k H') := stepB sr h fun r g1 v H1 fz1 is1 _ sr1 rep1 h1 => asB_ok sr1 rep1 h1
  exact bin_tOp c hf h'
/-- any expression that gives a bool, as a test -/
theorem t_val {e : Expr} {m : ST RV} (h : PE X e (lift N xm W m)) (he : ∀ whole, isTrue e X.env whole = (do let v ← whole; standAt e.pos; holding [v] (truthy v)) := by intro _; rfl) : PT X e (liftB N xm W (mTest m)) := by
  refine impT (pt_val h he) fun σ H Q ⟨g, fz, is, sr, h⟩ => ?_
  exact stepB sr h fun r g1 v H1 fz1 is1 _ sr1 rep1 h1 => asB_ok sr1 rep1 h1
def mNot (m : ST Bool) : ST Bool := bnd m fun b => ret (!b)
def mAnd (m n : ST Bool) : ST Bool := bnd m fun b => if b = true then n else ret false
def mOr (m n : ST Bool) : ST Bool := bnd m fun b => if b = true then ret true else n
def mIf {α : Type} (t : ST Bool) (m n : ST α) : ST α := bnd t fun b => if b = true then m else n
theorem t_not {a : Expr} {pos : Pos} {m : ST Bool} (ha : PT X a (liftB N xm W m)) : PT X (.UnaryOp .Not a pos) (liftB N xm W (mNot m)) :=
  impT (pt_not ha) fun σ H Q ⟨g, fz, is, sr, h⟩ => stepT sr h fun r g1 H1 fz1 is1 sr1 h1 => h1 H1 fz1 is1 .refl sr1
theorem w_and1 {a : Expr} {pos : Pos} {m : ST Bool} (ha : PT X a (liftB N xm W m)) : PW X (.BoolOp .And [a] pos) (liftB N xm W m) := pw_and1 ha
theorem w_or1 {a : Expr} {pos : Pos} {m : ST Bool} (ha : PT X a (liftB N xm W m)) : PW X (.BoolOp .Or [a] pos) (liftB N xm W m) := pw_or1 ha
theorem w_and {a b : Expr} {rest : List Expr} {pos : Pos} {m n : ST Bool} (ha : PT X a (liftB N xm W m)) (hb : PW X (.BoolOp .And (b :: rest) pos) (liftB N xm W n)) : PW X (.BoolOp .And (a :: b :: rest) pos) (liftB N xm W (mAnd m n)) := by
  refine impW (pw_and ha hb) fun σ H Q ⟨g, fz, is, sr, h⟩ => stepT sr h fun r g1 H1 fz1 is1 sr1 h1 => ?_
  cases r with
  | true => exact iteT ⟨g1, fz1, is1, sr1, h1⟩
  | false => exact iteF (h1 H1 fz1 is1 .refl sr1)
theorem w_or {a b : Expr} {rest : List Expr} {pos : Pos} {m n : ST Bool} (ha : PT X a (liftB N xm W m)) (hb : PW X (.BoolOp .Or (b :: rest) pos) (liftB N xm W n)) : PW X (.BoolOp .Or (a :: b :: rest) pos) (liftB N xm W (mOr m n)) := by
  refine impW (pw_or ha hb) fun σ H Q ⟨g, fz, is, sr, h⟩ => stepT sr h fun r g1 H1 fz1 is1 sr1 h1 => ?_
  cases r with
  | true => exact iteT (h1 H1 fz1 is1 .refl sr1)
  | false => exact iteF ⟨g1, fz1, is1, sr1, h1⟩
theorem e_if {a b t : Expr} {pos : Pos} {m n : ST RV} {mt : ST Bool} (ht : PT X t (liftB N xm W mt)) (ha : PE X a (lift N xm W m)) (hb : PE X b (lift N xm W n)) : PE X (.IfExp t a b pos) (lift N xm W (mIf mt m n)) := by
  refine imp (pe_ifExp ht ha hb) fun σ H Q ⟨g, fz, is, sr, h⟩ => stepV sr h fun r g1 H1 fz1 is1 sr1 h1 => ?_
  cases r with
  | true => exact iteT ⟨g1, fz1, is1, sr1, h1⟩
  | false => exact iteF ⟨g1, fz1, is1, sr1, h1⟩
/-! as values: all operands bools -/
def mAndV (m n : ST RV) : ST RV := bnd m fun r => bnd (asB r) fun b => if b = true then n else ret (.d (.bl false))
def mOrV (m n : ST RV) : ST RV := bnd m fun r => bnd (asB r) fun b => if b = true then ret (.d (.bl true)) else n
def mNotV (m : ST RV) : ST RV := bnd m fun r => bnd (asB r) fun b => ret (.d (.bl (!b)))
theorem asB_v {r : RV} {g : Sg} {f : Bool → ST RV} {Q : VK} {σ : L2.St} {H : Hp} {fz : Addr → Prop} {is : List Addr} {v : V} (rep : RVRep N σ H g fz is v r) (h : postE N xm W σ H fz is Q ((asB r g).bind f)) :
    ∃ b, v = .bl b ∧ postE N xm W σ H fz is Q (f b g) := by
  simp only [asB] at h
  split at h
  · rename_i b
    cases (show Rep N.K is fz H v (.bl b) from rep)
    exact ⟨b, rfl, h⟩
  · exact h.elim
theorem v_one {op} {a : Expr} {pos : Pos} {t : TE} (h : PE X a t) : PE X (.BoolOp op [a] pos) t := pe_one h
theorem v_and {a b : Expr} {rest : List Expr} {pos : Pos} {m n : ST RV} (ha : PE X a (lift N xm W m)) (hb : PE X (.BoolOp .And (b :: rest) pos) (lift N xm W n)) : PE X (.BoolOp .And (a :: b :: rest) pos) (lift N xm W (mAndV m n)) := by
  refine imp (pe_and ha hb) fun σ H Q ⟨g, fz, is, sr, h⟩ => step sr h fun r g1 v H1 fz1 is1 l sr1 rep h1 => ?_
  obtain ⟨b, rfl, h2⟩ := asB_v rep h1
  refine ⟨b, rfl, ?_⟩
  cases b with
  | true => exact iteT ⟨g1, fz1, is1, sr1, h2⟩
  | false => exact iteF (h2 _ H1 fz1 is1 .refl sr1 (.bl false))
theorem v_not {a : Expr} {pos : Pos} {m : ST RV} (ha : PE X a (lift N xm W m)) : PE X (.UnaryOp .Not a pos) (lift N xm W (mNotV m)) := by
  refine imp (pe_not ha) fun σ H Q ⟨g, fz, is, sr, h⟩ => step sr h fun r g1 v H1 fz1 is1 l sr1 rep h1 => ?_
  obtain ⟨b, rfl, h2⟩ := asB_v rep h1
  exact ⟨b, rfl, h2 _ H1 fz1 is1 .refl sr1 (.bl _)⟩
/-- a op1 b op2 c -/
def mChain (f f' : D → D → Option RN) (ma mb mc : ST RV) : ST RV := bnd ma fun a => bnd mb fun b => fun g =>
  (opt (pk2 f (frz a) (frz b) g) g).bind fun r => bnd (asB r) fun k => if k = true then bnd mc fun z => fun g => opt (pk2 f' (frz b) (frz z) g) g else ret (.d (.bl false))
theorem chain_ok {r r' : R2} {f f' : D → D → Option RN} {ma mb mc : ST RV} (c : MC X N W) (hf : OpF X.K r f) (hf' : OpF X.K r' f') {σ : L2.St} {H : Hp} {Q : VK} (h : lift N xm W (mChain f f' ma mb mc) σ H Q) :
    tChain r r' (lift N xm W ma) (lift N xm W mb) (lift N xm W mc) σ H Q := by
  obtain ⟨g, fz, is, sr, h⟩ := h
  refine step sr h fun ra g1 v H1 fz1 is1 l1 sr1 rep1 h1 => ?_
  obtain ⟨fz1', l1', sr1', rep1', nt1⟩ := frz_ok sr1 rep1
  refine step sr1' (h1.later l1') fun rb g2 w H2 fz2 is2 l2 sr2 rep2 h2 => ?_
  obtain ⟨fz2', l2', sr2', rep2', nt2⟩ := frz_ok sr2 rep2
  have h2 := h2.later l2'
  simp only [opt, pk2] at h2
  split at h2
  · rename_i rn hrn
    split at hrn
    · rename_i x y hx hy
      have px := RVRep.later (l2.trans l2') rep1' nt1 hx sr2'
      have py := RVRep.later .refl rep2' nt2 hy sr2'
      have hK := c.hK
      rw [hK] at px py
      refine hf is2 fz2' H2 v w x y rn _ sr2'.dom px py hrn ?_
      cases rn with
      | new c => exact h2.elim
      | d z =>
        intro v3 fz3 H3 gr rep3
        have l3 := gr.le sr2'
        have sr3 := gr.sr sr2'
        obtain ⟨k, rfl, h3⟩ := asB_v (v := v3) (H := H3) (fz := fz3) (is := is2) (N := N) (σ := σ) (show RVRep N σ H3 g2 fz3 is2 v3 (.d z) by show Rep N.K is2 fz3 H3 v3 z; rw [hK]; exact rep3) (h2.later l3)
        refine ⟨k, rfl, ?_⟩
        cases k with
        | false => exact iteF (h3 _ H3 fz3 is2 .refl sr3 (.bl false))
        | true =>
          refine iteT (step sr3 h3 fun rz g4 w4 H4 fz4 is4 l4 sr4 rep4 h4 => ?_)
          obtain ⟨fz4', l4', sr4', rep4', nt4⟩ := frz_ok sr4 rep4
          have h4 : postE N xm W σ H4 fz4' is4 Q (opt (pk2 f' (frz rb) (frz rz) g4) g4) := h4.later l4'
          simp only [opt, pk2] at h4
          split at h4
          · rename_i rn' hrn'
            split at hrn'
            · rename_i x' y' hx' hy'
              have px := RVRep.later (l3.trans (l4.trans l4')) rep2' nt2 hx' sr4'
              have py := RVRep.later .refl rep4' nt4 hy' sr4'
              rw [hK] at px py
              have fin := fin_ok sr4' h4
              rw [hK] at fin
              exact hf' is4 fz4' H4 w w4 x' y' rn' Q sr4'.dom px py hrn' fin
            · cases hrn'
          · exact h4.elim
    · cases hrn
  · exact h2.elim
theorem e_chain {a b z : Expr} {op op' : CmpOp} {r r' : R2} {f f' : D → D → Option RN} {ma mb mc : ST RV} {pos : Pos} (c : MC X N W) (ho : OpR X (compareOp op) r) (ho' : OpR X (compareOp op') r') (hf : OpF X.K r f) (hf' : OpF X.K r' f') (ha : PE X a (lift N xm W ma)) (hb : PE X b (lift N xm W mb)) (hc : PE X z (lift N xm W mc))
    (hm : lastMarks [op, op'] [b, z] = false := by with_unfolding_all rfl) : PE X (.Compare a [op, op'] [b, z] pos) (lift N xm W (mChain f f' ma mb mc)) := imp (pe_chain ho ho' ha hb hc hm) fun _ _ _ h => chain_ok c hf hf' h
theorem t_chain {a b z : Expr} {op op' : CmpOp} {r r' : R2} {f f' : D → D → Option RN} {ma mb mc : ST RV} {pos : Pos} (c : MC X N W) (ho : OpR X (compareOp op) r) (ho' : OpR X (compareOp op') r') (hf : OpF X.K r f) (hf' : OpF X.K r' f') (ha : PE X a (lift N xm W ma)) (hb : PE X b (lift N xm W mb)) (hc : PE X z (lift N xm W mc))
    (hm : lastMarks [op, op'] [b, z] = false := by with_unfolding_all rfl) : PT X (.Compare a [op, op'] [b, z] pos) (liftB N xm W (mTest (mChain f f' ma mb mc))) := by
  refine impT (pt_chain ho ho' ha hb hc hm) fun σ H Q ⟨g, fz, is, sr, h⟩ => ?_
  have h' : lift N xm W (mChain f f' ma mb mc) σ H (fun x H' => ∃ k, x = .bl k ∧ Q k H') := stepB sr h fun r g1 v H1 fz1 is1 _ sr1 rep1 h1 => asB_ok sr1 rep1 h1
  exact chain_ok c hf hf' h'
end
end Mx

set_option Elab.async false
set_option linter.all false
set_option maxRecDepth 100000
/-! argument lists, displays, calls -/
namespace Mx
open PySem PySem.Spec PyProof.Rows L2

/-! ### operands of a built-in: new containers frozen, own ones left -/
def argsP : List (ST RV) → ST (List RV)
  | [] => ret []
  | m :: ms => bnd m fun r => bnd (argsP ms) fun rs => ret (frz r :: rs)
/-- .. of a def, items of a display: all frozen -/
def argsD : List (ST RV) → ST (List D)
  | [] => ret []
  | m :: ms => bnd m fun r => bnd (toD r) fun x => bnd (argsD ms) fun xs => ret (x :: xs)
def RVw (N : En) (σ : L2.St) (H : Hp) (fz : Addr → Prop) (is : List Addr) (v : V) : RV → Prop
  | .d x => Rep N.K is fz H v x
  | .own i => σ[i]? = some (some v)
  | .tmp _ => False
inductive RVs (N : En) (σ : L2.St) (H : Hp) (fz : Addr → Prop) (is : List Addr) : List V → List RV → Prop
  | nil : RVs N σ H fz is [] []
  | cons {v : V} {vs : List V} {r : RV} {rs : List RV} : RVw N σ H fz is v r → RVs N σ H fz is vs rs → RVs N σ H fz is (v :: vs) (r :: rs)
inductive PReps (K : PySem.W.Frag) (is : List Addr) (fz : Addr → Prop) (H : Hp) : List V → List D → Prop
  | nil : PReps K is fz H [] []
  | cons {v : V} {vs : List V} {x : D} {xs : List D} : PRep K is fz H v x → PReps K is fz H vs xs → PReps K is fz H (v :: vs) (x :: xs)
def peeks : List RV → Sg → Option (List D)
  | [], _ => some []
  | r :: rs, g => match peek r g, peeks rs g with
    | some x, some xs => some (x :: xs)
    | _, _ => none
section
variable {N : En} {σ : L2.St} {H H' : Hp} {g g' : Sg} {fz fz' : Addr → Prop} {is is' : List Addr} {v : V}
theorem RVw.of {r : RV} (h : RVRep N σ H g fz is v r) (nt : ∀ c, r ≠ .tmp c) : RVw N σ H fz is v r := by
  cases r with
  | d x => exact h
  | own i => exact h.1
  | tmp c => exact absurd rfl (nt c)
theorem RVw.mono (l : Le fz H is fz' H' is') {r : RV} (h : RVw N σ H fz is v r) : RVw N σ H' fz' is' v r := by
  cases r with
  | d x => exact Rep.mono l h
  | own i => exact h
  | tmp c => exact h
theorem RVs.mono (l : Le fz H is fz' H' is') : ∀ {vs : List V} {rs : List RV}, RVs N σ H fz is vs rs → RVs N σ H' fz' is' vs rs
  | _, _, .nil => .nil
  | _, _, .cons h t => .cons (h.mono l) (RVs.mono l t)
theorem RVw.at {r : RV} (h : RVw N σ H fz is v r) (sr : SR N σ H g fz is) {x : D} (hx : peek r g = some x) : PRep N.K is fz H v x := by
  cases r with
  | d y => exact Rep.look h sr hx
  | tmp c => exact h.elim
  | own i =>
    simp only [peek] at hx
    split at hx
    · rename_i c hc
      cases hx
      obtain ⟨p, h2, h3, h4⟩ := sr.own_at hc
      have h : σ[i]? = some (some v) := h
      rw [h] at h2; cases h2
      exact .inr ⟨p, c, rfl, rfl, h4⟩
    · cases hx
theorem RVs.at (sr : SR N σ H g fz is) : ∀ {vs : List V} {rs : List RV} {xs : List D}, RVs N σ H fz is vs rs → peeks rs g = some xs → PReps N.K is fz H vs xs
  | _, _, xs, .nil, e => by cases e; exact .nil
  | _, r :: rs, xs, .cons h t, e => by
    simp only [peeks] at e
    split at e
    · rename_i x ys h1 h2
      cases e
      exact .cons (h.at sr h1) (RVs.at sr t h2)
    · cases e
end

section
variable {X : Cx} {N : En} {xm : XM} {W : WX}
def postP (N : En) (xm : XM) (W : WX) (σ : L2.St) (H : Hp) (fz : Addr → Prop) (is : List Addr) (Q : List V → Hp → Prop) : R (List RV) → Prop
  | .stuck => False
  | .ok rs g' => ∀ vs H' fz' is', Le fz H is fz' H' is' → SR N σ H' g' fz' is' → RVs N σ H' fz' is' vs rs → Q vs H'
  | .exc e g' => ∀ cls od H' fz' is', Le fz H is fz' H' is' → SR N σ H' g' fz' is' → ExRep xm N.K is' fz' H' e cls od → W cls od σ H'
def liftP (N : En) (xm : XM) (W : WX) (ms : List (ST RV)) : TA := fun σ H Q => ∃ g fz is, SR N σ H g fz is ∧ postP N xm W σ H fz is Q (argsP ms g)
def postD (N : En) (xm : XM) (W : WX) (σ : L2.St) (H : Hp) (fz : Addr → Prop) (is : List Addr) (Q : List V → Hp → Prop) : R (List D) → Prop
  | .stuck => False
  | .ok rs g' => ∀ vs H' fz' is', Le fz H is fz' H' is' → SR N σ H' g' fz' is' → RepA N.K is' fz' H' vs rs → Q vs H'
  | .exc e g' => ∀ cls od H' fz' is', Le fz H is fz' H' is' → SR N σ H' g' fz' is' → ExRep xm N.K is' fz' H' e cls od → W cls od σ H'
def liftD (N : En) (xm : XM) (W : WX) (ms : List (ST RV)) : TA := fun σ H Q => ∃ g fz is, SR N σ H g fz is ∧ postD N xm W σ H fz is Q (argsD ms g)
theorem postP.later {σ : L2.St} {H H1 : Hp} {fz fz1 : Addr → Prop} {is is1 : List Addr} {Q : List V → Hp → Prop} (l : Le fz H is fz1 H1 is1) {x : R (List RV)} (h : postP N xm W σ H fz is Q x) : postP N xm W σ H1 fz1 is1 Q x := by
  cases x with
  | stuck => exact h
  | ok r g' => exact fun vs H' fz' is' l' => h vs H' fz' is' (l.trans l')
  | exc e g' => exact fun cls od H' fz' is' l' => h cls od H' fz' is' (l.trans l')
theorem postD.later {σ : L2.St} {H H1 : Hp} {fz fz1 : Addr → Prop} {is is1 : List Addr} {Q : List V → Hp → Prop} (l : Le fz H is fz1 H1 is1) {x : R (List D)} (h : postD N xm W σ H fz is Q x) : postD N xm W σ H1 fz1 is1 Q x := by
  cases x with
  | stuck => exact h
  | ok r g' => exact fun vs H' fz' is' l' => h vs H' fz' is' (l.trans l')
  | exc e g' => exact fun cls od H' fz' is' l' => h cls od H' fz' is' (l.trans l')
theorem impA {es : List Expr} {t t' : TA} (h : PA X es t) (i : ∀ σ H Q, t' σ H Q → t σ H Q) : PA X es t' := ⟨fun pos pins s σ H Q I q => h.run pos pins s σ H Q I (i σ H Q q)⟩
theorem p_nil : PA X [] (liftP N xm W []) := impA pa_nil fun σ H Q ⟨g, fz, is, sr, h⟩ => h [] H fz is .refl sr .nil
theorem d_nil : PA X [] (liftD N xm W []) := impA pa_nil fun σ H Q ⟨g, fz, is, sr, h⟩ => h [] H fz is .refl sr .nil
theorem p_cons {e : Expr} {es : List Expr} {m : ST RV} {ms : List (ST RV)} (ha : PE X e (lift N xm W m)) (hr : PA X es (liftP N xm W ms)) (hs : starEach (e :: es) X.env = (false, eval e X.env) :: starEach es X.env := by rfl) : PA X (e :: es) (liftP N xm W (m :: ms)) := by
  refine impA (pa_cons ha hr hs) fun σ H Q ⟨g, fz, is, sr, h⟩ => ⟨g, fz, is, sr, ?_⟩
  simp only [argsP, bnd] at h
  cases e1 : m g with
  | stuck => rw [e1] at h; exact h
  | exc x g' => rw [e1] at h; exact h
  | ok r g1 =>
    rw [e1, bind_ok] at h
    simp only [bnd] at h
    intro v H1 fz1 is1 l1 sr1 rep1
    obtain ⟨fz1', l1', sr1', rep1', nt1⟩ := frz_ok sr1 rep1
    have h := (h.later l1).later l1'
    refine ⟨g1, fz1', is1, sr1', ?_⟩
    cases e2 : argsP ms g1 with
    | stuck => rw [e2] at h; exact h
    | exc x g' => rw [e2] at h; exact h
    | ok rs g2 =>
      rw [e2, bind_ok] at h
      intro vs H2 fz2 is2 l2 sr2 rep2
      exact h (v :: vs) H2 fz2 is2 l2 sr2 (.cons ((RVw.of rep1' nt1).mono l2) rep2)
theorem d_cons {e : Expr} {es : List Expr} {m : ST RV} {ms : List (ST RV)} (ha : PE X e (lift N xm W m)) (hr : PA X es (liftD N xm W ms)) (hs : starEach (e :: es) X.env = (false, eval e X.env) :: starEach es X.env := by rfl) : PA X (e :: es) (liftD N xm W (m :: ms)) := by
  refine impA (pa_cons ha hr hs) fun σ H Q ⟨g, fz, is, sr, h⟩ => ⟨g, fz, is, sr, ?_⟩
  simp only [argsD, bnd] at h
  cases e1 : m g with
  | stuck => rw [e1] at h; exact h
  | exc x g' => rw [e1] at h; exact h
  | ok r g1 =>
    rw [e1, bind_ok] at h
    simp only [bnd] at h
    intro v H1 fz1 is1 l1 sr1 rep1
    cases e3 : toD r g1 with
    | stuck => rw [e3] at h; exact h.elim
    | exc x g' =>
      exfalso
      cases r <;> simp only [toD, ret] at e3
      · cases e3
      · cases e3
      · split at e3 <;> cases e3
    | ok x g3 =>
      rw [e3, bind_ok] at h
      simp only [bnd] at h
      obtain ⟨fz1', l1', sr1', rep1'⟩ := toD_ok sr1 rep1 e3
      have h := (h.later l1).later l1'
      refine ⟨g3, fz1', is1, sr1', ?_⟩
      cases e2 : argsD ms g3 with
      | stuck => rw [e2] at h; exact h
      | exc x g' => rw [e2] at h; exact h
      | ok rs g2 =>
        rw [e2, bind_ok] at h
        intro vs H2 fz2 is2 l2 sr2 rep2
        exact h (v :: vs) H2 fz2 is2 l2 sr2 (.cons (rep1'.mono l2) rep2)

/-! ### (a, b), [a, b] -/
def mTup (ms : List (ST RV)) : ST RV := bnd (argsD ms) fun xs => if xs.length ≤ sizeLine then ret (.d (.tup xs)) else stop
def mLst (ms : List (ST RV)) : ST RV := bnd (argsD ms) fun xs => if xs.length ≤ sizeLine then ret (.tmp (.lst xs)) else stop
/-- through a list of frozen arguments -/
theorem stepD {ms : List (ST RV)} {f : List D → ST RV} {Q : VK} {Q' : List V → Hp → Prop} {σ : L2.St} {H : Hp} {g : Sg} {fz : Addr → Prop} {is : List Addr} (sr : SR N σ H g fz is) (h : postE N xm W σ H fz is Q ((argsD ms g).bind f))
    (k : ∀ xs g1 vs H1 fz1 is1, Le fz H is fz1 H1 is1 → SR N σ H1 g1 fz1 is1 → RepA N.K is1 fz1 H1 vs xs → postE N xm W σ H1 fz1 is1 Q (f xs g1) → Q' vs H1) : liftD N xm W ms σ H Q' := by
  refine ⟨g, fz, is, sr, ?_⟩
  cases e : argsD ms g with
  | stuck => rw [e] at h; exact h
  | exc x g' => rw [e] at h; exact h
  | ok r g1 =>
    rw [e] at h
    intro vs H1 fz1 is1 l sr1 rep
    exact k r g1 vs H1 fz1 is1 l sr1 rep (postE.later l h)
theorem stepP {ms : List (ST RV)} {f : List RV → ST RV} {Q : VK} {Q' : List V → Hp → Prop} {σ : L2.St} {H : Hp} {g : Sg} {fz : Addr → Prop} {is : List Addr} (sr : SR N σ H g fz is) (h : postE N xm W σ H fz is Q ((argsP ms g).bind f))
    (k : ∀ xs g1 vs H1 fz1 is1, Le fz H is fz1 H1 is1 → SR N σ H1 g1 fz1 is1 → RVs N σ H1 fz1 is1 vs xs → postE N xm W σ H1 fz1 is1 Q (f xs g1) → Q' vs H1) : liftP N xm W ms σ H Q' := by
  refine ⟨g, fz, is, sr, ?_⟩
  cases e : argsP ms g with
  | stuck => rw [e] at h; exact h
  | exc x g' => rw [e] at h; exact h
  | ok r g1 =>
    rw [e] at h
    intro vs H1 fz1 is1 l sr1 rep
    exact k r g1 vs H1 fz1 is1 l sr1 rep (postE.later l h)
/-- a new frozen tuple -/
theorem new_tup {σ : L2.St} {H : Hp} {g : Sg} {fz : Addr → Prop} {is : List Addr} {Q : VK} {vs : List V} {xs : List D} (sr : SR N σ H g fz is) (h : postE N xm W σ H fz is Q (.ok (.d (.tup xs)) g)) (r : RepA N.K is fz H vs xs) : ∀ p, H p = none → Q (.ref p) (upd H p (.tup vs)) := by
  intro p hp
  have gr : Grow fz H _ _ := Grow.new p (.tup vs) hp
  exact h (.ref p) _ _ is (gr.le sr) (gr.sr sr) (.tup (.inl ⟨.inr rfl, upd_same⟩) (r.mono (gr.le sr)))
theorem new_lst {σ : L2.St} {H : Hp} {g : Sg} {fz : Addr → Prop} {is : List Addr} {Q : VK} {vs : List V} {xs : List D} (sr : SR N σ H g fz is) (h : postE N xm W σ H fz is Q (.ok (.tmp (.lst xs)) g)) (r : RepA N.K is fz H vs xs) : ∀ p, H p = none → Q (.ref p) (upd H p (.lst vs)) := by
  intro p hp
  have f := sr.free hp
  exact h (.ref p) _ fz is (Le.alloc f.own.nf) (sr.alter f _) ⟨p, rfl, f.own, ⟨vs, upd_same, r.mono (Le.alloc f.own.nf)⟩, f.ns⟩
theorem e_tup {es : List Expr} {k : Nat} {pos : Pos} {ms : List (ST RV)} (c : MC X N W) (h : PA X es (liftD N xm W ms)) : PE X (.Tuple es k pos) (lift N xm W (mTup ms)) := by
  refine imp (pe_tup h) fun σ H Q ⟨g, fz, is, sr, h⟩ => stepD sr h fun xs g1 vs H1 fz1 is1 l1 sr1 rep h1 => ?_
  by_cases hz : xs.length ≤ sizeLine
  · rw [if_pos hz] at h1
    exact ⟨by rw [rep.length]; exact hz, new_tup sr1 h1 rep⟩
  · rw [if_neg hz] at h1; exact h1.elim
theorem e_lst {es : List Expr} {pos : Pos} {ms : List (ST RV)} (c : MC X N W) (h : PA X es (liftD N xm W ms)) : PE X (.List es pos) (lift N xm W (mLst ms)) := by
  refine imp (pe_lst h) fun σ H Q ⟨g, fz, is, sr, h⟩ => stepD sr h fun xs g1 vs H1 fz1 is1 l1 sr1 rep h1 => ?_
  by_cases hz : xs.length ≤ sizeLine
  · rw [if_pos hz] at h1
    exact ⟨by rw [rep.length]; exact hz, new_lst sr1 h1 rep⟩
  · rw [if_neg hz] at h1; exact h1.elim

/-! ### built-ins by name -/
def mAps (f : List D → Option RN) (ms : List (ST RV)) : ST RV := bnd (argsP ms) fun rs => fun g => match peeks rs g with
  | some xs => opt (f xs) g
  | none => .stuck
def CallF (K : PySem.W.Frag) (r : List V → Hp → VK → Prop) (f : List D → Option RN) : Prop := ∀ is fz H vs xs rn Q, (∀ b, fz b → ∃ o, H b = some o) → PReps K is fz H vs xs → f xs = some rn → Fin K is fz H Q rn → r vs H Q
theorem aps_ok {r : List V → Hp → VK → Prop} {f : List D → Option RN} {ms : List (ST RV)} (c : MC X N W) (hf : CallF X.K r f) {σ : L2.St} {H : Hp} {Q : VK} (h : lift N xm W (mAps f ms) σ H Q) : tCB r (liftP N xm W ms) σ H Q := by
  obtain ⟨g, fz, is, sr, h⟩ := h
  refine stepP sr h fun rs g1 vs H1 fz1 is1 l1 sr1 rep h1 => ?_
  split at h1
  · rename_i xs hxs
    simp only [opt] at h1
    split at h1
    · rename_i rn hrn
      have px := RVs.at sr1 rep hxs
      have fin := fin_ok sr1 h1
      have hK := c.hK
      rw [hK] at px fin
      exact hf is1 fz1 H1 vs xs rn Q sr1.dom px hrn fin
    · exact h1.elim
  · exact h1.elim
theorem e_callB {x : Str} {id : String} {p pos : Pos} {e : Expr} {es : List Expr} {r : List V → Hp → VK → Prop} {f : List D → Option RN} {ms : List (ST RV)} (c : MC X N W) (hc : CallR X (.builtin id) r) (hf : CallF X.K r f) (hg : Gl X x) (hm : X.mg x = none) (hv : bootBuiltins x = some (.builtin id))
    (ha : PA X (e :: es) (liftP N xm W ms)) (hn : x ≠ "__name__" := by decide) (hdb : (x == ("__debug__" : Str)) = false := by decide)
    (he : starEach (e :: es) X.env = (false, eval e X.env) :: starEach es X.env := by rfl) (hpl : (backTo pos (starEach es X.env)).any (·.1) = false := by rfl) : PE X (.Call (.Name x p) (e :: es) [] pos) (lift N xm W (mAps f ms)) :=
  imp (pe_callB hc hg hm hv ha hn hdb he hpl) fun _ _ _ h => aps_ok c hf h
theorem e_callTy {x : Str} {T : String} {p pos : Pos} {e : Expr} {es : List Expr} {r : List V → Hp → VK → Prop} {f : List D → Option RN} {ms : List (ST RV)} (c : MC X N W) (hc : CallR X (.type T) r) (hf : CallF X.K r f) (hg : Gl X x) (hm : X.mg x = none) (hv : bootBuiltins x = some (.type T))
    (ha : PA X (e :: es) (liftP N xm W ms)) (hn : x ≠ "__name__" := by decide) (hdb : (x == ("__debug__" : Str)) = false := by decide)
    (he : starEach (e :: es) X.env = (false, eval e X.env) :: starEach es X.env := by rfl) (hpl : (backTo pos (starEach es X.env)).any (·.1) = false := by rfl) : PE X (.Call (.Name x p) (e :: es) [] pos) (lift N xm W (mAps f ms)) :=
  imp (pe_callTy hc hg hm hv ha hn hdb he hpl) fun _ _ _ h => aps_ok c hf h

/-! ### defs of the text -/
inductive RF where
  | stuck
  | ok (r : RN) (S : List C)
  | exc (e : Ex) (S : List C)
abbrev FM := List D → List C → RF
/-- what stands at a call: the store, what is frozen -/
structure Pre (K : PySem.W.Frag) (H : Hp) (S : List C) (fz : Addr → Prop) (is : List Addr) : Prop where
  dom : ∀ b, fz b → ∃ o, H b = some o
  stl : S.length = is.length
  st : ∀ (i : Nat) (c : C) (a : Addr), S[i]? = some c → is[i]? = some a → ¬ fz a ∧ CAt K is fz H a c
  nd : is.Nodup
/-- what a call leaves -/
structure Aft (K : PySem.W.Frag) (H : Hp) (fz : Addr → Prop) (is : List Addr) (H' : Hp) (S' : List C) (fz' : Addr → Prop) (is' : List Addr) : Prop where
  pre : Pre K H' S' fz' is'
  le : Le fz H is fz' H' is'
  frame : ∀ b o, H b = some o → b ∉ is → H' b = some o ∨ (fz b ∧ ∃ (ob : Obj) (ks : List (Key × V)), o = .dK ks ∧ H' b = some (.frz ob (.dK ks)))
  fzn : ∀ b, fz' b → fz b ∨ H b = none
  isn : ∀ a ∈ is', a ∈ is ∨ H a = none
def RNRep (K : PySem.W.Frag) (H : Hp) (fz' : Addr → Prop) (is' : List Addr) (H' : Hp) (v : V) : RN → Prop
  | .d x => Rep K is' fz' H' v x
  | .new c => ∃ p, v = .ref p ∧ H p = none ∧ ¬ fz' p ∧ p ∉ is' ∧ CAt K is' fz' H' p c
def postF (K : PySem.W.Frag) (xm : XM) (H : Hp) (fz : Addr → Prop) (is : List Addr) (Q : VK) (E : XK) : RF → Prop
  | .stuck => False
  | .ok r S' => ∀ v H' fz' is', Aft K H fz is H' S' fz' is' → RNRep K H fz' is' H' v r → Q v H'
  | .exc e S' => ∀ cls od H' fz' is', Aft K H fz is H' S' fz' is' → ExRep xm K is' fz' H' e cls od → E cls od H'
/-- the promise of a def: it does what F says -/
def spF (K : PySem.W.Frag) (xm : XM) (n : Nat) (F : FM) : Sp := fun vs H Q E => vs.length = n ∧ ∃ ds S fz is, Pre K H S fz is ∧ RepA K is fz H vs ds ∧ postF K xm H fz is Q E (F ds S)
def ofF (r : RF) (g : Sg) : R RV := match r with
  | .stuck => .stuck
  | .ok r S => .ok r.rv { g with st := S }
  | .exc e S => .exc e { g with st := S }
def mCall (F : FM) (ms : List (ST RV)) : ST RV := bnd (argsD ms) fun ds => fun g => ofF (F ds g.st) g
theorem SR.pre {σ : L2.St} {H : Hp} {g : Sg} {fz : Addr → Prop} {is : List Addr} (sr : SR N σ H g fz is) : Pre N.K H g.st fz is := ⟨sr.dom, sr.stl, sr.st, sr.nd⟩
/-- behind a call -/
theorem SR.after {σ : L2.St} {H H' : Hp} {g : Sg} {fz fz' : Addr → Prop} {is is' : List Addr} {S' : List C} (sr : SR N σ H g fz is) (a : Aft N.K H fz is H' S' fz' is') : SR N σ H' { g with st := S' } fz' is' := by
  refine ⟨fun i x h => ?_, sr.dist, sr.len, sr.sz, a.pre.dom, a.pre.stl, a.pre.st, a.pre.nd, fun b o h1 h2 => ?_, fun b hb => ?_, fun b hb => a.le.up b (sr.fz0 b hb), sr.isx.trans a.le.ix, fun b hb => ?_⟩
  · obtain ⟨v, h1, h2⟩ := sr.env i x h
    refine ⟨v, h1, ?_⟩
    cases x with
    | d x => exact Rep.mono a.le h2
    | own c =>
      obtain ⟨p, rfl, h3, h4⟩ := h2
      obtain ⟨o, ho⟩ := h4.some
      refine ⟨p, rfl, ⟨fun z => ?_, fun z => ?_, h3.new⟩, h4.mono a.le ?_⟩
      · rcases a.fzn p z with z | z
        · exact h3.nf z
        · rw [ho] at z; cases z
      · rcases a.isn p z with z | z
        · exact h3.ni z
        · rw [ho] at z; cases z
      · rw [ho]; exact (a.frame p o ho h3.ni).resolve_right fun z => h3.nf z.1
  · by_cases hb : b ∈ is
    · rcases sr.isn b hb with z | z
      · exact absurd z h2
      · rw [h1] at z; cases z
    · rcases sr.frame b o h1 h2 with h3 | ⟨h4, ob, ks, rfl, h3⟩
      · rcases a.frame b o h3 hb with h5 | ⟨h5, h6⟩
        · exact .inl h5
        · refine .inr ⟨?_, h6⟩
          rcases sr.fzn b h5 with z | z
          · exact z
          · rw [h1] at z; cases z
      · rcases a.frame b _ h3 hb with h5 | ⟨_, _, _, z, _⟩
        · exact .inr ⟨h4, ob, ks, rfl, h5⟩
        · cases z
  · rcases a.fzn b hb with z | z
    · exact sr.fzn b z
    · right
      cases q : N.H b with
      | none => rfl
      | some o =>
        by_cases hn : b ∈ N.is
        · obtain ⟨u, e⟩ := sr.isd b (sr.isx.subset hn)
          rw [z] at e; cases e
        · rcases sr.frame b o q hn with this | ⟨_, _, _, _, this⟩ <;> (rw [z] at this; cases this)
  · rcases a.isn b hb with z | z
    · exact sr.isn b z
    · right
      cases q : N.H b with
      | none => rfl
      | some o =>
        by_cases hn : b ∈ N.is
        · obtain ⟨u, e⟩ := sr.isd b (sr.isx.subset hn)
          rw [z] at e; cases e
        · rcases sr.frame b o q hn with this | ⟨_, _, _, _, this⟩ <;> (rw [z] at this; cases this)
theorem call_ok {F : FM} {n : Nat} {σ : L2.St} {H : Hp} {Q : VK} {ms : List (ST RV)} (c : MC X N W) (h : lift N xm W (mCall F ms) σ H Q) (hn : ms.length = n) :
    tCallSD (spF X.K xm n F) [] (fun σ cls od H => W cls od σ H) (liftD N xm W ms) σ H Q := by
  have hK := c.hK
  obtain ⟨g, fz, is, sr, h⟩ := h
  have hl : ∀ (ms : List (ST RV)) (g g1 : Sg) (xs : List D), argsD ms g = .ok xs g1 → xs.length = ms.length := by
    intro ms
    induction ms with
    | nil => intro g g1 xs e; cases e; rfl
    | cons m ms ih =>
      intro g g1 xs e
      simp only [argsD, bnd] at e
      cases e1 : m g with
      | stuck => rw [e1] at e; cases e
      | exc x g' => rw [e1] at e; cases e
      | ok r g2 =>
        rw [e1, bind_ok] at e
        simp only [bnd] at e
        cases e3 : toD r g2 with
        | stuck => rw [e3] at e; cases e
        | exc x g' => rw [e3] at e; cases e
        | ok x g3 =>
          rw [e3, bind_ok] at e
          simp only [bnd] at e
          cases e2 : argsD ms g3 with
          | stuck => rw [e2] at e; cases e
          | exc x g' => rw [e2] at e; cases e
          | ok rs g4 =>
            rw [e2] at e
            cases e
            simp [ih _ _ _ e2]
  refine ⟨g, fz, is, sr, ?_⟩
  simp only [mCall, bnd] at h
  cases e : argsD ms g with
  | stuck => rw [e] at h; exact h
  | exc x g' => rw [e] at h; exact h
  | ok xs g1 =>
    rw [e, bind_ok] at h
    intro vs H1 fz1 is1 l1 sr1 rep
    have h := postE.later l1 h
    have pr := sr1.pre
    rw [hK] at rep pr
    refine ⟨by rw [List.append_nil, rep.length, hl _ _ _ _ e]; exact hn, xs, g1.st, fz1, is1, pr, by rw [List.append_nil]; exact rep, ?_⟩
    cases e2 : F xs g1.st with
    | stuck => rw [e2] at h; exact h
    | exc x S' =>
      rw [e2] at h
      intro cls od H' fz' is' a rx
      rw [← hK] at a rx
      exact h cls od H' fz' is' a.le (sr1.after a) rx
    | ok r S' =>
      rw [e2] at h
      intro v H' fz' is' a rx
      rw [← hK] at a rx
      refine h v H' fz' is' a.le (sr1.after a) ?_
      cases r with
      | d x => exact rx
      | new c =>
        obtain ⟨p, rfl, hp, h1, h2, h3⟩ := rx
        have f := sr1.free hp
        exact ⟨p, rfl, ⟨h1, h2, f.own.new⟩, h3, f.ns⟩
theorem e_call {k : Nat} {f : Addr} {fd : FuncData} {ps : List Str} {x : Str} {p pos : Pos} {e : Expr} {es : List Expr} {F : FM} {n : Nat} {ms : List (ST RV)} (c : MC X N W) (hF : FnOk X.prog X.w X.K X.mg X.base (L2.CX X.prog X.w) k f fd ps (spF X.K xm n F)) (hr : Room k X.A) (hg : Gl X x) (hm : X.mg x = some (.ref f)) (hk : PySem.W.keepIn X.K (.ref f) = true)
    (hb : Binds X.K fd ps []) (ha : PA X (e :: es) (liftD N xm W ms)) (hn : ms.length = n := by rfl) (hdb : (x == ("__debug__" : Str)) = false := by decide) (he : starEach (e :: es) X.env = (false, eval e X.env) :: starEach es X.env := by rfl) (hpl : (backTo pos (starEach es X.env)).any (·.1) = false := by rfl) :
    PE X (.Call (.Name x p) (e :: es) [] pos) (lift N xm W (mCall F ms)) :=
  imp (pe_callSD hF hr hg hm hk hb .nil (fun σ => passAt c.tk σ) ha hdb he hpl) fun _ _ _ h => call_ok c h hn
end
end Mx

set_option Elab.async false
set_option linter.all false
set_option maxRecDepth 100000
/-! statements -/
namespace Mx
open PySem PySem.Spec PyProof.Rows L2

inductive RS where
  | stuck
  | nx (g : Sg)
  | ret (r : RN) (S : List C)
  | bk (g : Sg)
  | ct (g : Sg)
  | exc (e : Ex) (g : Sg)
abbrev SM := Sg → RS
def postS (N : En) (xm : XM) (W : WX) (D : Ends) (fz : Addr → Prop) (H : Hp) (is : List Addr) : RS → Prop
  | .stuck => False
  | .nx g' => ∀ σ' H' fz' is', Le fz H is fz' H' is' → SR N σ' H' g' fz' is' → D.nx σ' H'
  | .bk g' => ∀ σ' H' fz' is', Le fz H is fz' H' is' → SR N σ' H' g' fz' is' → D.bk σ' H'
  | .ct g' => ∀ σ' H' fz' is', Le fz H is fz' H' is' → SR N σ' H' g' fz' is' → D.ct σ' H'
  | .ret r S' => ∀ v H' fz' is', Aft N.K N.H N.fz N.is H' S' fz' is' → RNRep N.K N.H fz' is' H' v r → D.rt v H'
  | .exc e g' => ∀ cls od σ' H' fz' is', Le fz H is fz' H' is' → SR N σ' H' g' fz' is' → ExRep xm N.K is' fz' H' e cls od → W cls od σ' H'
def liftS (N : En) (xm : XM) (W : WX) (m : SM) : TS := fun D σ H => ∃ g fz is, SR N σ H g fz is ∧ postS N xm W D fz H is (m g)
theorem impS {X : Cx} {s : Stmt} {t t' : TS} (h : PS X s t) (i : ∀ D σ H, t' D σ H → t D σ H) : PS X s t' := ⟨fun pins s σ H D I q => h.run pins s σ H D I (i D σ H q)⟩
theorem impSs {X : Cx} {s : List Stmt} {t t' : TS} (h : PSs X s t) (i : ∀ D σ H, t' D σ H → t D σ H) : PSs X s t' := ⟨fun pins s σ H D I q => h.run pins s σ H D I (i D σ H q)⟩
def RS.bind : RS → SM → RS
  | .nx g, f => f g
  | r, _ => r
@[simp] theorem RS.bind_nx (g : Sg) (f : SM) : (RS.nx g).bind f = f g := rfl
@[simp] theorem RS.bind_stuck (f : SM) : RS.stuck.bind f = .stuck := rfl
@[simp] theorem RS.bind_ret (r : RN) (S : List C) (f : SM) : (RS.ret r S).bind f = .ret r S := rfl
@[simp] theorem RS.bind_bk (g : Sg) (f : SM) : (RS.bk g).bind f = .bk g := rfl
@[simp] theorem RS.bind_ct (g : Sg) (f : SM) : (RS.ct g).bind f = .ct g := rfl
@[simp] theorem RS.bind_exc (e : Ex) (g : Sg) (f : SM) : (RS.exc e g).bind f = .exc e g := rfl
/-- from an evaluation to a statement -/
def R.to {α : Type} : R α → (α → SM) → RS
  | .stuck, _ => .stuck
  | .ok a g, f => f a g
  | .exc e g, _ => .exc e g
@[simp] theorem R.to_ok {α : Type} (a : α) (g : Sg) (f : α → SM) : (R.ok a g).to f = f a g := rfl
@[simp] theorem R.to_stuck {α : Type} (f : α → SM) : (R.stuck).to f = .stuck := rfl
@[simp] theorem R.to_exc {α : Type} (e : Ex) (g : Sg) (f : α → SM) : (R.exc e g).to f = .exc e g := rfl

section
variable {X : Cx} {N : En} {xm : XM} {W : WX}
theorem postS.later {D : Ends} {H H1 : Hp} {fz fz1 : Addr → Prop} {is is1 : List Addr} (l : Le fz H is fz1 H1 is1) {x : RS} (h : postS N xm W D fz H is x) : postS N xm W D fz1 H1 is1 x := by
  cases x with
  | stuck => exact h
  | nx g' => exact fun σ' H' fz' is' l' => h σ' H' fz' is' (l.trans l')
  | bk g' => exact fun σ' H' fz' is' l' => h σ' H' fz' is' (l.trans l')
  | ct g' => exact fun σ' H' fz' is' l' => h σ' H' fz' is' (l.trans l')
  | ret r S' => exact h
  | exc e g' => exact fun cls od σ' H' fz' is' l' => h cls od σ' H' fz' is' (l.trans l')
def sSeq (m n : SM) : SM := fun g => (m g).bind n
def sNil : SM := fun g => .nx g
theorem s_nil : PSs X [] (liftS N xm W sNil) := impSs pss_nil fun D σ H ⟨g, fz, is, sr, h⟩ => h σ H fz is .refl sr
theorem seq_ok {m n : SM} {D : Ends} {σ : L2.St} {H : Hp} (h : liftS N xm W (sSeq m n) D σ H) : tSeq (liftS N xm W m) (liftS N xm W n) D σ H := by
  obtain ⟨g, fz, is, sr, h⟩ := h
  refine ⟨g, fz, is, sr, ?_⟩
  simp only [sSeq] at h
  cases e : m g with
  | nx g1 =>
    rw [e] at h
    exact fun σ1 H1 fz1 is1 l1 sr1 => ⟨g1, fz1, is1, sr1, postS.later l1 h⟩
  | _ => rw [e] at h; exact h
theorem s_cons {st : Stmt} {rest : List Stmt} {m n : SM} (h1 : PS X st (liftS N xm W m)) (h2 : PSs X rest (liftS N xm W n)) : PSs X (st :: rest) (liftS N xm W (sSeq m n)) := impSs (pss_cons h1 h2) fun _ _ _ => seq_ok
theorem s_one {st : Stmt} {m : SM} (h1 : PS X st (liftS N xm W m)) : PSs X [st] (liftS N xm W m) := pss_one h1
def sPass : SM := fun g => .nx g
def sBreak : SM := fun g => .bk g
def sCont : SM := fun g => .ct g
/-- through an expression -/
theorem stepS {m : ST RV} {f : RV → SM} {D : Ends} {Q' : VK} {σ : L2.St} {H : Hp} {g : Sg} {fz : Addr → Prop} {is : List Addr} (sr : SR N σ H g fz is) (h : postS N xm W D fz H is ((m g).to f))
    (k : ∀ r g1 v H1 fz1 is1, Le fz H is fz1 H1 is1 → SR N σ H1 g1 fz1 is1 → RVRep N σ H1 g1 fz1 is1 v r → postS N xm W D fz1 H1 is1 (f r g1) → Q' v H1) : lift N xm W m σ H Q' := by
  refine ⟨g, fz, is, sr, ?_⟩
  cases e : m g with
  | stuck => rw [e] at h; exact h
  | exc x g' => rw [e] at h; exact fun cls od H' fz' is' l sr' => h cls od σ H' fz' is' l sr'
  | ok r g1 =>
    rw [e] at h
    intro v H1 fz1 is1 l sr1 rep
    exact k r g1 v H1 fz1 is1 l sr1 rep (postS.later l h)
theorem stepSB {m : ST Bool} {f : Bool → SM} {D : Ends} {Q' : Bool → Hp → Prop} {σ : L2.St} {H : Hp} {g : Sg} {fz : Addr → Prop} {is : List Addr} (sr : SR N σ H g fz is) (h : postS N xm W D fz H is ((m g).to f))
    (k : ∀ r g1 H1 fz1 is1, Le fz H is fz1 H1 is1 → SR N σ H1 g1 fz1 is1 → postS N xm W D fz1 H1 is1 (f r g1) → Q' r H1) : liftB N xm W m σ H Q' := by
  refine ⟨g, fz, is, sr, ?_⟩
  cases e : m g with
  | stuck => rw [e] at h; exact h
  | exc x g' => rw [e] at h; exact fun cls od H' fz' is' l sr' => h cls od σ H' fz' is' l sr'
  | ok r g1 =>
    rw [e] at h
    intro H1 fz1 is1 l sr1
    exact k r g1 H1 fz1 is1 l sr1 (postS.later l h)
/-! ### stores -/
/-- a slot takes a value: a new container is the slot's own -/
def put (i : Nat) (r : RV) : SM := fun g => match r with
  | .d x => .nx { g with env := g.env.set i (some (.d x)) }
  | .tmp c => .nx { g with env := g.env.set i (some (.own c)) }
  | .own j => match g.env[j]? with
    | some (some (.own c)) => .nx { g with env := (g.env.set j (some (.d c.d))).set i (some (.d c.d)) }
    | _ => .stuck
theorem put_ok {i : Nat} (hi : i < N.n) {r : RV} {D : Ends} {σ : L2.St} {H : Hp} {g : Sg} {fz : Addr → Prop} {is : List Addr} {v : V} (sr : SR N σ H g fz is) (rep : RVRep N σ H g fz is v r) (h : postS N xm W D fz H is (put i r g)) : D.nx (σ.set i (some v)) H := by
  have hs : i < σ.length := by rw [sr.sz]; exact hi
  cases r with
  | d x => exact h _ H fz is .refl (sr.setD rep hs)
  | tmp c =>
    obtain ⟨p, rfl, h1, h2, h3⟩ := rep
    exact h _ H fz is .refl (sr.setO ⟨h1, h3⟩ h2 hs)
  | own j =>
    simp only [put] at h
    split at h
    · rename_i c hc
      obtain ⟨h1, _⟩ := rep
      obtain ⟨p, h2, h3, h4⟩ := sr.own_at hc
      rw [h1] at h2; cases h2
      obtain ⟨sr2, rp⟩ := sr.freezeSlot hc h1
      exact h _ H _ is (Le.frz p) (sr2.setD rp hs)
    · exact h.elim
def sSet (i : Nat) (m : ST RV) : SM := fun g => (m g).to (put i)
theorem set_ok {i : Nat} {m : ST RV} (hi : i < N.n) {D : Ends} {σ : L2.St} {H : Hp} (h : liftS N xm W (sSet i m) D σ H) : tAsg (lift N xm W m) (gName i) D σ H := by
  obtain ⟨g, fz, is, sr, h⟩ := h
  exact stepS sr h fun r g1 v H1 fz1 is1 l1 sr1 rep h1 => put_ok hi sr1 rep h1
theorem s_set {i : Nat} {x : Str} {e : Expr} {m : ST RV} {pos pos' : Pos} (c : MC X N W) (hi : X.N[i]? = some x) (hx : Loc X.env.scope x) (he : PE X e (lift N xm W m)) (hn : i < N.n := by decide) (hs : swapsWith e (some (.Name x pos')) pos.line X.env = pure false := by rfl)
    (hf : X.fn x = true ∨ X.env.scope.names.lookup x = some .local := by first | exact .inl rfl | exact .inr rfl | assumption) : PS X (.Assign [.Name x pos'] e pos) (liftS N xm W (sSet i m)) := impS (ps_set c.nd hi hx he hs hf) fun _ _ _ => set_ok hn
/-- an expression, dropped -/
def sExpr (m : ST RV) : SM := fun g => (m g).to fun _ g => .nx g
theorem s_expr {e : Expr} {m : ST RV} {pos : Pos} (he : PE X e (lift N xm W m)) (hs : swapsWith e none pos.line X.env = pure false := by rfl) : PS X (.Expr e pos) (liftS N xm W (sExpr m)) :=
  impS (ps_expr he hs) fun D σ H ⟨g, fz, is, sr, h⟩ => stepS sr h fun r g1 v H1 fz1 is1 l1 sr1 rep h1 => h1 σ H1 fz1 is1 .refl sr1
/-- return -/
def outR (r : RV) (g : Sg) : Option RN := match r with
  | .d x => some (.d x)
  | .tmp c => some (.new c)
  | .own i => match g.env[i]? with
    | some (some (.own c)) => some (.new c)
    | _ => none
def sRet (m : ST RV) : SM := fun g => (m g).to fun r g => match outR r g with
  | some n => .ret n g.st
  | none => .stuck
/-- the entry is sound -/
def Ent (N : En) : Prop := ∃ S, Pre N.K N.H S N.fz N.is
theorem SR.aft {σ : L2.St} {H : Hp} {g : Sg} {fz : Addr → Prop} {is : List Addr} (sr : SR N σ H g fz is) (en : Ent N) : Aft N.K N.H N.fz N.is H g.st fz is := by
  obtain ⟨S, en⟩ := en
  refine ⟨sr.pre, ⟨sr.fz0, fun b hb => ?_, sr.isx⟩, sr.frame, sr.fzn, sr.isn⟩
  obtain ⟨o, ho⟩ := en.dom b hb
  have hn : b ∉ N.is := by
    intro hm
    obtain ⟨i, hi, e⟩ := List.getElem_of_mem hm
    have hl : i < S.length := by rw [en.stl]; exact hi
    exact (en.st i S[i] b (List.getElem?_eq_getElem hl) (by rw [List.getElem?_eq_getElem hi, e])).1 hb
  rcases sr.frame b o ho hn with z | ⟨_, ob, ks, rfl, z⟩
  · exact .inl (z.trans ho.symm)
  · exact .inr ⟨ob, ks, ho, z⟩
theorem s_ret {e : Expr} {m : ST RV} {pos : Pos} (en : Ent N) (he : PE X e (lift N xm W m)) : PS X (.Return (some e) pos) (liftS N xm W (sRet m)) := by
  refine impS (ps_ret he) fun D σ H ⟨g, fz, is, sr, h⟩ => stepS sr h fun r g1 v H1 fz1 is1 l1 sr1 rep h1 => ?_
  have a := sr1.aft en
  split at h1
  · rename_i n hn
    refine h1 v H1 fz1 is1 a ?_
    cases r with
    | d x => cases hn; exact rep
    | tmp c =>
      cases hn
      obtain ⟨p, rfl, h2, h3, h4⟩ := rep
      exact ⟨p, rfl, h2.new, h2.nf, h2.ni, h3⟩
    | own i =>
      simp only [outR] at hn
      split at hn
      · rename_i c hc
        cases hn
        obtain ⟨h2, _⟩ := rep
        obtain ⟨p, h3, h4, h5⟩ := sr1.own_at hc
        rw [h2] at h3; cases h3
        exact ⟨p, rfl, h4.new, h4.nf, h4.ni, h5⟩
      · cases hn
  · exact h1.elim
def sRetN : SM := fun g => .ret (.d .non) g.st
/-- if -/
def sIf (t : ST Bool) (m n : SM) : SM := fun g => (t g).to fun b => if b = true then m else n
theorem s_if {t : Expr} {a b : List Stmt} {pos : Pos} {mt : ST Bool} {m n : SM} (ht : PT X t (liftB N xm W mt)) (ha : PSs X a (liftS N xm W m)) (hb : PSs X b (liftS N xm W n)) : PS X (.If t a b pos) (liftS N xm W (sIf mt m n)) := by
  refine impS (ps_if ht ha hb) fun D σ H ⟨g, fz, is, sr, h⟩ => stepSB sr h fun r g1 H1 fz1 is1 l1 sr1 h1 => ?_
  cases r with
  | true => exact iteT ⟨g1, fz1, is1, sr1, h1⟩
  | false => exact iteF ⟨g1, fz1, is1, sr1, h1⟩
/-! ### while -/
def sWhile (t : ST Bool) (b : SM) : Nat → SM
  | 0 => fun _ => .stuck
  | n + 1 => fun g => (t g).to fun k g => if k = true then (match b g with
      | .nx g => sWhile t b n g
      | .ct g => sWhile t b n g
      | .bk g => .nx g
      | r => r) else .nx g
theorem s_while {t : Expr} {body : List Stmt} {pos : Pos} {mt : ST Bool} {m : SM} {n : Nat} (hp : PassesOwn (model X.prog X.w) X.A X.env X.xe) (ht : PT X t (liftB N xm W mt)) (hb : PSs X body (liftS N xm W m)) : PS X (.While t body [] pos) (liftS N xm W (sWhile mt m n)) := by
  refine impS (ps_while hp ht hb) fun D σ H ⟨g, fz, is, sr, h⟩ => ?_
  refine ⟨fun k σ H => ∃ g' fz' is', SR N σ H g' fz' is' ∧ postS N xm W D fz' H is' (sWhile mt m k g'), ⟨n, g, fz, is, sr, h⟩, ?_⟩
  rintro k σ1 H1 ⟨g1, fz1, is1, sr1, h1⟩
  cases k with
  | zero => exact h1.elim
  | succ k =>
    refine stepSB sr1 h1 fun r g2 H2 fz2 is2 l2 sr2 h2 => ?_
    cases r with
    | false => exact iteF (h2 σ1 H2 fz2 is2 .refl sr2)
    | true =>
      refine iteT ⟨fun σ H => ∃ g' fz' is', SR N σ H g' fz' is' ∧ postS N xm W D fz' H is' (sWhile mt m k g'), fun σ' H' q => ⟨k, Nat.lt_succ_self k, q⟩, g2, fz2, is2, sr2, ?_⟩
      simp only [if_true] at h2
      cases e : m g2 with
      | stuck => rw [e] at h2; exact h2
      | nx g3 => rw [e] at h2; exact fun σ3 H3 fz3 is3 l3 sr3 => ⟨g3, fz3, is3, sr3, h2.later l3⟩
      | ct g3 => rw [e] at h2; exact fun σ3 H3 fz3 is3 l3 sr3 => ⟨g3, fz3, is3, sr3, h2.later l3⟩
      | bk g3 => rw [e] at h2; exact h2
      | ret r S => rw [e] at h2; exact h2
      | exc x g3 => rw [e] at h2; exact h2

/-! ### a def by its body -/
/-- the slots at the entry -/
def env0 (n : Nat) (ds : List D) : List (Option SD) := ds.map (fun d => some (.d d)) ++ List.replicate (n - ds.length) none
/-- what a body makes of its arguments -/
def fnM (n : Nat) (b : SM) : FM := fun ds S => match b { env := env0 n ds, st := S } with
  | .nx g => .ok (.d .non) g.st
  | .ret r S => .ok r S
  | .exc e g => .exc e g.st
  | _ => .stuck
end
section
variable {P : Program} {w : World} {K : PySem.W.Frag} {mg : Str → Option Value} {base : Heap} {xm : XM}
theorem start_sr {n k : Nat} {Nm : List Str} {vs : List V} {ds : List D} {S : List C} {H : Hp} {fz : Addr → Prop} {is : List Addr} (pr : Pre K H S fz is) (rep : RepA K is fz H vs ds) (hn : Nm.length = n) (hl : vs.length ≤ n) :
    SR ⟨K, n, H, is, fz⟩ (L2.start Nm vs) H { env := env0 n ds, st := S } fz is := by
  have hd : ds.length = vs.length := rep.length.symm
  have el : ∀ (i : Nat) (x : SD), (env0 n ds)[i]? = some (some x) → ∃ d, ds[i]? = some d ∧ x = .d d := fun i x h => by
    unfold env0 at h
    by_cases hi : i < ds.length
    · rw [List.getElem?_append_left (by simpa using hi), List.getElem?_map] at h
      rw [List.getElem?_eq_getElem hi] at h ⊢
      cases h
      exact ⟨_, rfl, rfl⟩
    · rw [List.getElem?_append_right (by simpa using hi), List.getElem?_replicate] at h
      split at h <;> cases h
  refine ⟨fun i x h => ?_, fun i j p ⟨c, h⟩ => ?_, ?_, ?_, pr.dom, pr.stl, pr.st, pr.nd, fun b o h _ => .inl h, fun b hb => .inl hb, fun b hb => hb, List.prefix_refl _, fun a ha => .inl ha⟩
  · obtain ⟨d, h1, rfl⟩ := el i x h
    obtain ⟨v, h2, h3⟩ := rep.get h1
    refine ⟨v, ?_, h3⟩
    have hi := (List.getElem?_eq_some_iff.mp h2).1
    unfold L2.start
    rw [List.getElem?_append_left (by simpa using hi), List.getElem?_map, h2]
    rfl
  · obtain ⟨d, _, e⟩ := el i _ h
    cases e
  · simp only [env0, L2.start, List.length_append, List.length_map, List.length_replicate]
    omega
  · simp only [L2.start, List.length_append, List.length_map, List.length_replicate]
    omega
end
end Mx

set_option Elab.async false
set_option linter.all false
set_option maxRecDepth 100000
/-! for, comprehensions -/
namespace Mx
open PySem PySem.Spec PyProof.Rows L2

/-- J serves xs, whatever comes behind the state -/
structure Serves (K : PySem.W.Frag) (J : It) (xs : List D) (fz0 : Addr → Prop) (H0 : Hp) (is0 : List Addr) : Prop where
  ex : ∃ (G : Hp → Prop) (Y : Nat → Hp → V → Hp → Prop), Walk J xs.length G Y ∧ (∀ fz H is, Le fz0 H0 is0 fz H is → G H) ∧
    ∀ i x fz H is v H', xs[i]? = some x → Le fz0 H0 is0 fz H is → Y i H v H' → ∃ fz', Grow fz H fz' H' ∧ Rep K is fz' H' v x
def postI (N : En) (xm : XM) (W : WX) (σ : L2.St) (H : Hp) (fz : Addr → Prop) (is : List Addr) (Q : It → Hp → Prop) : R (List D) → Prop
  | .stuck => False
  | .ok xs g' => ∀ J H' fz' is', Le fz H is fz' H' is' → SR N σ H' g' fz' is' → Serves N.K J xs fz' H' is' → Q J H'
  | .exc e g' => ∀ cls od H' fz' is', Le fz H is fz' H' is' → SR N σ H' g' fz' is' → ExRep xm N.K is' fz' H' e cls od → W cls od σ H'
def liftI (N : En) (xm : XM) (W : WX) (m : ST (List D)) : TI := fun σ H Q => ∃ g fz is, SR N σ H g fz is ∧ postI N xm W σ H fz is Q (m g)
section
variable {X : Cx} {N : En} {xm : XM} {W : WX} {tg iter : Expr}
theorem impI {t t' : TI} (h : PI X tg iter t) (i : ∀ σ H Q, t' σ H Q → t σ H Q) : PI X tg iter t' := ⟨fun pins s σ H R I q => h.run pins s σ H R I (i σ H R q)⟩
theorem PI.or {t t' : TI} (h : PI X tg iter t) (h' : PI X tg iter t') : PI X tg iter (fun σ H R => t σ H R ∨ t' σ H R) := ⟨fun pins s σ H R I q => q.elim (h.run pins s σ H R I) (h'.run pins s σ H R I)⟩
theorem postI.later {σ : L2.St} {H H1 : Hp} {fz fz1 : Addr → Prop} {is is1 : List Addr} {Q : It → Hp → Prop} (l : Le fz H is fz1 H1 is1) {x : R (List D)} (h : postI N xm W σ H fz is Q x) : postI N xm W σ H1 fz1 is1 Q x := by
  cases x with
  | stuck => exact h
  | ok r g' => exact fun J H' fz' is' l' => h J H' fz' is' (l.trans l')
  | exc e g' => exact fun cls od H' fz' is' l' => h cls od H' fz' is' (l.trans l')
/-! ### a table is locked -/
def tLk (td : TE) : TE := fun σ H Q => td σ H fun x H1 => ∃ d kvs, x = .ref d ∧ ((∃ o, H1 d = some (.frz o (.dK kvs)) ∧ Q x H1) ∨ (H1 d = some (.dK kvs) ∧ ∀ o, Q x (upd H1 d (.frz o (.dK kvs)))))
theorem pe_lk {e : Expr} {td : TE} (he : PE X e td) : PE X e (tLk td) := ⟨fun pins s σ H Q I h => thn (he.run pins s σ H _ I h) fun u s1 ⟨x, H1, I1, rx, d, kvs, ex, q⟩ => by
  rcases q with ⟨o, h1, q⟩ | ⟨h1, q⟩
  · exact ⟨x, H1, I1, rx, q⟩
  · obtain ⟨od, I2⟩ := I1.lock h1 trivial
    exact ⟨x, _, I2, rx, q od⟩⟩
theorem SR.lock {σ : L2.St} {H : Hp} {g : Sg} {fz : Addr → Prop} {is : List Addr} {d : Addr} {ks : List (Key × V)} {o : Obj} (sr : SR N σ H g fz is) (hz : fz d) (h : H d = some (.dK ks)) :
    Le fz H is fz (upd H d (.frz o (.dK ks))) is ∧ SR N σ (upd H d (.frz o (.dK ks))) g fz is := by
  have l : Le fz H is fz (upd H d (.frz o (.dK ks))) is := ⟨fun _ h => h, fun b _ => by
    by_cases e : b = d
    · subst e; exact .inr ⟨o, ks, h, upd_same⟩
    · exact .inl (upd_ne e), List.prefix_refl _⟩
  refine ⟨l, fun i x e => ?_, sr.dist, sr.len, sr.sz, fun b hb => ?_, sr.stl, fun i c a h1 h2 => ?_, sr.nd, fun b u h1 h2 => ?_, sr.fzn, sr.fz0, sr.isx, sr.isn⟩
  · obtain ⟨v, h1, h2⟩ := sr.env i x e
    refine ⟨v, h1, ?_⟩
    cases x with
    | d x => exact Rep.mono l h2
    | own c =>
      obtain ⟨q, rfl, h3, h4⟩ := h2
      exact ⟨q, rfl, h3, h4.mono l (upd_ne fun e => h3.nf (e ▸ hz))⟩
  · by_cases e : b = d
    · subst e; exact ⟨_, upd_same⟩
    · rw [upd_ne e]; exact sr.dom b hb
  · obtain ⟨h3, h4⟩ := sr.st i c a h1 h2
    exact ⟨h3, h4.mono l (upd_ne fun e => h3 (e ▸ hz))⟩
  · by_cases e : b = d
    · subst e
      rcases sr.frame b u h1 h2 with z | ⟨_, _, _, _, z⟩
      · rw [h] at z
        cases z
        refine .inr ⟨?_, o, ks, rfl, upd_same⟩
        rcases sr.fzn b hz with q | q
        · exact q
        · rw [h1] at q; cases q
      · rw [h] at z; cases z
    · rw [upd_ne e]
      exact sr.frame b u h1 h2
theorem RepK.at {K : PySem.W.Frag} {is : List Addr} {fz : Addr → Prop} {H : Hp} : ∀ {ks : List (Key × V)} {kvs : List (D × D)}, RepK K is fz H ks kvs → ∀ {i : Nat} {k : Key} {v : V} {x : D}, ks[i]? = some (k, v) → (kvs.map (·.1))[i]? = some x → Rep K is fz H (kV k) x
  | _, _, .nil, i, _, _, _, e, _ => by simp at e
  | _, _, .cons (k := k0) ok r t, 0, k, v, x, e, f => by
    simp at e f
    obtain ⟨rfl, rfl⟩ := e
    subst f
    cases k0 with
    | inl i => exact .int i
    | inr s => exact .str s ok
  | _, _, .cons ok r t, i + 1, k, v, x, e, f => RepK.at t (i := i) (by simpa using e) (by simpa using f)
theorem serves_keys {K : PySem.W.Frag} {a : Addr} {o : Obj} {ks : List (Key × V)} {kvs : List (D × D)} {fz : Addr → Prop} {H : Hp} {is : List Addr} (hz : fz a) (h : H a = some (.frz o (.dK ks))) (r : RepK K is fz H ks kvs) : Serves K (Itk a o ks) (kvs.map (·.1)) fz H is := by
  have el : ks.length = (kvs.map (·.1)).length := by rw [r.length, List.length_map]
  refine ⟨⟨_, _, el ▸ walk_keys (d := a) (o := o) (kvs := ks), fun fz' H' is' l => l.at hz h, ?_⟩⟩
  rintro i x fz' H' is' v _ hx l ⟨rfl, k, w, hk, rfl⟩
  exact ⟨fz', .same, (r.at hk hx).mono l⟩

/-! ### what is walked -/
def signs (s : Str) : List D := s.cps.toList.map fun c => D.str ⟨#[c]⟩
def items : D → Option (List D)
  | .lst xs => some xs
  | .tup xs => some xs
  | .scr ns => some (ns.map D.int)
  | .str s => some (signs s)
  | .dct kvs => some (kvs.map (·.1))
  | _ => none
def mItems (m : ST RV) : ST (List D) := bnd m fun r => bnd (toD r) fun x g => match items x with
  | some xs => .ok xs g
  | none => .stuck
theorem Rep.at (l : Le fz0 H0 is0 fz H is) {K : PySem.W.Frag} {vs : List V} {xs : List D} (r : RepA K is0 fz0 H0 vs xs) {i : Nat} {v : V} {x : D} (hx : xs[i]? = some x) (hv : vs[i]? = some v) : Rep K is fz H v x := by
  obtain ⟨v', h1, h2⟩ := r.get hx
  rw [hv] at h1; cases h1
  exact h2.mono l
theorem serves_list {K : PySem.W.Frag} {a : Addr} {vs : List V} {xs : List D} {fz : Addr → Prop} {H : Hp} {is : List Addr} (hz : fz a) (h : H a = some (.lst vs)) (r : RepA K is fz H vs xs) : Serves K (Itl K a) xs fz H is := by
  refine ⟨⟨_, _, r.length ▸ walk_list (K := K) (a := a) (xs := vs), fun fz' H' is' l => .of (l.at hz h), ?_⟩⟩
  rintro i x fz' H' is' v _ hx l ⟨rfl, hv⟩
  exact ⟨fz', .same, Rep.at l r hx hv⟩
theorem serves_tup {K : PySem.W.Frag} {a : Addr} {vs : List V} {xs : List D} {fz : Addr → Prop} {H : Hp} {is : List Addr} (h : (fz a ∧ H a = some (.tup vs)) ∨ StT K a vs) (r : RepA K is fz H vs xs) : Serves K (Itt K a) xs fz H is := by
  refine ⟨⟨_, _, r.length ▸ walk_tup (K := K) (a := a) (xs := vs), fun fz' H' is' l => ?_, ?_⟩⟩
  · rcases h with ⟨hz, h⟩ | h
    · exact .of (l.at hz h)
    · exact .inr h
  rintro i x fz' H' is' v _ hx l ⟨rfl, hv⟩
  exact ⟨fz', .same, Rep.at l r hx hv⟩
theorem serves_scr {K : PySem.W.Frag} {a : Addr} {ns : List Int} {fz : Addr → Prop} {H : Hp} {is : List Addr} (h : (fz a ∧ Rd H a (.lst (ns.map V.int))) ∨ StL K a (ns.map V.int)) : Serves K (Itl K a) (ns.map D.int) fz H is := by
  have e : (ns.map V.int).length = (ns.map D.int).length := by simp
  refine ⟨⟨_, _, e ▸ walk_list (K := K) (a := a) (xs := ns.map V.int), fun fz' H' is' l => ?_, ?_⟩⟩
  · rcases h with ⟨hz, h⟩ | h
    · exact .inl (l.rd hz h)
    · exact .inr h
  rintro i x fz' H' is' v _ hx l ⟨rfl, hv⟩
  refine ⟨fz', .same, ?_⟩
  rw [List.getElem?_map] at hx hv
  cases q : ns[i]? with
  | none => rw [q] at hx; cases hx
  | some n => rw [q] at hx hv; cases hx; cases hv; exact .int n
theorem strOk_sign {z : Str} (h : StrOk z) {c : Nat} (hc : c ∈ z.cps.toList) : StrOk ⟨#[c]⟩ := by
  have h1 := h.cps
  unfold okS at h1
  rw [Array.all_eq_true_iff_forall_mem] at h1
  refine ⟨?_, by show 1 ≤ sizeLine; decide⟩
  unfold okS
  have := h1 c (by simpa using hc)
  simpa using this
theorem serves_str {K : PySem.W.Frag} {z : Str} {fz : Addr → Prop} {H : Hp} {is : List Addr} (ok : StrOk z) : Serves K (Its z) (signs z) fz H is := by
  have e : z.cps.size = (signs z).length := by simp [signs]
  refine ⟨⟨_, _, e ▸ walk_str (z := z), fun _ _ _ _ => trivial, ?_⟩⟩
  rintro i x fz' H' is' v _ hx l ⟨rfl, c, hc, rfl⟩
  refine ⟨fz', .same, ?_⟩
  have : (signs z)[i]? = some (.str ⟨#[c]⟩) := by
    unfold signs
    rw [List.getElem?_map, Array.getElem?_toList, hc]
    rfl
  rw [this] at hx; cases hx
  exact .str _ (strOk_sign ok (by rw [← Array.getElem?_toList] at hc; exact List.mem_of_getElem? hc))
theorem items_ok {Q : It → Hp → Prop} {σ : L2.St} {H : Hp} {m : ST RV} (c : MC X N W) (h : liftI N xm W (mItems m) σ H Q) : ((iList X.K (lift N xm W m) σ H Q ∨ iTup X.K (lift N xm W m) σ H Q) ∨ iStr (lift N xm W m) σ H Q) ∨ iKeys (tLk (lift N xm W m)) σ H Q := by
  have hK := c.hK
  obtain ⟨g, fz, is, sr, h⟩ := h
  simp only [mItems, bnd] at h
  cases e : m g with
  | stuck => rw [e] at h; exact h.elim
  | exc x g' =>
    rw [e] at h
    exact .inl (.inr ⟨g, fz, is, sr, by rw [e]; exact h⟩)
  | ok r g1 =>
    rw [e, bind_ok] at h
    simp only [bnd] at h
    cases e2 : toD r g1 with
    | stuck => rw [e2] at h; exact h.elim
    | exc x g' =>
      exfalso
      cases r <;> simp only [toD, ret] at e2
      · cases e2
      · cases e2
      · split at e2 <;> cases e2
    | ok x g2 =>
      rw [e2, bind_ok] at h
      have go : ∀ {Q' : VK}, (∀ v H1 fz1 is1, Le fz H is fz1 H1 is1 → SR N σ H1 g2 fz1 is1 → Rep N.K is1 fz1 H1 v x → Q' v H1) → lift N xm W m σ H Q' := fun {Q'} k => by
        refine ⟨g, fz, is, sr, ?_⟩
        rw [e]
        intro v H1 fz1 is1 l sr1 rep
        obtain ⟨fz2, l2, sr2, rep2⟩ := toD_ok sr1 rep e2
        exact k v H1 fz2 is1 (l.trans l2) sr2 rep2
      cases x with
      | lst xs =>
        refine .inl (.inl (.inl (go fun v H1 fz1 is1 l sr1 rep => ?_)))
        cases rep with
        | @lst a vs _ hz ha hr => exact ⟨a, rfl, ⟨vs, .of ha⟩, h _ H1 fz1 is1 l sr1 (by rw [hK] at hr ⊢; exact serves_list hz ha hr)⟩
      | tup xs =>
        refine .inl (.inl (.inr (go fun v H1 fz1 is1 l sr1 rep => ?_)))
        cases rep with
        | @tup a vs _ ha hr =>
          rw [hK] at ha
          refine ⟨a, rfl, ⟨vs, ?_⟩, h _ H1 fz1 is1 l sr1 (by rw [hK] at hr ⊢; exact serves_tup ha hr)⟩
          rcases ha with ⟨_, ha⟩ | ha
          · exact .of ha
          · exact .inr ha
      | scr ns =>
        refine .inl (.inl (.inl (go fun v H1 fz1 is1 l sr1 rep => ?_)))
        cases rep with
        | @scr a _ ha =>
          rw [hK] at ha
          refine ⟨a, rfl, ⟨ns.map V.int, ?_⟩, h _ H1 fz1 is1 l sr1 (by rw [hK]; exact serves_scr ha)⟩
          rcases ha with ⟨_, ha⟩ | ha
          · exact .inl ha
          · exact .inr ha
      | str z =>
        refine .inl (.inr (go fun v H1 fz1 is1 l sr1 rep => ?_))
        cases rep with
        | str _ ok => exact ⟨z, rfl, h _ H1 fz1 is1 l sr1 (serves_str ok)⟩
      | dct kvs =>
        refine .inr (go fun v H1 fz1 is1 l sr1 rep => ?_)
        cases rep with
        | @dct a ks _ hz ha hr =>
          refine ⟨a, ks, rfl, ?_⟩
          rcases ha with ha | ⟨o, ha⟩
          · refine .inr ⟨ha, fun o => ⟨a, o, rfl, .inl ⟨ks, upd_same, ?_⟩⟩⟩
            obtain ⟨l2, sr2⟩ := sr1.lock (o := o) hz ha
            exact h _ _ fz1 is1 (l.trans l2) sr2 (by rw [hK] at hr ⊢; exact serves_keys hz upd_same (hr.mono l2))
          · exact .inl ⟨o, ha, a, o, rfl, .inl ⟨ks, ha, h _ H1 fz1 is1 l sr1 (by rw [hK] at hr ⊢; exact serves_keys hz ha hr)⟩⟩
      | _ => exact h.elim
theorem i_any {m : ST RV} (c : MC X N W) (he : PE X iter (lift N xm W m)) : PI X tg iter (liftI N xm W (mItems m)) := impI (PI.or (PI.or (PI.or (pi_list he) (pi_tup he)) (pi_str he)) (pi_keys (pe_lk he))) fun _ _ _ h => items_ok c h
/-! range -/
def rng (lo : Int) (n : Nat) : List D := (List.range n).map fun (i : Nat) => D.int (lo + (i : Int))
def rng1 : List D → Option (List D)
  | [.int j] => if j.natAbs < 2 ^ 62 then some (rng 0 j.toNat) else none
  | _ => none
def mRange (f : List D → Option (List D)) (ms : List (ST RV)) : ST (List D) := bnd (argsD ms) fun xs g => match f xs with
  | some ys => .ok ys g
  | none => .stuck
theorem serves_rng {K : PySem.W.Frag} {lo : Int} {n : Nat} {fz : Addr → Prop} {H : Hp} {is : List Addr} : Serves K (Itr lo n) (rng lo n) fz H is := by
  have e : n = (rng lo n).length := by simp [rng]
  have w := walk_range (lo := lo) (n := n)
  have w' : Walk (Itr lo n) (rng lo n).length (fun _ => True) (YFn fun i => .int (lo + i)) := by rw [← e]; exact w
  refine ⟨⟨_, _, w', fun _ _ _ _ => trivial, ?_⟩⟩
  rintro i x fz' H' is' v _ hx l ⟨rfl, rfl⟩
  refine ⟨fz', .same, ?_⟩
  unfold rng at hx
  rw [List.getElem?_map] at hx
  by_cases hi : i < n
  · rw [List.getElem?_range hi] at hx
    cases hx
    exact .int _
  · rw [List.getElem?_eq_none (by simpa using hi)] at hx; cases hx
theorem stepID {ms : List (ST RV)} {f : List D → ST (List D)} {Q : It → Hp → Prop} {Q' : List V → Hp → Prop} {σ : L2.St} {H : Hp} {g : Sg} {fz : Addr → Prop} {is : List Addr} (sr : SR N σ H g fz is) (h : postI N xm W σ H fz is Q ((argsD ms g).bind f))
    (k : ∀ xs g1 vs H1 fz1 is1, Le fz H is fz1 H1 is1 → SR N σ H1 g1 fz1 is1 → RepA N.K is1 fz1 H1 vs xs → postI N xm W σ H1 fz1 is1 Q (f xs g1) → Q' vs H1) : liftD N xm W ms σ H Q' := by
  refine ⟨g, fz, is, sr, ?_⟩
  cases e : argsD ms g with
  | stuck => rw [e] at h; exact h
  | exc x g' => rw [e] at h; exact h
  | ok r g1 =>
    rw [e] at h
    intro vs H1 fz1 is1 l sr1 rep
    exact k r g1 vs H1 fz1 is1 l sr1 rep (postI.later l h)
theorem i_range1 {a : Expr} {m : ST RV} {p pos : Pos} (c : MC X N W) (hg : Gl X "range") (hm : X.mg "range" = none) (ha : PA X [a] (liftD N xm W [m])) (hs : starEach [a] X.env = [(false, eval a X.env)] := by rfl) :
    PI X tg (.Call (.Name "range" p) [a] [] pos) (liftI N xm W (mRange rng1 [m])) := by
  refine impI (pi_range1 hg hm ha hs) fun σ H Q ⟨g, fz, is, sr, h⟩ => stepID sr h fun xs g1 vs H1 fz1 is1 l1 sr1 rep h1 => ?_
  split at h1
  · rename_i ys hys
    unfold rng1 at hys
    split at hys
    · rename_i j
      split at hys
      · rename_i hj
        cases hys
        cases rep with
        | cons r t =>
          cases t
          cases r
          exact ⟨j, rfl, by omega, by omega, h1 _ H1 fz1 is1 .refl sr1 serves_rng⟩
      · cases hys
    · cases hys
  · exact h1.elim
/-! ### targets -/
abbrev TgM := D → Sg → Option Sg
/-- a target sets the slots ts alone -/
def TgF (N : En) (ts : List Nat) (gt : TG) (t : TgM) : Prop := ∀ σ H g fz is v x g' (Q : L2.St → Hp → Prop), SR N σ H g fz is → Rep N.K is fz H v x → t x g = some g' →
  (∀ σ', SR N σ' H g' fz is → (∀ vs, (∀ i ∈ ts, i ∈ vs) → wipe σ' vs = wipe σ vs) → Q σ' H) → gt v σ H Q
theorem wipe_get {σ : L2.St} : ∀ (vs : List Nat) (i : Nat), (wipe σ vs)[i]? = if i ∈ vs ∧ i < σ.length then some none else σ[i]?
  | [], i => by simp [wipe]
  | v :: vs, i => by
    unfold wipe
    by_cases hv : v = i
    · subst hv
      by_cases hl : v < σ.length
      · rw [List.getElem?_set_self (by rw [wipe_length]; exact hl), if_pos ⟨List.mem_cons_self, hl⟩]
      · rw [List.getElem?_eq_none (by rw [List.length_set, wipe_length]; omega), if_neg (fun h => hl h.2), List.getElem?_eq_none (by omega)]
    · rw [List.getElem?_set_ne hv, wipe_get vs i]
      have : (i ∈ v :: vs ∧ i < σ.length) ↔ (i ∈ vs ∧ i < σ.length) := by simp [List.mem_cons, Ne.symm hv]
      by_cases h : i ∈ vs ∧ i < σ.length
      · rw [if_pos h, if_pos (this.mpr h)]
      · rw [if_neg h, if_neg (fun z => h (this.mp z))]
theorem wipe_set {σ : L2.St} {i : Nat} {x : Option V} {vs : List Nat} (h : i ∈ vs) : wipe (σ.set i x) vs = wipe σ vs := by
  apply List.ext_getElem?
  intro j
  rw [wipe_get, wipe_get, List.length_set]
  by_cases hj : j ∈ vs ∧ j < σ.length
  · rw [if_pos hj, if_pos hj]
  · rw [if_neg hj, if_neg hj]
    by_cases e : i = j
    · subst e
      by_cases hl : i < σ.length
      · exact absurd ⟨h, hl⟩ hj
      · rw [List.getElem?_eq_none (by rw [List.length_set]; omega), List.getElem?_eq_none (by omega)]
    · rw [List.getElem?_set_ne e]
def tName (i : Nat) : TgM := fun x g => some { g with env := g.env.set i (some (.d x)) }
theorem tg_name {i : Nat} (hi : i < N.n) : TgF N [i] (gName i) (tName i) := by
  intro σ H g fz is v x g' Q sr rep e q
  cases e
  exact q _ (sr.setD rep (by rw [sr.sz]; exact hi)) fun vs h => wipe_set (h i (by simp))
def tNames : List Nat → List D → Sg → Option Sg
  | [], [], g => some g
  | i :: is, x :: xs, g => (tName i x g).bind (tNames is xs)
  | _, _, _ => none
def gNames : List Nat → TGs
  | [] => gNil
  | i :: is => gCons (gName i) (gNames is)
def tPair (is : List Nat) : TgM := fun x g => match x with
  | .tup xs => if xs.length = is.length then tNames is xs g else none
  | _ => none
theorem names_ok : ∀ (ts : List Nat) (hi : ∀ i ∈ ts, i < N.n) (σ : L2.St) (H : Hp) (g : Sg) (fz : Addr → Prop) (is : List Addr) (vs : List V) (xs : List D) (g' : Sg) (Q : L2.St → Hp → Prop), SR N σ H g fz is → RepA N.K is fz H vs xs → tNames ts xs g = some g' →
    (∀ σ', SR N σ' H g' fz is → (∀ ws, (∀ i ∈ ts, i ∈ ws) → wipe σ' ws = wipe σ ws) → Q σ' H) → gNames ts vs σ H Q
  | [], _, σ, H, g, fz, is, vs, xs, g', Q, sr, rep, e, q => by
    cases xs with
    | nil => cases e; cases rep; exact ⟨rfl, q σ sr fun _ _ => rfl⟩
    | cons => cases e
  | i :: ts, hi, σ, H, g, fz, is, vs, xs, g', Q, sr, rep, e, q => by
    cases xs with
    | nil => cases e
    | cons x xs =>
      cases rep with
      | cons r rr =>
        refine ⟨_, _, rfl, ?_⟩
        have sr1 := sr.setD r (by rw [sr.sz]; exact hi i (by simp) : i < σ.length)
        refine names_ok ts (fun j hj => hi j (by simp [hj])) _ H _ fz is _ xs g' Q sr1 rr e fun σ' sr' hw => q σ' sr' fun ws h => ?_
        rw [hw ws (fun j hj => h j (by simp [hj])), wipe_set (h i (by simp))]
theorem tg_pair {ts : List Nat} (hi : ∀ i ∈ ts, i < N.n) (hK : N.K = X.K) : TgF N ts (gTup X.K ts.length (gNames ts)) (tPair ts) := by
  intro σ H g fz is v x g' Q sr rep e q
  cases x with
  | tup xs =>
    simp only [tPair] at e
    split at e
    · rename_i hl
      cases rep with
      | @tup a vs _ ha hr =>
        refine ⟨a, vs, rfl, ?_, by rw [hr.length]; exact hl, names_ok ts hi σ H g fz is vs xs g' Q sr hr e q⟩
        rw [hK] at ha
        rcases ha with ⟨_, ha⟩ | ha
        · exact .of ha
        · exact .inr ha
    · cases e
  | _ => cases e

/-! ### for -/
def forM (tg : TgM) (b : SM) : List D → SM
  | [] => fun g => .nx g
  | x :: xs => fun g => match tg x g with
    | none => .stuck
    | some g => match b g with
      | .nx g => forM tg b xs g
      | .ct g => forM tg b xs g
      | .bk g => .nx g
      | r => r
def sFor (mi : ST (List D)) (tg : TgM) (b : SM) : SM := fun g => (mi g).to (forM tg b)
theorem s_for {body : List Stmt} {mi : ST (List D)} {ts : List Nat} {gt : TG} {t : TgM} {m : SM} {pos : Pos} (c : MC X N W) (hp : PassesOwn (model X.prog X.w) X.A X.env X.xe) (hi : PI X tg iter (liftI N xm W mi)) (hg : PG X tg gt) (ht : TgF N ts gt t) (hb : PSs X body (liftS N xm W m))
    (hs : ∀ x, foldedSetIterable iter X.env x = pure x := by intro _; rfl) : PS X (.For tg iter body [] pos) (liftS N xm W (sFor mi t m)) := by
  refine impS (ps_for hp c.calm hi hg hb hs) fun D σ H ⟨g, fz, is, sr, h⟩ => ?_
  refine ⟨g, fz, is, sr, ?_⟩
  simp only [sFor] at h
  cases e : mi g with
  | stuck => rw [e] at h; exact h
  | exc x g' => rw [e] at h; exact fun cls od H' fz' is' l sr' => h cls od σ H' fz' is' l sr'
  | ok xs g1 =>
    rw [e, R.to_ok] at h
    intro J H1 fz1 is1 l1 sr1 ⟨G, Y, wk, hG, hY⟩
    have h := postS.later l1 h
    refine for_it wk (fun i σ H => ∃ g fz is, SR N σ H g fz is ∧ Le fz1 H1 is1 fz H is ∧ postS N xm W D fz H is (forM t m (xs.drop i) g)) ⟨g1, fz1, is1, sr1, .refl, h⟩ (fun i σ H _ ⟨g, fz, is, _, l, _⟩ => hG fz H is l) ?_ ?_
    · rintro i v σ2 H2 H2' hlt ⟨g2, fz2, is2, sr2, l2, h2⟩ y
      have hx : xs[i]? = some xs[i] := by simp [hlt]
      obtain ⟨fz3, gr, rep⟩ := hY i xs[i] fz2 H2 is2 v H2' hx l2 y
      have sr3 := gr.sr sr2
      have l3 := gr.le sr2
      rw [List.drop_eq_getElem_cons hlt] at h2
      simp only [forM] at h2
      cases e2 : t xs[i] g2 with
      | none => rw [e2] at h2; exact h2.elim
      | some g3 =>
        rw [e2] at h2
        dsimp only at h2
        refine ht σ2 H2' g2 fz3 is2 v xs[i] g3 _ sr3 rep e2 fun σ3 sr3' _ => ?_
        refine ⟨g3, fz3, is2, sr3', ?_⟩
        have h2 := h2.later l3
        cases e3 : m g3 with
        | stuck => rw [e3] at h2; exact h2
        | nx g4 => rw [e3] at h2; exact fun σ4 H4 fz4 is4 l4 sr4 => ⟨g4, fz4, is4, sr4, (l2.trans l3).trans l4, h2.later l4⟩
        | ct g4 => rw [e3] at h2; exact fun σ4 H4 fz4 is4 l4 sr4 => ⟨g4, fz4, is4, sr4, (l2.trans l3).trans l4, h2.later l4⟩
        | bk g4 => rw [e3] at h2; exact h2
        | ret r S => rw [e3] at h2; exact h2
        | exc x g4 => rw [e3] at h2; exact h2
    · rintro σ2 H2 ⟨g2, fz2, is2, sr2, l2, h2⟩
      rw [List.drop_length] at h2
      exact h2 σ2 H2 fz2 is2 .refl sr2

/-! ### list comprehensions -/
def wipeE (env : List (Option SD)) : List Nat → List (Option SD)
  | [] => env
  | v :: vs => (wipeE env vs).set v none
def keepD : Option SD → Option SD
  | some (.d x) => some (.d x)
  | _ => none
/-- slots vs as they were -/
def backE (old env : List (Option SD)) : List Nat → List (Option SD)
  | [] => env
  | v :: vs => (backE old env vs).set v (keepD (old.getD v none))
theorem wipeE_length (env : List (Option SD)) : ∀ vs, (wipeE env vs).length = env.length
  | [] => rfl
  | v :: vs => by simp [wipeE, wipeE_length env vs]
theorem backE_length (old env : List (Option SD)) : ∀ vs, (backE old env vs).length = env.length
  | [] => rfl
  | v :: vs => by simp [backE, backE_length old env vs]
theorem wipeE_some {env : List (Option SD)} {i : Nat} {x : SD} : ∀ {vs : List Nat}, (wipeE env vs)[i]? = some (some x) → env[i]? = some (some x) ∧ i ∉ vs
  | [], h => ⟨h, by simp⟩
  | v :: vs, h => by
    unfold wipeE at h
    by_cases hi : v = i
    · subst hi
      by_cases hv : v < (wipeE env vs).length
      · rw [List.getElem?_set_self hv] at h; cases h
      · rw [List.getElem?_eq_none (by simpa using hv)] at h; cases h
    · rw [List.getElem?_set_ne hi] at h
      obtain ⟨h1, h2⟩ := wipeE_some h
      exact ⟨h1, by simp only [List.mem_cons, not_or]; exact ⟨fun e => hi e.symm, h2⟩⟩
theorem backE_some {old env : List (Option SD)} {i : Nat} {x : SD} : ∀ {vs : List Nat}, (backE old env vs)[i]? = some (some x) → (i ∈ vs ∧ old[i]? = some (some x) ∧ ∃ d, x = .d d) ∨ (i ∉ vs ∧ env[i]? = some (some x))
  | [], h => .inr ⟨by simp, h⟩
  | v :: vs, h => by
    unfold backE at h
    by_cases hi : v = i
    · subst hi
      by_cases hv : v < (backE old env vs).length
      · rw [List.getElem?_set_self hv] at h
        left
        refine ⟨by simp, ?_⟩
        rw [List.getD_eq_getElem?_getD] at h
        cases q : old[v]? with
        | none => rw [q] at h; simp [keepD] at h
        | some y =>
          rw [q] at h
          cases y with
          | none => simp [keepD] at h
          | some y =>
            cases y with
            | own c => simp [keepD] at h
            | d y => simp [keepD] at h; subst h; exact ⟨rfl, y, rfl⟩
      · rw [List.getElem?_eq_none (by simpa using hv)] at h; cases h
    · rw [List.getElem?_set_ne hi] at h
      rcases backE_some h with ⟨h1, h2⟩ | ⟨h1, h2⟩
      · exact .inl ⟨by simp [h1], h2⟩
      · exact .inr ⟨by simp only [List.mem_cons, not_or]; exact ⟨fun e => hi e.symm, h1⟩, h2⟩
theorem wipe_keep {σ : L2.St} {vs : List Nat} {i : Nat} (h : i ∉ vs) : (wipe σ vs)[i]? = σ[i]? := by
  rw [wipe_get, if_neg (fun z => h z.1)]
theorem SR.wipe {σ : L2.St} {H : Hp} {g : Sg} {fz : Addr → Prop} {is : List Addr} (sr : SR N σ H g fz is) (vs : List Nat) : SR N (L2.wipe σ vs) H { g with env := wipeE g.env vs } fz is := by
  refine ⟨fun i x h => ?_, fun i j p ⟨c, h1⟩ ⟨c', h2⟩ h3 h4 => ?_, by simp [wipeE_length, wipe_length, sr.len], by rw [wipe_length]; exact sr.sz, sr.dom, sr.stl, sr.st, sr.nd, sr.frame, sr.fzn, sr.fz0, sr.isx, sr.isn⟩
  · obtain ⟨h1, h2⟩ := wipeE_some h
    obtain ⟨v, h3, h4⟩ := sr.env i x h1
    exact ⟨v, by rw [wipe_keep h2]; exact h3, h4⟩
  · obtain ⟨h1, n1⟩ := wipeE_some h1
    obtain ⟨h2, n2⟩ := wipeE_some h2
    rw [wipe_keep n1] at h3
    rw [wipe_keep n2] at h4
    exact sr.dist i j p ⟨c, h1⟩ ⟨c', h2⟩ h3 h4
/-- back in the block around: the wiped slots are as they were -/
theorem SR.back {σ : L2.St} {H H' : Hp} {g g' : Sg} {fz fz' : Addr → Prop} {is is' : List Addr} {vs : List Nat} (sr : SR N σ H g fz is) (l : Le fz H is fz' H' is') (sr' : SR N (L2.wipe σ vs) H' { g' with env := wipeE g'.env vs } fz' is') :
    SR N σ H' { g' with env := backE g.env g'.env vs } fz' is' := by
  have up : ∀ i x, i ∉ vs → g'.env[i]? = some (some x) → (wipeE g'.env vs)[i]? = some (some x) := by
    intro i x
    induction vs with
    | nil => exact fun _ h => h
    | cons v vs ih =>
      intro hn h
      simp only [List.mem_cons, not_or] at hn
      unfold wipeE
      rw [List.getElem?_set_ne (Ne.symm hn.1)]
      have : ∀ ws, i ∉ ws → (wipeE g'.env ws)[i]? = some (some x) := by
        intro ws
        induction ws with
        | nil => exact fun _ => h
        | cons w ws ih2 =>
          intro hw
          simp only [List.mem_cons, not_or] at hw
          unfold wipeE
          rw [List.getElem?_set_ne (Ne.symm hw.1)]
          exact ih2 hw.2
      exact this vs hn.2
  refine ⟨fun i x h => ?_, fun i j p ⟨c, h1⟩ ⟨c', h2⟩ h3 h4 => ?_, ?_, sr.sz, sr'.dom, sr'.stl, sr'.st, sr'.nd, sr'.frame, sr'.fzn, sr'.fz0, sr'.isx, sr'.isn⟩
  · rcases backE_some h with ⟨h1, h2, d, rfl⟩ | ⟨h1, h2⟩
    · obtain ⟨v, h3, h4⟩ := sr.env i _ h2
      exact ⟨v, h3, Rep.mono l h4⟩
    · obtain ⟨v, h3, h4⟩ := sr'.env i x (up i x h1 h2)
      rw [wipe_keep h1] at h3
      exact ⟨v, h3, h4⟩
  · rcases backE_some h1 with ⟨_, _, d, e⟩ | ⟨n1, h1⟩
    · cases e
    rcases backE_some h2 with ⟨_, _, d, e⟩ | ⟨n2, h2⟩
    · cases e
    exact sr'.dist i j p ⟨c, up i _ n1 h1⟩ ⟨c', up j _ n2 h2⟩ (by rw [wipe_keep n1]; exact h3) (by rw [wipe_keep n2]; exact h4)
  · have := sr'.len
    simp only [wipeE_length, wipe_length] at this
    simp only [backE_length]
    exact this
/-- an object that nobody else may change counts as the entry's -/
def En.with (N : En) (p : Addr) (o : HO) : En := { N with H := upd N.H p o }
theorem SR.guard {σ : L2.St} {H : Hp} {g : Sg} {fz : Addr → Prop} {is : List Addr} {p : Addr} {o : HO} (sr : SR N σ H g fz is) (f : Free N σ g fz is p) (h : H p = some o) : SR (N.with p o) σ H g fz is := by
  refine ⟨fun i x e => ?_, sr.dist, sr.len, sr.sz, sr.dom, sr.stl, sr.st, sr.nd, fun b u h1 h2 => ?_, fun b hb => ?_, sr.fz0, sr.isx, fun b hb => ?_⟩
  · obtain ⟨v, h1, h2⟩ := sr.env i x e
    refine ⟨v, h1, ?_⟩
    cases x with
    | d x => exact h2
    | own c =>
      obtain ⟨q, rfl, h3, h4⟩ := h2
      refine ⟨q, rfl, ⟨h3.nf, h3.ni, ?_⟩, h4⟩
      show upd N.H p o q = none
      rw [upd_ne (fun (z : q = p) => f.ns i ⟨c, e⟩ (z ▸ h1))]
      exact h3.new
  · have h1 : upd N.H p o b = some u := h1
    by_cases e : b = p
    · subst e; rw [upd_same] at h1; cases h1; exact .inl h
    · rw [upd_ne e] at h1; exact sr.frame b u h1 h2
  · rcases sr.fzn b hb with z | z
    · exact .inl z
    · right
      show upd N.H p o b = none
      rw [upd_ne (fun (e : b = p) => f.own.nf (e ▸ hb))]; exact z
  · rcases sr.isn b hb with z | z
    · exact .inl z
    · right
      show upd N.H p o b = none
      rw [upd_ne (fun (e : b = p) => f.own.ni (e ▸ hb))]; exact z
theorem SR.unguard {σ : L2.St} {H : Hp} {g : Sg} {fz : Addr → Prop} {is : List Addr} {p : Addr} {o : HO} (sr : SR (N.with p o) σ H g fz is) (hz : ¬ N.fz p) (hi : p ∉ N.is) (hn : N.H p = none) : SR N σ H g fz is ∧ Free N σ g fz is p ∧ H p = some o := by
  have ne : ∀ b, upd N.H p o b = none → b ≠ p ∧ N.H b = none := fun b h => by
    by_cases e : b = p
    · subst e; rw [upd_same] at h; cases h
    · rw [upd_ne e] at h; exact ⟨e, h⟩
  have nf : ¬ fz p := fun z => by
    rcases sr.fzn p z with q | q
    · exact hz q
    · exact (ne p q).1 rfl
  have ni : p ∉ is := fun z => by
    rcases sr.isn p z with q | q
    · exact hi q
    · exact (ne p q).1 rfl
  refine ⟨⟨fun i x e => ?_, sr.dist, sr.len, sr.sz, sr.dom, sr.stl, sr.st, sr.nd, fun b u h1 h2 => ?_, fun b hb => ?_, sr.fz0, sr.isx, fun b hb => ?_⟩, ⟨⟨nf, ni, hn⟩, fun i ⟨c, e⟩ h1 => ?_⟩, (sr.frame p o upd_same hi).resolve_right fun z => hz z.1⟩
  · obtain ⟨v, h1, h2⟩ := sr.env i x e
    refine ⟨v, h1, ?_⟩
    cases x with
    | d x => exact h2
    | own c =>
      obtain ⟨q, rfl, h3, h4⟩ := h2
      exact ⟨q, rfl, ⟨h3.nf, h3.ni, (ne q h3.new).2⟩, h4⟩
  · refine sr.frame b u ?_ h2
    show upd N.H p o b = some u
    rw [upd_ne (fun e => by subst e; rw [hn] at h1; cases h1)]; exact h1
  · rcases sr.fzn b hb with z | z
    · exact .inl z
    · exact .inr (ne b z).2
  · rcases sr.isn b hb with z | z
    · exact .inl z
    · exact .inr (ne b z).2
  · obtain ⟨q, h2, h3, _⟩ := sr.own_at e
    rw [h1] at h2; cases h2
    exact (ne p h3.new).1 rfl
def compM (vs : List Nat) (t : TgM) (tt : ST Bool) (me : ST RV) : List D → List D → Sg → R (List D)
  | [], acc, g => .ok acc g
  | x :: xs, acc, g => match t x { g with env := wipeE g.env vs } with
    | none => .stuck
    | some g => match tt g with
      | .ok false g => compM vs t tt me xs acc g
      | .ok true g => match me g with
        | .ok r g => match toD r g with
          | .ok d g => if acc.length < sizeLine then compM vs t tt me xs (acc ++ [d]) g else .stuck
          | _ => .stuck
        | _ => .stuck
      | _ => .stuck
def endC (g0 : Sg) (vs : List Nat) : R (List D) → R RV
  | .ok ys g => .ok (.tmp (.lst ys)) { g with env := backE g0.env g.env vs }
  | _ => .stuck
def mComp (mi : ST (List D)) (vs : List Nat) (t : TgM) (tt : ST Bool) (me : ST RV) : ST RV := bnd mi fun xs g => endC g vs (compM vs t tt me xs [] g)
def mYes : ST Bool := ret true
abbrev WF : WX := fun _ _ _ _ => False
/-- a reading for every entry of that kind -/
def anyE (N : En) (xm : XM) (m : ST RV) : TE := fun σ H Q => ∃ N' : En, N'.K = N.K ∧ N'.n = N.n ∧ lift N' xm WF m σ H Q
def anyT (N : En) (xm : XM) (m : ST Bool) : TT := fun σ H Q => ∃ N' : En, N'.K = N.K ∧ N'.n = N.n ∧ liftB N' xm WF m σ H Q
theorem comp_ok {mi : ST (List D)} {vs ts : List Nat} {gt : TG} {t : TgM} {tt : ST Bool} {me : ST RV} (c : MC X N W) (ht : ∀ N' : En, N'.n = N.n → N'.K = N.K → TgF N' ts gt t) (hts : ∀ i ∈ ts, i ∈ vs) {σ : L2.St} {H : Hp} {Q : VK} (h : lift N xm W (mComp mi vs t tt me) σ H Q) :
    tLc (liftI N xm W mi) gt (anyT N xm tt) (anyE N xm me) vs σ H Q := by
  obtain ⟨g, fz, is, sr, h⟩ := h
  refine ⟨g, fz, is, sr, ?_⟩
  simp only [mComp, bnd] at h
  cases e : mi g with
  | stuck => rw [e] at h; exact h
  | exc x g' => rw [e] at h; exact h
  | ok xs g1 =>
    rw [e, bind_ok] at h
    intro J H1 fz1 is1 l1 sr1 ⟨G, Y, wk, hG, hY⟩
    have h := postE.later l1 h
    intro P hP
    have fP := sr1.free hP
    have lP : Le fz1 H1 is1 fz1 (upd H1 P (.lst [])) is1 := Le.alloc fP.own.nf
    have sr1' := sr1.alter fP (.lst [])
    have h := h.later lP
    -- what stands between two turns
    refine lc_it wk (fun i H => ∃ g fz is us acc, SR N (L2.wipe σ vs) H { g with env := wipeE g.env vs } fz is ∧ Le fz1 H1 is1 fz H is ∧ Free N (L2.wipe σ vs) { g with env := wipeE g.env vs } fz is P ∧ H P = some (.lst us) ∧ RepA N.K is fz H us acc ∧
      postE N xm W σ H fz is Q (endC g1 vs (compM vs t tt me (xs.drop i) acc g))) ?_ (fun i H _ ⟨g, fz, is, us, acc, _, l, _⟩ => hG fz H is l) ?_ ?_
    · refine ⟨g1, fz1, is1, [], [], sr1'.wipe vs, lP, ?_, upd_same, .nil, h⟩
      refine ⟨fP.own, fun i ⟨c, hc⟩ z => ?_⟩
      obtain ⟨h1, h2⟩ := wipeE_some hc
      rw [wipe_keep h2] at z
      exact fP.ns i ⟨c, h1⟩ z
    · rintro i v H2 H2' hlt ⟨g2, fz2, is2, us, acc, sr2, l2, f2, hP2, ra, h2⟩ y
      have hx : xs[i]? = some xs[i] := by simp [hlt]
      obtain ⟨fz3, gr, rep⟩ := hY i xs[i] fz2 H2 is2 v H2' hx l2 y
      have l3 := gr.le sr2
      have sr3 := gr.sr sr2
      -- P is still alone
      have hP3 : H2' P = some (.lst us) := by
        cases gr with
        | same => exact hP2
        | new p o hp => rw [upd_ne (fun z => by subst z; rw [hP2] at hp; cases hp)]; exact hP2
      have f3 : Free N (L2.wipe σ vs) { g2 with env := wipeE g2.env vs } fz3 is2 P := by
        refine ⟨⟨fun z => ?_, f2.own.ni, f2.own.new⟩, f2.ns⟩
        cases gr with
        | same => exact f2.own.nf z
        | new p o hp =>
          rcases z with z | z
          · exact f2.own.nf z
          · subst z; rw [hP2] at hp; cases hp
      have nz : ¬ N.fz P := fun z => f3.own.nf (sr3.fz0 P z)
      have ni : P ∉ N.is := fun z => f3.own.ni (sr3.isx.subset z)
      have nn := f3.own.new
      have sg := sr3.guard f3 hP3
      rw [List.drop_eq_getElem_cons hlt] at h2
      simp only [compM] at h2
      cases e2 : t xs[i] { g2 with env := wipeE g2.env vs } with
      | none => rw [e2] at h2; exact h2.elim
      | some g3 =>
        rw [e2] at h2
        dsimp only at h2
        have h2 := h2.later l3
        refine ht (N.with P (.lst us)) rfl rfl (L2.wipe σ vs) H2' _ fz3 is2 v xs[i] g3 _ sg rep e2 fun σ3 sr3' hw => ?_
        have hw := hw vs hts
        have hww : ∀ vs, L2.wipe (L2.wipe σ vs) vs = L2.wipe σ vs := fun vs => by
          apply List.ext_getElem?
          intro j
          rw [wipe_get, wipe_get, wipe_length]
          by_cases hj : j ∈ vs ∧ j < σ.length
          · rw [if_pos hj, if_pos hj]
          · rw [if_neg hj, if_neg hj]
        rw [hww] at hw
        refine ⟨hw, N.with P (.lst us), rfl, rfl, g3, fz3, is2, sr3', ?_⟩
        -- behind a turn
        have fin : ∀ {g4 : Sg} {H4 : Hp} {fz4 : Addr → Prop} {is4 : List Addr} {us' : List V} {acc' : List Mx.D}, Le fz3 H2' is2 fz4 H4 is4 → SR (N.with P (.lst us)) σ3 H4 g4 fz4 is4 → RepA N.K is4 fz4 H4 us' acc' →
            postE N xm W σ H2' fz3 is2 Q (endC g1 vs (compM vs t tt me (xs.drop (i + 1)) acc' g4)) → ∃ g fz is us acc, SR N (L2.wipe σ vs) (upd H4 P (.lst us')) { g with env := wipeE g.env vs } fz is ∧ Le fz1 H1 is1 fz (upd H4 P (.lst us')) is ∧ Free N (L2.wipe σ vs) { g with env := wipeE g.env vs } fz is P ∧ (upd H4 P (.lst us')) P = some (.lst us) ∧ RepA N.K is fz (upd H4 P (.lst us')) us acc ∧
              postE N xm W σ (upd H4 P (.lst us')) fz is Q (endC g1 vs (compM vs t tt me (xs.drop (i + 1)) acc g)) := by
          intro g4 H4 fz4 is4 us' acc' l4 sr4 ra4 h4
          obtain ⟨s5, f5, _⟩ := (sr4.wipe vs).unguard nz ni nn
          rw [hw] at s5 f5
          have la : Le fz4 H4 is4 fz4 (upd H4 P (.lst us')) is4 := Le.alloc f5.own.nf
          exact ⟨g4, fz4, is4, us', acc', s5.alter f5 _, ((l2.trans l3).trans l4).trans la, f5, upd_same, ra4.mono la, (h4.later l4).later la⟩
        cases e3 : tt g3 with
        | stuck => rw [e3] at h2; exact h2.elim
        | exc x g' => rw [e3] at h2; exact h2.elim
        | ok b g4 =>
          rw [e3] at h2
          intro H4 fz4 is4 l4 sr4
          cases b with
          | false =>
            refine iteF ?_
            obtain ⟨g5, fz5, is5, us5, acc5, q1, q2, q3, q4, q5, q6⟩ := fin l4 sr4 ((ra.mono l3).mono l4) h2
            have hP4 : H4 P = some (.lst us) := ((sr4.frame P _ upd_same ni).resolve_right fun z => nz z.1)
            have : upd H4 P (.lst us) = H4 := by
              funext b
              by_cases e : b = P
              · subst e; rw [upd_same, hP4]
              · rw [upd_ne e]
            rw [this] at q1 q2 q4 q5 q6
            exact ⟨g5, fz5, is5, us5, acc5, q1, q2, q3, q4, q5, q6⟩
          | true =>
            refine iteT ⟨N.with P (.lst us), rfl, rfl, g4, fz4, is4, sr4, ?_⟩
            dsimp only at h2
            cases e4 : me g4 with
            | stuck => rw [e4] at h2; exact h2.elim
            | exc x g' => rw [e4] at h2; exact h2.elim
            | ok r g5 =>
              rw [e4] at h2
              dsimp only at h2
              intro v5 H5 fz5 is5 l5 sr5 rep5
              cases e5 : toD r g5 with
              | stuck => rw [e5] at h2; exact h2.elim
              | exc x g' => rw [e5] at h2; exact h2.elim
              | ok d g6 =>
                rw [e5] at h2
                dsimp only at h2
                obtain ⟨fz6, l6, sr6, rep6⟩ := toD_ok sr5 rep5 e5
                by_cases hz : acc.length < sizeLine
                · rw [if_pos hz] at h2
                  have hP5 : H5 P = some (.lst us) := ((sr6.frame P _ upd_same ni).resolve_right fun z => nz z.1)
                  have ra6 := (((ra.mono l3).mono l4).mono l5).mono l6
                  refine ⟨us, hP5, by rw [ra.length]; exact hz, ?_⟩
                  exact fin ((l4.trans l5).trans l6) sr6 (ra6.append (.cons rep6 .nil)) h2
                · rw [if_neg hz] at h2; exact h2.elim
    · rintro H2 ⟨g2, fz2, is2, us, acc, sr2, l2, f2, hP2, ra, h2⟩
      rw [List.drop_length] at h2
      have sb := SR.back sr1 l2 sr2
      refine h2 (.ref P) H2 fz2 is2 .refl sb ⟨P, rfl, f2.own, ⟨us, hP2, ra⟩, fun i ⟨c, hc⟩ z => ?_⟩
      rcases backE_some hc with ⟨_, _, d, e⟩ | ⟨n1, h3⟩
      · cases e
      · have : ∀ ws, i ∉ ws → (wipeE g2.env ws)[i]? = some (some (.own c)) := by
          intro ws
          induction ws with
          | nil => exact fun _ => h3
          | cons w ws ih2 =>
            intro hw
            simp only [List.mem_cons, not_or] at hw
            unfold wipeE
            rw [List.getElem?_set_ne (Ne.symm hw.1)]
            exact ih2 hw.2
        exact f2.ns i ⟨c, this vs n1⟩ (by rw [wipe_keep n1]; exact z)

/-! ### the comprehension's rules -/
section
variable {X' : Cx} {e : Expr}
theorem any_e {N : En} {m : ST RV} (h : ∀ N' : En, N'.K = N.K → N'.n = N.n → PE X' e (lift N' xm WF m)) : PE X' e (anyE N xm m) := ⟨fun pins s σ H Q I ⟨N', h1, h2, q⟩ => (h N' h1 h2).run pins s σ H Q I q⟩
theorem any_t {N : En} {ifs : List Expr} {m : ST Bool} (h : ∀ N' : En, N'.K = N.K → N'.n = N.n → PTs X' ifs (liftB N' xm WF m)) : PTs X' ifs (anyT N xm m) := ⟨fun pins s σ H Q I ⟨N', h1, h2, q⟩ => (h N' h1 h2).run pins s σ H Q I q⟩
theorem ts_nil : PTs X' [] (liftB N xm W mYes) := ⟨fun pins s σ H Q I ⟨g, fz, is, sr, q⟩ => pts_nil.run pins s σ H Q I (q H fz is .refl sr)⟩
end
theorem MC.blk (c : MC X N W) {N' : En} (h : N'.K = N.K) {s : Shared} {H : Hp} {scope : Scope} {cenv : Env} {fp : List Addr} : MC (X.blk s H scope cenv fp) N' WF := ⟨h.trans c.hK, c.nd, c.calm, c.un, L2.takes0⟩
theorem e_comp {elt : Expr} {ifs : List Expr} {scope : Scope} {own : List (Str × Nat)} {pos : Pos} {mi : ST (List D)} {ts : List Nat} {gt : TG} {t : TgM} {tt : ST Bool} {me : ST RV} (c : MC X N W) (hi : PI X tg iter (liftI N xm W mi)) (ok : BlkOk X.N X.env.scope scope own)
    (hg : ∀ (s : Shared) (H : Hp) (C : Addr) (cl : List (Str × Addr)) (fp : List Addr), PG (X.blk s H scope (compEnvC scope cl C X.env) fp) tg gt) (ht : ∀ N' : En, N'.n = N.n → N'.K = N.K → TgF N' ts gt t) (hts : ∀ i ∈ ts, i ∈ own.map (·.2))
    (htt : ∀ (s : Shared) (H : Hp) (C : Addr) (cl : List (Str × Addr)) (fp : List Addr) (N' : En), N'.n = N.n → MC (X.blk s H scope (compEnvC scope cl C X.env) fp) N' WF → PTs (X.blk s H scope (compEnvC scope cl C X.env) fp) ifs (liftB N' xm WF tt))
    (he : ∀ (s : Shared) (H : Hp) (C : Addr) (cl : List (Str × Addr)) (fp : List Addr) (N' : En), N'.n = N.n → MC (X.blk s H scope (compEnvC scope cl C X.env) fp) N' WF → PE (X.blk s H scope (compEnvC scope cl C X.env) fp) elt (lift N' xm WF me)) (hs : ∀ x, foldedSetIterable iter X.env x = pure x := by intro _; rfl) :
    PE X (.ListComp elt [⟨tg, iter, ifs, 0⟩] scope pos) (lift N xm W (mComp mi (own.map (·.2)) t tt me)) :=
  imp (pe_lc c.calm c.nd hi ok hg (fun s H C cl fp => any_t fun N' h1 h2 => htt s H C cl fp N' h2 (c.blk h1)) (fun s H C cl fp => any_e fun N' h1 h2 => he s H C cl fp N' h2 (c.blk h1)) hs) fun σ H Q h => comp_ok c ht hts h
theorem s_setC {i : Nat} {y : Str} {py : Pos} {elt : Expr} {ifs : List Expr} {scope : Scope} {own : List (Str × Nat)} {pos spos : Pos} {mi : ST (List D)} {ts : List Nat} {gt : TG} {t : TgM} {tt : ST Bool} {me : ST RV} (c : MC X N W) (hy : X.N[i]? = some y) (hyl : X.env.scope.names.lookup y = some .local)
    (hsw : swapsWith (.ListComp elt [⟨tg, iter, ifs, 0⟩] scope pos) (some (.Name y py)) spos.line X.env = pure true) (hi : PI X tg iter (liftI N xm W mi)) (ok : BlkOk X.N X.env.scope scope own)
    (hg : ∀ (s : Shared) (H : Hp) (C : Addr) (cl : List (Str × Addr)) (fp : List Addr), PG (X.blk s H scope (compEnvC scope cl C X.env) fp) tg gt) (ht : ∀ N' : En, N'.n = N.n → N'.K = N.K → TgF N' ts gt t) (hts : ∀ i ∈ ts, i ∈ own.map (·.2))
    (htt : ∀ (s : Shared) (H : Hp) (C : Addr) (cl : List (Str × Addr)) (fp : List Addr) (N' : En), N'.n = N.n → MC (X.blk s H scope (compEnvC scope cl C X.env) fp) N' WF → PTs (X.blk s H scope (compEnvC scope cl C X.env) fp) ifs (liftB N' xm WF tt))
    (he : ∀ (s : Shared) (H : Hp) (C : Addr) (cl : List (Str × Addr)) (fp : List Addr) (N' : En), N'.n = N.n → MC (X.blk s H scope (compEnvC scope cl C X.env) fp) N' WF → PE (X.blk s H scope (compEnvC scope cl C X.env) fp) elt (lift N' xm WF me)) (hn : i < N.n) (hs : ∀ x, foldedSetIterable iter X.env x = pure x := by intro _; rfl) :
    PS X (.Assign [.Name y py] (.ListComp elt [⟨tg, iter, ifs, 0⟩] scope pos) spos) (liftS N xm W (sSet i (mComp mi (own.map (·.2)) t tt me))) := by
  refine impS (ps_setLc c.calm c.nd hy hyl hsw hi ok hg (fun s H C cl fp => any_t (N := N) fun N' h1 h2 => htt s H C cl fp N' h2 (c.blk h1)) (fun s H C cl fp => any_e (N := N) fun N' h1 h2 => he s H C cl fp N' h2 (c.blk h1)) hs) fun D σ H h => ?_
  have h' : lift N xm W (mComp mi (own.map (·.2)) t tt me) σ H (fun x H1 => gName i x σ H1 D.nx) := set_ok hn h
  exact comp_ok c ht hts h'
end
end Mx

set_option Elab.async false
set_option linter.all false
set_option maxRecDepth 100000
/-! operators by data -/
namespace Mx
open PySem PySem.Spec PyProof.Rows L2

section
variable {K : PySem.W.Frag} {is : List Addr} {fz : Addr → Prop} {H : Hp} {v : V}
theorem PRep.non (h : PRep K is fz H v .non) : v = .non := by
  rcases h with h | ⟨p, c, _, e, _⟩
  · cases h; rfl
  · cases c <;> cases e
theorem PRep.bl {b : Bool} (h : PRep K is fz H v (.bl b)) : v = .bl b := by
  rcases h with h | ⟨p, c, _, e, _⟩
  · cases h; rfl
  · cases c <;> cases e
theorem PRep.int {i : Int} (h : PRep K is fz H v (.int i)) : v = .int i := by
  rcases h with h | ⟨p, c, _, e, _⟩
  · cases h; rfl
  · cases c <;> cases e
theorem PRep.str {x : Str} (h : PRep K is fz H v (.str x)) : v = .str x ∧ StrOk x := by
  rcases h with h | ⟨p, c, _, e, _⟩
  · cases h with
    | str _ ok => exact ⟨rfl, ok⟩
  · cases c <;> cases e
theorem PRep.ty {n : String} (h : PRep K is fz H v (.ty n)) : v = .ty n := by
  rcases h with h | ⟨p, c, _, e, _⟩
  · cases h; rfl
  · cases c <;> cases e
theorem PRep.tup {xs : List D} (h : PRep K is fz H v (.tup xs)) : ∃ a vs, v = .ref a ∧ ((fz a ∧ H a = some (.tup vs)) ∨ StT K a vs) ∧ RepA K is fz H vs xs := by
  rcases h with h | ⟨p, c, _, e, _⟩
  · cases h with
    | tup h r => exact ⟨_, _, rfl, h, r⟩
  · cases c <;> cases e
theorem PRep.lst {xs : List D} (h : PRep K is fz H v (.lst xs)) : ∃ a vs, v = .ref a ∧ H a = some (.lst vs) ∧ RepA K is fz H vs xs := by
  rcases h with h | ⟨p, c, rfl, e, h⟩
  · cases h with
    | lst _ h r => exact ⟨_, _, rfl, h, r⟩
  · cases c with
    | lst ys => cases e; obtain ⟨vs, h1, h2⟩ := h; exact ⟨p, vs, rfl, h1, h2⟩
    | dct ys => cases e
    | tct ys => cases e
    | ins c ns ds => cases e
    | tab P q => cases e
theorem PRep.dct {xs : List (D × D)} (h : PRep K is fz H v (.dct xs)) : ∃ a vs, v = .ref a ∧ Rd H a (.dK vs) ∧ RepK K is fz H vs xs := by
  rcases h with h | ⟨p, c, rfl, e, h⟩
  · cases h with
    | dct _ h r => exact ⟨_, _, rfl, h, r⟩
  · cases c with
    | lst ys => cases e
    | dct ys => cases e; obtain ⟨vs, h1, h2⟩ := h; exact ⟨p, vs, rfl, .inl h1, h2⟩
    | tct ys => cases e
    | ins c ns ds => cases e
    | tab P q => cases e
theorem PRep.tdc {xs : List (D × D)} (h : PRep K is fz H v (.tdc xs)) : ∃ (a : Addr) (L : List (NSet.Nk × Addr × V)), v = .ref a ∧ H a = some (NSet.TDO a L) ∧ RepA K is fz H (L.map fun p => V.ref p.2.1) (xs.map (·.1)) ∧ RepA K is fz H (L.map (·.2.2)) (xs.map (·.2)) ∧ nkOfs (xs.map (·.1)) = some (L.map (·.1)) := by
  rcases h with h | ⟨p, c, rfl, e, h⟩
  · cases h with
    | tdc _ h r1 r2 r3 => exact ⟨_, _, rfl, h, r1, r2, r3⟩
  · cases c with
    | lst ys => cases e
    | dct ys => cases e
    | tct ys => cases e; obtain ⟨L, h1, h2, h3, h4⟩ := h; exact ⟨p, L, rfl, h1, h2, h3, h4⟩
    | ins c ns ds => cases e
    | tab P q => cases e
theorem PRep.scr {ns : List Int} (h : PRep K is fz H v (.scr ns)) : ∃ a, v = .ref a ∧ SqL K H a (ns.map V.int) := by
  rcases h with h | ⟨p, c, rfl, e, h⟩
  · cases h with
    | scr h =>
      refine ⟨_, rfl, ?_⟩
      rcases h with ⟨_, h⟩ | h
      · exact .inl h
      · exact .inr h
  · cases c <;> cases e
theorem sqT_of {a : Addr} {vs : List V} (h : (fz a ∧ H a = some (.tup vs)) ∨ StT K a vs) : SqT K H a vs := by
  rcases h with ⟨_, h⟩ | h
  · exact .of h
  · exact .inr h
theorem Fin.sc {Q : VK} {z : D} {v : V} (h : Fin K is fz H Q (.d z)) (r : Rep K is fz H v z) : Q v H := h v fz H .same r
theorem Fin.lst {Q : VK} {xs : List D} {vs : List V} (d : ∀ b, fz b → ∃ o, H b = some o) (h : Fin K is fz H Q (.new (.lst xs))) (r : RepA K is fz H vs xs) : ∀ p, H p = none → Q (.ref p) (upd H p (.lst vs)) :=
  fun p hp => h p _ hp ⟨vs, upd_same, r.mono (Le.alloc fun z => by obtain ⟨o, e⟩ := d p z; rw [hp] at e; cases e)⟩
theorem Fin.tup {Q : VK} {xs : List D} {vs : List V} (d : ∀ b, fz b → ∃ o, H b = some o) (h : Fin K is fz H Q (.d (.tup xs))) (r : RepA K is fz H vs xs) : ∀ p, H p = none → Q (.ref p) (upd H p (.tup vs)) := by
  intro p hp
  have nz : ¬ fz p := fun z => by obtain ⟨o, e⟩ := d p z; rw [hp] at e; cases e
  have l : Le fz H is (fun b => fz b ∨ b = p) (upd H p (.tup vs)) is := (Le.alloc nz).trans (Le.frz p)
  exact h _ _ _ (.new p _ hp) (.tup (.inl ⟨.inr rfl, upd_same⟩) (r.mono l))
end

/-! ### + - * // % ** -/
theorem strOk_app {x y : Str} (hx : StrOk x) (hy : StrOk y) (h : x.length + y.length ≤ sizeLine) : StrOk (x ++ y) := by
  refine ⟨?_, ?_⟩
  · have h1 := hx.cps
    have h2 := hy.cps
    unfold okS at h1 h2 ⊢
    show (x.cps ++ y.cps).all _ = true
    rw [Array.all_append, h1, h2]; rfl
  · show (x.cps ++ y.cps).size ≤ sizeLine
    rw [Array.size_append]; exact h
def fAdd : D → D → Option RN
  | .int i, .int j => some (.d (.int (i + j)))
  | .str x, .str y => if x.length + y.length ≤ sizeLine then some (.d (.str (x ++ y))) else none
  | .lst xs, .lst ys => if xs.length + ys.length ≤ sizeLine then some (.new (.lst (xs ++ ys))) else none
  | .tup xs, .tup ys => if xs.length + ys.length ≤ sizeLine then some (.d (.tup (xs ++ ys))) else none
  | _, _ => none
def rAddS : R2 := fun x y H Q => ∃ i j, x = .str i ∧ y = .str j ∧ i.length + j.length ≤ sizeLine ∧ Q (.str (i ++ j)) H
def rAddAll (K : PySem.W.Frag) : R2 := fun x y H Q => ((rI0 fun i j => .int (i + j)) x y H Q ∨ rAddS x y H Q) ∨ (rCat x y H Q ∨ rCatA K x y H Q)
theorem op_addAll {X : Cx} : OpR X (binaryOp .Add) (rAddAll X.K) := (op_add.or op_add_str).or (op_cat.or op_catA)
theorem f_add {K : PySem.W.Frag} : OpF K (rAddAll K) fAdd := by
  intro is fz H v w x y rn Q dm hx hy e fin
  unfold fAdd at e
  split at e
  · cases e
    rw [hx.int, hy.int]
    exact .inl (.inl ⟨_, _, rfl, rfl, fin.sc (.int _)⟩)
  · split at e
    · rename_i hz
      cases e
      obtain ⟨rfl, o1⟩ := hx.str
      obtain ⟨rfl, o2⟩ := hy.str
      exact .inl (.inr ⟨_, _, rfl, rfl, hz, fin.sc (.str _ (strOk_app o1 o2 hz))⟩)
    · cases e
  · split at e
    · rename_i hz
      cases e
      obtain ⟨a, vs, rfl, h1, r1⟩ := hx.lst
      obtain ⟨b, ws, rfl, h2, r2⟩ := hy.lst
      exact .inr (.inl ⟨_, _, _, _, rfl, rfl, h1, h2, by rw [r1.length, r2.length]; exact hz, fin.lst dm (r1.append r2)⟩)
    · cases e
  · split at e
    · rename_i hz
      cases e
      obtain ⟨a, vs, rfl, h1, r1⟩ := hx.tup
      obtain ⟨b, ws, rfl, h2, r2⟩ := hy.tup
      refine .inr (.inr ⟨_, _, _, _, rfl, rfl, sqT_of h1, sqT_of h2, by rw [r1.length, r2.length]; exact hz, fun e => ?_, fun _ e => ?_, fun _ _ => fin.tup dm (r1.append r2)⟩)
      · subst e
        cases r1
        exact fin.sc (.tup h2 r2)
      · subst e
        cases r2
        rw [List.append_nil] at fin
        exact fin.sc (.tup h1 r1)
    · cases e
  · cases e
/-- ints, by a rule with a condition -/
def fI (C : Int → Int → Bool) (g : Int → Int → D) : D → D → Option RN
  | .int i, .int j => if C i j = true then some (.d (g i j)) else none
  | _, _ => none
theorem f_rI {K : PySem.W.Frag} {C : Int → Int → Prop} {b : Int → Int → Bool} {g : Int → Int → V} {d : Int → Int → D} (hc : ∀ i j, b i j = true → C i j) (hg : ∀ i j is fz H, Rep K is fz H (g i j) (d i j)) : OpF K (rI C g) (fI b d) := by
  intro is fz H v w x y rn Q dm hx hy e fin
  unfold fI at e
  split at e
  · split at e
    · rename_i hz
      cases e
      rw [hx.int, hy.int]
      exact ⟨_, _, rfl, rfl, hc _ _ hz, fin.sc (hg _ _ _ _ _)⟩
    · cases e
  · cases e
theorem f_rI0 {K : PySem.W.Frag} {g : Int → Int → V} {d : Int → Int → D} (hg : ∀ i j is fz H, Rep K is fz H (g i j) (d i j)) : OpF K (rI0 g) (fI (fun _ _ => true) d) := by
  intro is fz H v w x y rn Q dm hx hy e fin
  unfold fI at e
  split at e
  · rw [if_pos rfl] at e
    cases e
    rw [hx.int, hy.int]
    exact ⟨_, _, rfl, rfl, fin.sc (hg _ _ _ _ _)⟩
  · cases e
abbrev fSub : D → D → Option RN := fI (fun _ _ => true) fun i j => .int (i - j)
theorem f_sub {K : PySem.W.Frag} : OpF K (rI0 fun i j => .int (i - j)) fSub := f_rI0 fun _ _ _ _ _ => .int _
abbrev fMod : D → D → Option RN := fI (fun _ j => decide (0 < j)) fun i j => .int (i % j)
theorem f_mod {K : PySem.W.Frag} : OpF K (rI (fun _ j => 0 < j) fun i j => .int (i % j)) fMod := f_rI (fun _ _ h => of_decide_eq_true h) fun _ _ _ _ _ => .int _
abbrev fFdiv : D → D → Option RN := fI (fun _ j => decide (0 < j ∧ j < 1073741824)) fun i j => .int (i / j)
theorem f_fdiv {K : PySem.W.Frag} : OpF K (rI CDiv fun i j => .int (i / j)) fFdiv := f_rI (fun i j h => (of_decide_eq_true h : 0 < j ∧ j < 1073741824)) fun _ _ _ _ _ => .int _
abbrev fPow : D → D → Option RN := fI (fun i j => decide (0 ≤ j ∧ j ≤ 1000000 ∧ i.natAbs < 2 ^ 64)) fun i j => .int (i ^ j.toNat)
theorem f_pow {K : PySem.W.Frag} : OpF K (rI CPow fun i j => .int (i ^ j.toNat)) fPow := f_rI (fun i j h => (of_decide_eq_true h : 0 ≤ j ∧ j ≤ 1000000 ∧ i.natAbs < 2 ^ 64)) fun _ _ _ _ _ => .int _
def fMul : D → D → Option RN
  | .int i, .int j => if i.natAbs < 2 ^ 64 ∨ j.natAbs < 2 ^ 64 then some (.d (.int (i * j))) else none
  | .lst xs, .int k => if k.natAbs < 2 ^ 63 ∧ xs.length * k.toNat ≤ sizeLine then some (.new (.lst (List.replicate k.toNat xs).flatten)) else none
  | _, _ => none
def rMulAll : R2 := fun x y H Q => (rI CMul fun i j => .int (i * j)) x y H Q ∨ rRep x y H Q
theorem op_mulAll {X : Cx} : OpR X (binaryOp .Mult) rMulAll := op_mul.or op_rep
theorem RepA.rep {K : PySem.W.Frag} {is : List Addr} {fz : Addr → Prop} {H : Hp} {vs : List V} {xs : List D} (r : RepA K is fz H vs xs) : ∀ n, RepA K is fz H (List.replicate n vs).flatten (List.replicate n xs).flatten
  | 0 => by simp; exact .nil
  | n + 1 => by
    rw [List.replicate_succ, List.replicate_succ, List.flatten_cons, List.flatten_cons]
    exact r.append (RepA.rep r n)
theorem mul_room {i j : Int} (h : i.natAbs < 2 ^ 64 ∨ j.natAbs < 2 ^ 64) : (-(2 ^ 64) < i ∧ i < 2 ^ 64) ∨ (-(2 ^ 64) < j ∧ j < 2 ^ 64) := by
  rcases h with h | h
  · exact .inl ⟨by omega, by omega⟩
  · exact .inr ⟨by omega, by omega⟩
theorem f_mul {K : PySem.W.Frag} : OpF K rMulAll fMul := by
  intro is fz H v w x y rn Q dm hx hy e fin
  unfold fMul at e
  split at e
  · split at e
    · rename_i hz
      cases e
      rw [hx.int, hy.int]
      exact .inl ⟨_, _, rfl, rfl, mul_room hz, fin.sc (.int _)⟩
    · cases e
  · split at e
    · rename_i hz
      cases e
      obtain ⟨a, vs, rfl, h1, r1⟩ := hx.lst
      rw [hy.int]
      exact .inr ⟨_, _, _, rfl, rfl, h1, by omega, by omega, by rw [r1.length]; exact hz.2, fin.lst dm (r1.rep _)⟩
    · cases e
  · cases e
/-! ### comparisons -/
abbrev fLt : D → D → Option RN := fI (fun _ _ => true) fun i j => .bl (decide (i < j))
abbrev fLe : D → D → Option RN := fI (fun _ _ => true) fun i j => .bl (decide (i ≤ j))
abbrev fGt : D → D → Option RN := fI (fun _ _ => true) fun i j => .bl (decide (j < i))
abbrev fGe : D → D → Option RN := fI (fun _ _ => true) fun i j => .bl (decide (j ≤ i))
theorem f_lt {K : PySem.W.Frag} : OpF K (rI0 fun i j => .bl (decide (i < j))) fLt := f_rI0 fun _ _ _ _ _ => .bl _
theorem f_le {K : PySem.W.Frag} : OpF K (rI0 fun i j => .bl (decide (i ≤ j))) fLe := f_rI0 fun _ _ _ _ _ => .bl _
theorem f_gt {K : PySem.W.Frag} : OpF K (rI0 fun i j => .bl (decide (j < i))) fGt := f_rI0 fun _ _ _ _ _ => .bl _
theorem f_ge {K : PySem.W.Frag} : OpF K (rI0 fun i j => .bl (decide (j ≤ i))) fGe := f_rI0 fun _ _ _ _ _ => .bl _
/-! == -/
mutual
def fits : Nat → D → Bool
  | _, .non => true | _, .bl _ => true | _, .int _ => true | _, .str _ => true
  | 0, _ => false
  | n + 1, .tup xs => fitsA n xs
  | n + 1, .lst xs => fitsA n xs
  | _, _ => false
def fitsA : Nat → List D → Bool
  | _, [] => true
  | n, x :: xs => fits n x && fitsA n xs
end
mutual
def eqD : D → D → Bool
  | .non, .non => true
  | .bl a, .bl b => a == b
  | .bl a, .int j => (if a then 1 else 0) == j
  | .int i, .bl b => i == (if b then 1 else 0)
  | .int i, .int j => i == j
  | .str x, .str y => x == y
  | .lst xs, .lst ys => eqA xs ys
  | .tup xs, .tup ys => eqA xs ys
  | _, _ => false
def eqA : List D → List D → Bool
  | [], [] => true
  | x :: xs, y :: ys => eqD x y && eqA xs ys
  | _, _ => false
end
mutual
def toPy : D → PyData
  | .bl b => .bool b
  | .int i => .int i
  | .str s => .str s
  | .lst xs => .list (toPyA xs)
  | .tup xs => .tuple (toPyA xs)
  | _ => .none
def toPyA : List D → List PyData
  | [] => []
  | x :: xs => toPy x :: toPyA xs
end
mutual
theorem eqv_eq : ∀ (n m : Nat) (x y : D), fits n x = true → fits m y = true → PyData.eqv (toPy x) (toPy y) = eqD x y
  | n, m, .lst xs, .lst ys, hx, hy => by
    cases n with
    | zero => simp [fits] at hx
    | succ n =>
      cases m with
      | zero => simp [fits] at hy
      | succ m =>
        simp only [fits] at hx hy
        simp only [toPy, PyData.eqv, eqD]
        exact eqv_eqA n m xs ys hx hy
  | n, m, .tup xs, .tup ys, hx, hy => by
    cases n with
    | zero => simp [fits] at hx
    | succ n =>
      cases m with
      | zero => simp [fits] at hy
      | succ m =>
        simp only [fits] at hx hy
        simp only [toPy, PyData.eqv, eqD]
        exact eqv_eqA n m xs ys hx hy
  | n, m, .non, y, hx, hy => by
    cases y <;> first
      | (simp [toPy, PyData.eqv, eqD]; done)
      | (cases m <;> simp [fits] at hy)
  | n, m, .bl b, y, hx, hy => by
    cases y <;> first
      | (simp [toPy, PyData.eqv, eqD]; done)
      | (cases m <;> simp [fits] at hy)
  | n, m, .int i, y, hx, hy => by
    cases y <;> first
      | (simp [toPy, PyData.eqv, eqD]; done)
      | (cases m <;> simp [fits] at hy)
  | n, m, .str s, y, hx, hy => by
    cases y <;> first
      | (simp [toPy, PyData.eqv, eqD]; done)
      | (cases m <;> simp [fits] at hy)
  | n, m, .lst xs, .non, hx, hy => by simp [toPy, PyData.eqv, eqD]
  | n, m, .lst xs, .bl _, hx, hy => by simp [toPy, PyData.eqv, eqD]
  | n, m, .lst xs, .int _, hx, hy => by simp [toPy, PyData.eqv, eqD]
  | n, m, .lst xs, .str _, hx, hy => by simp [toPy, PyData.eqv, eqD]
  | n, m, .lst xs, .tup _, hx, hy => by simp [toPy, PyData.eqv, eqD]
  | n, m, .tup xs, .non, hx, hy => by simp [toPy, PyData.eqv, eqD]
  | n, m, .tup xs, .bl _, hx, hy => by simp [toPy, PyData.eqv, eqD]
  | n, m, .tup xs, .int _, hx, hy => by simp [toPy, PyData.eqv, eqD]
  | n, m, .tup xs, .str _, hx, hy => by simp [toPy, PyData.eqv, eqD]
  | n, m, .tup xs, .lst _, hx, hy => by simp [toPy, PyData.eqv, eqD]
  | n, m, .lst xs, .ty _, hx, hy => by cases m <;> simp [fits] at hy
  | n, m, .lst xs, .fn _, hx, hy => by cases m <;> simp [fits] at hy
  | n, m, .lst xs, .obj _, hx, hy => by cases m <;> simp [fits] at hy
  | n, m, .lst xs, .dct _, hx, hy => by cases m <;> simp [fits] at hy
  | n, m, .lst xs, .scr _, hx, hy => by cases m <;> simp [fits] at hy
  | n, m, .lst xs, .tdc _, hx, hy => by cases m <;> simp [fits] at hy
  | n, m, .lst xs, .ins _ _ _, hx, hy => by cases m <;> simp [fits] at hy
  | n, m, .tup xs, .ty _, hx, hy => by cases m <;> simp [fits] at hy
  | n, m, .tup xs, .fn _, hx, hy => by cases m <;> simp [fits] at hy
  | n, m, .tup xs, .obj _, hx, hy => by cases m <;> simp [fits] at hy
  | n, m, .tup xs, .dct _, hx, hy => by cases m <;> simp [fits] at hy
  | n, m, .tup xs, .scr _, hx, hy => by cases m <;> simp [fits] at hy
  | n, m, .tup xs, .tdc _, hx, hy => by cases m <;> simp [fits] at hy
  | n, m, .tup xs, .ins _ _ _, hx, hy => by cases m <;> simp [fits] at hy
  | n, m, .ty _, y, hx, hy => by cases n <;> simp [fits] at hx
  | n, m, .fn _, y, hx, hy => by cases n <;> simp [fits] at hx
  | n, m, .obj _, y, hx, hy => by cases n <;> simp [fits] at hx
  | n, m, .dct _, y, hx, hy => by cases n <;> simp [fits] at hx
  | n, m, .scr _, y, hx, hy => by cases n <;> simp [fits] at hx
  | n, m, .tdc _, y, hx, hy => by cases n <;> simp [fits] at hx
  | n, m, .ins _ _ _, y, hx, hy => by cases n <;> simp [fits] at hx
theorem eqv_eqA : ∀ (n m : Nat) (xs ys : List D), fitsA n xs = true → fitsA m ys = true → PyData.eqvAll (toPyA xs) (toPyA ys) = eqA xs ys
  | _, _, [], [], _, _ => by simp [toPyA, PyData.eqvAll, eqA]
  | _, _, [], y :: ys, _, _ => by simp [toPyA, PyData.eqvAll, eqA]
  | _, _, x :: xs, [], _, _ => by simp [toPyA, PyData.eqvAll, eqA]
  | n, m, x :: xs, y :: ys, hx, hy => by
    simp only [fitsA, Bool.and_eq_true] at hx hy
    simp only [toPyA, PyData.eqvAll, eqA]
    rw [eqv_eq n m x y hx.1 hy.1, eqv_eqA n m xs ys hx.2 hy.2]
end
mutual
theorem dp_of {K : PySem.W.Frag} {is : List Addr} {fz : Addr → Prop} {H : Hp} : ∀ (n : Nat) (x : D) (v : V), fits n x = true → PRep K is fz H v x → Dp K H v (toPy x) ∧ PyData.canLay0 (toPy x) = true ∧ PyData.depth (toPy x) ≤ n
  | n, .non, v, hf, h => by rw [h.non]; exact ⟨.non, rfl, Nat.zero_le _⟩
  | n, .bl b, v, hf, h => by rw [h.bl]; exact ⟨.bl b, rfl, Nat.zero_le _⟩
  | n, .int i, v, hf, h => by rw [h.int]; exact ⟨.int i, rfl, Nat.zero_le _⟩
  | n, .str s, v, hf, h => by
    obtain ⟨rfl, ok⟩ := h.str
    exact ⟨.str s, ok.cps, Nat.zero_le _⟩
  | n, .tup xs, v, hf, h => by
    cases n with
    | zero => simp [fits] at hf
    | succ n =>
      obtain ⟨a, vs, rfl, h1, r1⟩ := h.tup
      obtain ⟨q1, q2, q3⟩ := dp_ofA n xs vs (by simpa [fits] using hf) r1
      exact ⟨.tup (sqT_of h1) q1, q2, by show PyData.depthAll _ + 1 ≤ _; omega⟩
  | n, .lst xs, v, hf, h => by
    cases n with
    | zero => simp [fits] at hf
    | succ n =>
      obtain ⟨a, vs, rfl, h1, r1⟩ := h.lst
      obtain ⟨q1, q2, q3⟩ := dp_ofA n xs vs (by simpa [fits] using hf) r1
      exact ⟨.lst (.of h1) q1, q2, by show PyData.depthAll _ + 1 ≤ _; omega⟩
  | n, .ty _, v, hf, h => by cases n <;> simp [fits] at hf
  | n, .fn _, v, hf, h => by cases n <;> simp [fits] at hf
  | n, .obj _, v, hf, h => by cases n <;> simp [fits] at hf
  | n, .dct _, v, hf, h => by cases n <;> simp [fits] at hf
  | n, .scr _, v, hf, h => by cases n <;> simp [fits] at hf
  | n, .tdc _, v, hf, h => by cases n <;> simp [fits] at hf
  | n, .ins _ _ _, v, hf, h => by cases n <;> simp [fits] at hf
theorem dp_ofA {K : PySem.W.Frag} {is : List Addr} {fz : Addr → Prop} {H : Hp} : ∀ (n : Nat) (xs : List D) (vs : List V), fitsA n xs = true → RepA K is fz H vs xs → DpAll K H vs (toPyA xs) ∧ PyData.canLayAll0 (toPyA xs) = true ∧ PyData.depthAll (toPyA xs) ≤ n
  | n, [], vs, hf, h => by cases h; exact ⟨.nil, rfl, Nat.zero_le _⟩
  | n, x :: xs, vs, hf, h => by
    cases h with
    | cons r t =>
      simp only [fitsA, Bool.and_eq_true] at hf
      obtain ⟨q1, q2, q3⟩ := dp_of n x _ hf.1 (.inl r)
      obtain ⟨p1, p2, p3⟩ := dp_ofA n xs _ hf.2 t
      refine ⟨.cons q1 p1, ?_, ?_⟩
      · show (PyData.canLay0 (toPy x) && PyData.canLayAll0 (toPyA xs)) = true
        rw [q2, p2]; rfl
      · show max (PyData.depth (toPy x)) (PyData.depthAll (toPyA xs)) ≤ n
        omega
end
theorem shaped_of {x : D} (h : PyData.canLay0 (toPy x) = true) (hd : PyData.depth (toPy x) ≤ 64) : SeqAt.shaped (toPy x) = true := by
  unfold SeqAt.shaped
  rw [h, decide_eq_true hd]; rfl
/-- equal by value; data of defs, classes, dicts are not compared -/
def fEq (neg : Bool) : D → D → Option RN := fun x y => if fits 64 x && fits 64 y then some (.d (.bl (if neg then !eqD x y else eqD x y))) else none
theorem f_eq {K : PySem.W.Frag} : OpF K (rEqD K) (fEq false) := by
  intro is fz H v w x y rn Q dm hx hy e fin
  unfold fEq at e
  split at e
  · rename_i hf
    rw [Bool.and_eq_true] at hf
    cases e
    obtain ⟨a1, a2, a3⟩ := dp_of 64 x v hf.1 hx
    obtain ⟨b1, b2, b3⟩ := dp_of 64 y w hf.2 hy
    refine ⟨_, _, a1, b1, shaped_of a2 a3, shaped_of b2 b3, ?_⟩
    rw [eqv_eq 64 64 x y hf.1 hf.2]
    exact fin.sc (.bl _)
  · cases e
theorem f_ne {K : PySem.W.Frag} : OpF K (rNeD K) (fEq true) := by
  intro is fz H v w x y rn Q dm hx hy e fin
  unfold fEq at e
  split at e
  · rename_i hf
    rw [Bool.and_eq_true] at hf
    cases e
    obtain ⟨a1, a2, a3⟩ := dp_of 64 x v hf.1 hx
    obtain ⟨b1, b2, b3⟩ := dp_of 64 y w hf.2 hy
    refine ⟨_, _, a1, b1, shaped_of a2 a3, shaped_of b2 b3, ?_⟩
    rw [eqv_eq 64 64 x y hf.1 hf.2]
    exact fin.sc (.bl _)
  · cases e
/-! is None -/
def fIsN (neg : Bool) : D → D → Option RN
  | .non, .non => some (.d (.bl (!neg)))
  | .bl _, .non => some (.d (.bl neg)) | .int _, .non => some (.d (.bl neg)) | .str _, .non => some (.d (.bl neg)) | .ty _, .non => some (.d (.bl neg))
  | .tup _, .non => some (.d (.bl neg)) | .lst _, .non => some (.d (.bl neg)) | .dct _, .non => some (.d (.bl neg)) | .scr _, .non => some (.d (.bl neg))
  | _, _ => none
theorem isN_val {K : PySem.W.Frag} {is : List Addr} {fz : Addr → Prop} {H : Hp} {v w : V} {x y : D} {rn : RN} {neg : Bool} (hx : PRep K is fz H v x) (hy : PRep K is fz H w y) (e : fIsN neg x y = some rn) : w = .non ∧ rn = .d (.bl (if neg then !decide (v = .non) else decide (v = .non))) := by
  unfold fIsN at e
  split at e
  · cases e
    rw [hx.non, hy.non]; cases neg <;> exact ⟨rfl, rfl⟩
  · cases e; rw [hx.bl, hy.non]; cases neg <;> exact ⟨rfl, rfl⟩
  · cases e; rw [hx.int, hy.non]; cases neg <;> exact ⟨rfl, rfl⟩
  · cases e; obtain ⟨rfl, _⟩ := hx.str; rw [hy.non]; cases neg <;> exact ⟨rfl, rfl⟩
  · cases e; rw [hx.ty, hy.non]; cases neg <;> exact ⟨rfl, rfl⟩
  · cases e; obtain ⟨a, vs, rfl, _⟩ := hx.tup; rw [hy.non]; cases neg <;> exact ⟨rfl, rfl⟩
  · cases e; obtain ⟨a, vs, rfl, _⟩ := hx.lst; rw [hy.non]; cases neg <;> exact ⟨rfl, rfl⟩
  · cases e; obtain ⟨a, vs, rfl, _⟩ := hx.dct; rw [hy.non]; cases neg <;> exact ⟨rfl, rfl⟩
  · cases e; obtain ⟨a, rfl, _⟩ := hx.scr; rw [hy.non]; cases neg <;> exact ⟨rfl, rfl⟩
  · cases e
def rIsN : R2 := fun x y H Q => y = .non ∧ Q (.bl (decide (x = .non))) H
theorem f_isN {K : PySem.W.Frag} : OpF K rIsN (fIsN false) := by
  intro is fz H v w x y rn Q dm hx hy e fin
  obtain ⟨rfl, rfl⟩ := isN_val hx hy e
  exact ⟨rfl, fin.sc (.bl _)⟩
/-! in -/
def inD (x : D) : List D → Bool
  | [] => false
  | y :: ys => eqD y x || inD x ys
def flatD : D → Bool
  | .non => true | .bl _ => true | .int _ => true | .str _ => true
  | _ => false
/-- in a list or tuple; one sign in a text -/
def fIn (neg : Bool) : D → D → Option RN
  | x, .lst ys => if fits 63 x && fitsA 63 ys then some (.d (.bl (if neg then !inD x ys else inD x ys))) else none
  | x, .tup ys => if flatD x && ys.all flatD then some (.d (.bl (if neg then !inD x ys else inD x ys))) else none
  | .str c, .str z => if c.cps.size = 1 then some (.d (.bl (if neg then !decide (c.cps.getD 0 0 ∈ z.cps.toList) else decide (c.cps.getD 0 0 ∈ z.cps.toList)))) else none
  | _, _ => none
theorem flat_V {K : PySem.W.Frag} {is : List Addr} {fz : Addr → Prop} {H : Hp} {v : V} {x : D} (h : Rep K is fz H v x) (hf : flatD x = true) : flatV v = true := by
  cases h <;> first | rfl | simp [flatD] at hf
theorem eqV_D {K : PySem.W.Frag} {is : List Addr} {fz : Addr → Prop} {H : Hp} {v w : V} {x y : D} (h : Rep K is fz H v x) (h' : Rep K is fz H w y) (hf : flatD x = true) (hf' : flatD y = true) : eqV v w = eqD x y := by
  cases h <;> first | (simp [flatD] at hf; done) | (cases h' <;> first | (simp [flatD] at hf'; done) | (simp [eqV, eqD]; done))
theorem inV_D {K : PySem.W.Frag} {is : List Addr} {fz : Addr → Prop} {H : Hp} {v : V} {x : D} (h : Rep K is fz H v x) (hf : flatD x = true) : ∀ {vs : List V} {ys : List D}, RepA K is fz H vs ys → ys.all flatD = true → vs.all flatV = true ∧ inV v vs = inD x ys
  | _, _, .nil, _ => ⟨rfl, rfl⟩
  | w :: vs, y :: ys, .cons r t, e => by
    rw [List.all_cons, Bool.and_eq_true] at e
    obtain ⟨h1, h2⟩ := inV_D h hf t e.2
    refine ⟨by rw [List.all_cons, flat_V r e.1, h1]; rfl, ?_⟩
    show (eqV w v || inV v vs) = (eqD y x || inD x ys)
    rw [eqV_D r h e.1 hf, h2]
theorem any_D {x : D} (hx : fits 64 x = true) : ∀ (n : Nat) (ys : List D), fitsA n ys = true → ((toPyA ys).any fun z => PyData.eqv z (toPy x)) = inD x ys
  | _, [], _ => by simp [toPyA, inD]
  | n, y :: ys, h => by
    simp only [fitsA, Bool.and_eq_true] at h
    simp only [toPyA, List.any_cons, inD]
    rw [eqv_eq n 64 y x h.1 hx, any_D hx n ys h.2]
mutual
theorem fits_mono : ∀ (n m : Nat) (x : D), n ≤ m → fits n x = true → fits m x = true
  | n, m, .tup xs, h, e => by
    cases n with
    | zero => simp [fits] at e
    | succ n =>
      cases m with
      | zero => omega
      | succ m => simp only [fits] at e ⊢; exact fitsA_mono n m xs (by omega) e
  | n, m, .lst xs, h, e => by
    cases n with
    | zero => simp [fits] at e
    | succ n =>
      cases m with
      | zero => omega
      | succ m => simp only [fits] at e ⊢; exact fitsA_mono n m xs (by omega) e
  | n, m, .non, h, e => by cases m <;> simp [fits]
  | n, m, .bl _, h, e => by cases m <;> simp [fits]
  | n, m, .int _, h, e => by cases m <;> simp [fits]
  | n, m, .str _, h, e => by cases m <;> simp [fits]
  | n, m, .ty _, h, e => by cases n <;> simp [fits] at e
  | n, m, .fn _, h, e => by cases n <;> simp [fits] at e
  | n, m, .obj _, h, e => by cases n <;> simp [fits] at e
  | n, m, .dct _, h, e => by cases n <;> simp [fits] at e
  | n, m, .scr _, h, e => by cases n <;> simp [fits] at e
  | n, m, .tdc _, h, e => by cases n <;> simp [fits] at e
  | n, m, .ins _ _ _, h, e => by cases n <;> simp [fits] at e
theorem fitsA_mono : ∀ (n m : Nat) (xs : List D), n ≤ m → fitsA n xs = true → fitsA m xs = true
  | _, _, [], _, _ => by simp [fitsA]
  | n, m, x :: xs, h, e => by
    simp only [fitsA, Bool.and_eq_true] at e ⊢
    exact ⟨fits_mono n m x h e.1, fitsA_mono n m xs h e.2⟩
end
def rNotInS : R2 := fun x y H Q => ∃ (c : Nat) (z : Str), x = .str ⟨#[c]⟩ ∧ y = .str z ∧ Q (.bl (!decide (c ∈ z.cps.toList))) H
def rNotInAll (K : PySem.W.Frag) : R2 := fun x y H Q => (rIn K true x y H Q ∨ rNotInD K x y H Q) ∨ rNotInS x y H Q
theorem op_notInAll {X : Cx} (hu : X.A.units + 65 < cLine) : OpR X (compareOp .NotIn) (rNotInAll X.K) := (op_notIn_seq.or (op_notInD hu)).or op_notIn_sign
theorem one_sign {c : Str} (h : c.cps.size = 1) : c = ⟨#[c.cps.getD 0 0]⟩ := by
  obtain ⟨⟨l⟩⟩ := c
  match l, h with
  | [a], _ => rfl
theorem in_parts {K : PySem.W.Frag} {is : List Addr} {fz : Addr → Prop} {H : Hp} {v w : V} {x y : D} {rn : RN} {neg : Bool} (hx : PRep K is fz H v x) (hy : PRep K is fz H w y) (e : fIn neg x y = some rn) :
    ∃ b, rn = .d (.bl (if neg then !b else b)) ∧ ((∃ p vs, w = .ref p ∧ (SqL K H p vs ∨ SqT K H p vs) ∧ flatV v = true ∧ vs.all flatV = true ∧ inV v vs = b) ∨
      (∃ d ds, Dp K H v d ∧ Dp K H w (.list ds) ∧ SeqAt.shaped d = true ∧ SeqAt.shaped (.list ds) = true ∧ (ds.any fun z => PyData.eqv z d) = b) ∨ ∃ (c : Nat) (z : Str), v = .str ⟨#[c]⟩ ∧ w = .str z ∧ decide (c ∈ z.cps.toList) = b) := by
  unfold fIn at e
  split at e
  · rename_i ys
    split at e
    · rename_i hf
      rw [Bool.and_eq_true] at hf
      cases e
      refine ⟨inD x ys, rfl, .inr (.inl ?_)⟩
      have f1 := fits_mono 63 64 x (by decide) hf.1
      obtain ⟨a1, a2, a3⟩ := dp_of 63 x v hf.1 hx
      obtain ⟨b1, b2, b3⟩ := dp_of 64 (.lst ys) w (by simpa [fits] using hf.2) hy
      exact ⟨toPy x, toPyA ys, a1, b1, shaped_of a2 (by omega), shaped_of (x := .lst ys) b2 b3, any_D f1 63 ys hf.2⟩
    · cases e
  · rename_i ys
    split at e
    · rename_i hf
      rw [Bool.and_eq_true] at hf
      cases e
      obtain ⟨p, vs, rfl, h1, r1⟩ := hy.tup
      have hx' : Rep K is fz H v x := by
        rcases hx with hx | ⟨p, c, _, e, _⟩
        · exact hx
        · subst e; cases c <;> simp [C.d, flatD] at hf
      obtain ⟨h2, h3⟩ := inV_D hx' hf.1 r1 hf.2
      exact ⟨inD x ys, rfl, .inl ⟨p, vs, rfl, .inr (sqT_of h1), flat_V hx' hf.1, h2, h3⟩⟩
    · cases e
  · rename_i c z
    split at e
    · rename_i h1
      cases e
      obtain ⟨rfl, _⟩ := hx.str
      obtain ⟨rfl, _⟩ := hy.str
      exact ⟨_, rfl, .inr (.inr ⟨_, z, by rw [← one_sign h1], rfl, rfl⟩)⟩
    · cases e
  · cases e
theorem f_notIn {K : PySem.W.Frag} : OpF K (rNotInAll K) (fIn true) := by
  intro is fz H v w x y rn Q dm hx hy e fin
  obtain ⟨b, rfl, h⟩ := in_parts hx hy e
  have q : Q (.bl (!b)) H := fin.sc (.bl _)
  rcases h with ⟨p, vs, rfl, h1, h2, h3, h4⟩ | ⟨d, ds, h1, h2, h3, h4, h5⟩ | ⟨c, z, rfl, rfl, h⟩
  · exact .inl (.inl ⟨p, vs, rfl, h1, h2, h3, by rw [h4]; exact q⟩)
  · exact .inl (.inr ⟨d, ds, h1, h2, h3, h4, by rw [h5]; exact q⟩)
  · exact .inr ⟨c, z, rfl, rfl, by rw [h]; exact q⟩
end Mx

set_option Elab.async false
set_option linter.all false
set_option maxRecDepth 100000
/-! built-ins, subscripts, methods that change a container -/
namespace Mx
open PySem PySem.Spec PyProof.Rows L2

section
variable {K : PySem.W.Frag} {is : List Addr} {fz : Addr → Prop} {H : Hp} {v : V}
theorem PReps.one {vs : List V} {x : D} (h : PReps K is fz H vs [x]) : ∃ v, vs = [v] ∧ PRep K is fz H v x := by
  cases h with
  | cons r t => cases t; exact ⟨_, rfl, r⟩
theorem PReps.two {vs : List V} {x y : D} (h : PReps K is fz H vs [x, y]) : ∃ v w, vs = [v, w] ∧ PRep K is fz H v x ∧ PRep K is fz H w y := by
  cases h with
  | cons r t =>
    cases t with
    | cons r' t => cases t; exact ⟨_, _, rfl, r, r'⟩
theorem CallR.or {X : Cx} {f : Value} {r r' : List V → Hp → VK → Prop} (h : CallR X f r) (h' : CallR X f r') : CallR X f (fun xs H Q => r xs H Q ∨ r' xs H Q) := by
  intro pins s σ H xs us Q I r1 q
  rcases q with q | q
  · exact h pins s σ H xs us Q I r1 q
  · exact h' pins s σ H xs us Q I r1 q

/-! ### len -/
def fLen : List D → Option RN
  | [.str s] => some (.d (.int s.length))
  | [.lst xs] => some (.d (.int xs.length))
  | [.tup xs] => some (.d (.int xs.length))
  | [.scr ns] => some (.d (.int ns.length))
  | _ => none
def rLenA (K : PySem.W.Frag) : List V → Hp → VK → Prop := fun xs H Q => ∃ x n, xs = [x] ∧ LenV K x H n ∧ Q (.int n) H
theorem f_len : CallF K (rLenA K) fLen := by
  intro is fz H vs xs rn Q dm hx e fin
  unfold fLen at e
  split at e
  · cases e
    obtain ⟨v, rfl, h⟩ := hx.one
    obtain ⟨rfl, ok⟩ := h.str
    exact ⟨_, _, rfl, ⟨ok.len, rfl⟩, fin.sc (.int _)⟩
  · cases e
    obtain ⟨v, rfl, h⟩ := hx.one
    obtain ⟨a, ws, rfl, h1, r1⟩ := h.lst
    exact ⟨_, _, rfl, .inl ⟨ws, .of h1, rfl⟩, by rw [r1.length]; exact fin.sc (.int _)⟩
  · cases e
    obtain ⟨v, rfl, h⟩ := hx.one
    obtain ⟨a, ws, rfl, h1, r1⟩ := h.tup
    exact ⟨_, _, rfl, .inr ⟨ws, sqT_of h1, rfl⟩, by rw [r1.length]; exact fin.sc (.int _)⟩
  · cases e
    obtain ⟨v, rfl, h⟩ := hx.one
    obtain ⟨a, rfl, h1⟩ := h.scr
    exact ⟨_, _, rfl, .inl ⟨_, h1, rfl⟩, by rw [List.length_map]; exact fin.sc (.int _)⟩
  · cases e
/-! ### list(x), tuple(x) -/
def fList : List D → Option RN
  | [.lst xs] => some (.new (.lst xs))
  | [.tup xs] => some (.new (.lst xs))
  | [.scr ns] => some (.new (.lst (ns.map D.int)))
  | _ => none
def rListA (K : PySem.W.Frag) : List V → Hp → VK → Prop := fun xs H Q => ∃ p ys, xs = [.ref p] ∧ (SqL K H p ys ∨ SqT K H p ys) ∧ ∀ l, H l = none → Q (.ref l) (upd H l (.lst ys))
theorem rep_ints : ∀ ns : List Int, RepA K is fz H (ns.map V.int) (ns.map D.int)
  | [] => .nil
  | n :: ns => .cons (.int n) (rep_ints ns)
theorem f_list : CallF K (rListA K) fList := by
  intro is fz H vs xs rn Q dm hx e fin
  unfold fList at e
  split at e
  · cases e
    obtain ⟨v, rfl, h⟩ := hx.one
    obtain ⟨a, ws, rfl, h1, r1⟩ := h.lst
    exact ⟨_, _, rfl, .inl (.of h1), fin.lst dm r1⟩
  · cases e
    obtain ⟨v, rfl, h⟩ := hx.one
    obtain ⟨a, ws, rfl, h1, r1⟩ := h.tup
    exact ⟨_, _, rfl, .inr (sqT_of h1), fin.lst dm r1⟩
  · cases e
    obtain ⟨v, rfl, h⟩ := hx.one
    obtain ⟨a, rfl, h1⟩ := h.scr
    exact ⟨_, _, rfl, .inl h1, fin.lst dm (rep_ints _)⟩
  · cases e
def fTuple : List D → Option RN
  | [.lst xs] => some (.d (.tup xs))
  | [.tup xs] => some (.d (.tup xs))
  | _ => none
def rTupleA (K : PySem.W.Frag) : List V → Hp → VK → Prop := fun xs H Q => ∃ p ys, xs = [.ref p] ∧ ((SqL K H p ys ∧ ∀ l, H l = none → Q (.ref l) (upd H l (.tup ys))) ∨ (SqT K H p ys ∧ Q (.ref p) H))
theorem f_tuple : CallF K (rTupleA K) fTuple := by
  intro is fz H vs xs rn Q dm hx e fin
  unfold fTuple at e
  split at e
  · cases e
    obtain ⟨v, rfl, h⟩ := hx.one
    obtain ⟨a, ws, rfl, h1, r1⟩ := h.lst
    exact ⟨_, _, rfl, .inl ⟨.of h1, fin.tup dm r1⟩⟩
  · cases e
    obtain ⟨v, rfl, h⟩ := hx.one
    obtain ⟨a, ws, rfl, h1, r1⟩ := h.tup
    exact ⟨_, _, rfl, .inr ⟨sqT_of h1, fin.sc (.tup h1 r1)⟩⟩
  · cases e
/-! ### all, any -/
def bools : List D → Option (List Bool)
  | [] => some []
  | .bl b :: xs => (bools xs).map (b :: ·)
  | _ => none
def fAll : List D → Option RN
  | [.lst xs] => (bools xs).map fun bs => .d (.bl (bs.all id))
  | _ => none
theorem bools_rep : ∀ {vs : List V} {xs : List D} {bs : List Bool}, RepA K is fz H vs xs → bools xs = some bs → vs = bs.map V.bl
  | _, _, bs, .nil, e => by cases e; rfl
  | _, _, bs, .cons (d := d) r t, e => by
    cases d with
    | bl b =>
      simp only [bools] at e
      obtain ⟨cs, h1, rfl⟩ := Option.map_eq_some_iff.mp e
      cases r
      rw [bools_rep t h1]
      rfl
    | _ => cases e
theorem f_all : CallF K (rAll K) fAll := by
  intro is fz H vs xs rn Q dm hx e fin
  unfold fAll at e
  split at e
  · obtain ⟨bs, h1, rfl⟩ := Option.map_eq_some_iff.mp e
    obtain ⟨v, rfl, h⟩ := hx.one
    obtain ⟨a, ws, rfl, h2, r1⟩ := h.lst
    rw [bools_rep r1 h1] at h2
    exact ⟨a, bs, rfl, .of h2, fin.sc (.bl _)⟩
  · cases e
/-! ### isinstance with built-in classes -/
def tyN : D → Option String
  | .non => some "NoneType" | .bl _ => some "bool" | .int _ => some "int" | .str _ => some "str" | .lst _ => some "list" | .scr _ => some "list" | .tup _ => some "tuple" | .dct _ => some "dict"
  | _ => none
def isB (t n : String) : Bool := t == n || (t == "bool" && n == "int")
def tyS : List String := ["NoneType", "bool", "int", "str", "list", "tuple", "dict"]
def clS : List String := ["bool", "int", "str", "list", "tuple", "dict"]
theorem kit_tab : (tyS.all fun t => clS.all fun n => kitB t n == some (isB t n)) = true := by decide +kernel
def tys : List D → Option (List String)
  | [] => some []
  | .ty n :: cs => if n ∈ clS then (tys cs).map (n :: ·) else none
  | _ => none
def fIsi : List D → Option RN
  | [x, .ty n] => (tyN x).bind fun t => if n ∈ clS then some (.d (.bl (isB t n))) else none
  | [x, .tup cs] => (tyN x).bind fun t => (tys cs).map fun ns => .d (.bl (ns.any (isB t)))
  | _ => none
theorem tyN_in {x : D} {t : String} (h : tyN x = some t) : t ∈ tyS := by
  cases x <;> simp [tyN] at h <;> subst h <;> decide
theorem kit_is {t n : String} (ht : t ∈ tyS) (hn : n ∈ clS) : kitB t n = some (isB t n) := by
  have h := kit_tab
  rw [List.all_eq_true] at h
  have h := h t ht
  rw [List.all_eq_true] at h
  exact eq_of_beq (h n hn)
theorem tyX_of {x : D} {t : String} (h : PRep K is fz H v x) (e : tyN x = some t) : TyX K H v (.type t) := by
  cases x <;> simp [tyN] at e <;> subst e
  · rw [h.non]; exact .base .non
  · rw [h.bl]; exact .base (.bl _)
  · rw [h.int]; exact .base (.int _)
  · rw [h.str.1]; exact .base (.str _)
  · obtain ⟨a, vs, rfl, h1, _⟩ := h.tup
    rcases h1 with ⟨_, h1⟩ | ⟨o, its, n, h1, h2, _⟩
    · exact .base (.tup h1)
    · exact .kTuple h1 h2
  · obtain ⟨a, vs, rfl, h1, _⟩ := h.lst
    exact .base (.lst h1)
  · obtain ⟨a, vs, rfl, h1, _⟩ := h.dct
    rcases h1 with h1 | ⟨o, h1⟩
    · exact .base (.dK h1)
    · exact .fDict h1
  · obtain ⟨a, rfl, h1⟩ := h.scr
    rcases h1 with (h1 | ⟨o, h1⟩) | ⟨o, its, n, h1, h2, _⟩
    · exact .base (.lst h1)
    · exact .base (.frz h1)
    · exact .kList h1 h2
theorem isi_any {t : String} (ht : t ∈ tyS) : ∀ {cs : List D} {ns : List String} {vs : List V}, RepA K is fz H vs cs → tys cs = some ns →
    ∃ us, Paired ClsV vs us ∧ PySem.W.kitAny K (.type t) us = some (ns.any (isB t))
  | [], ns, _, .nil, e => by
    simp [tys] at e; subst e
    exact ⟨[], .nil, rfl⟩
  | c :: cs, ns, _, .cons r rr, e => by
    cases c with
    | ty n =>
      simp only [tys] at e
      by_cases hn : n ∈ clS
      · rw [if_pos hn] at e
        obtain ⟨ms, h1, rfl⟩ := Option.map_eq_some_iff.mp e
        obtain ⟨us, q1, q2⟩ := isi_any ht rr h1
        cases r
        refine ⟨.type n :: us, .cons (.ty n) q1, ?_⟩
        have hk : PySem.W.kitOne K (.type t) (.type n) = some (isB t n) := kit_ty (kit_is ht hn)
        rw [List.any_cons]
        cases hb : isB t n with
        | true => rw [hb] at hk; exact kitAny_cons hk (fun q => by cases q) (fun _ => by simp)
        | false => rw [hb] at hk; exact kitAny_cons hk (fun _ => by simpa using q2) (fun q => by cases q)
      · rw [if_neg hn] at e; cases e
    | _ => simp [tys] at e
def rIsiA (K : PySem.W.Frag) : List V → Hp → VK → Prop := fun xs H Q => (rIsi K xs H Q ∨ rIsiT K xs H Q) ∨ rIsiK K xs H Q
theorem cr_isi {X : Cx} : CallR X (.builtin "isinstance") (rIsiA X.K) := CallR.or (CallR.or call_isi call_isiT) call_isiK
theorem f_isi : CallF K (rIsiA K) fIsi := by
  intro is fz H vs xs rn Q dm hx e fin
  unfold fIsi at e
  split at e
  · rename_i x n
    obtain ⟨t, h1, h2⟩ := Option.bind_eq_some_iff.mp e
    split at h2
    · rename_i hn
      cases h2
      obtain ⟨v, w, rfl, r1, r2⟩ := hx.two
      rw [r2.ty]
      exact .inl (.inl ⟨v, _, _, _, _, rfl, .ty n, tyX_of r1 h1, kit_ty (kit_is (tyN_in h1) hn), fin.sc (.bl _)⟩)
    · cases h2
  · rename_i x cs
    obtain ⟨t, h1, h2⟩ := Option.bind_eq_some_iff.mp e
    obtain ⟨ns, h3, rfl⟩ := Option.map_eq_some_iff.mp h2
    obtain ⟨v, w, rfl, r1, r2⟩ := hx.two
    obtain ⟨a, ws, rfl, ha, ra⟩ := r2.tup
    obtain ⟨us, q1, q2⟩ := isi_any (tyN_in h1) ra h3
    rcases ha with ⟨_, ha⟩ | ⟨o, its, n, k1, k2, k3, k4, k5⟩
    · exact .inl (.inr ⟨v, a, ws, _, us, _, rfl, ha, q1, tyX_of r1 h1, q2, fin.sc (.bl _)⟩)
    · have e := ClsV.all q1 k5
      subst e
      obtain ⟨oc, od, dt, sl⟩ := o
      simp only at k2 k3
      subst k2 k3
      exact .inr ⟨v, a, od, its.toList, n, sl, _, _, rfl, by rw [k1], tyX_of r1 h1, q2, fin.sc (.bl _)⟩
  · cases e
/-! ### int, max, min -/
def intsD : List D → Option (List Int)
  | [] => some []
  | .int b :: xs => (intsD xs).map (b :: ·)
  | _ => none
theorem ints_rep : ∀ {vs : List V} {xs : List D} {bs : List Int}, RepA K is fz H vs xs → intsD xs = some bs → vs = bs.map V.int
  | _, _, bs, .nil, e => by cases e; rfl
  | _, _, bs, .cons (d := d) r t, e => by
    cases d with
    | int b =>
      simp only [intsD] at e
      obtain ⟨cs, h1, rfl⟩ := Option.map_eq_some_iff.mp e
      cases r
      rw [ints_rep t h1]
      rfl
    | _ => cases e
@[simp] theorem ints_map : ∀ ns : List Int, intsD (ns.map D.int) = some ns
  | [] => rfl
  | n :: ns => by simp [intsD, ints_map ns]
def maxL : List Int → Int
  | [] => 0
  | [a] => a
  | a :: b :: r => max a (maxL (b :: r))
theorem maxL_spec : ∀ l : List Int, l ≠ [] → maxL l ∈ l ∧ ∀ y ∈ l, y ≤ maxL l
  | [], h => absurd rfl h
  | [a], _ => ⟨by simp [maxL], fun y hy => by simp at hy; subst hy; simp [maxL]⟩
  | a :: b :: r, _ => by
    obtain ⟨h1, h2⟩ := maxL_spec (b :: r) (by simp)
    refine ⟨?_, fun y hy => ?_⟩
    · simp only [maxL]
      rcases Int.le_total a (maxL (b :: r)) with h | h
      · rw [Int.max_eq_right h]; exact List.mem_cons_of_mem _ h1
      · rw [Int.max_eq_left h]; exact List.mem_cons_self
    · simp only [maxL]
      rcases List.mem_cons.mp hy with rfl | hy
      · exact Int.le_max_left _ _
      · exact Int.le_trans (h2 y hy) (Int.le_max_right _ _)
def fMax : List D → Option RN
  | [.lst xs] => (intsD xs).bind fun ns => if ns.isEmpty then none else some (.d (.int (maxL ns)))
  | _ => none
theorem f_max : CallF K (rMax K) fMax := by
  intro is fz H vs xs rn Q dm hx e fin
  unfold fMax at e
  split at e
  · obtain ⟨ns, h1, h2⟩ := Option.bind_eq_some_iff.mp e
    obtain ⟨v, rfl, h⟩ := hx.one
    obtain ⟨a, ws, rfl, h3, r1⟩ := h.lst
    rw [ints_rep r1 h1] at h3
    cases ns with
    | nil => simp at h2
    | cons n ns =>
      simp at h2
      subst h2
      refine ⟨a, _, rfl, .of h3, by simp, fun m hm hle => ?_⟩
      obtain ⟨q1, q2⟩ := maxL_spec (n :: ns) (by simp)
      have : m = maxL (n :: ns) := Int.le_antisymm (q2 m hm) (hle _ q1)
      rw [this]
      exact fin.sc (.int _)
  · cases e
end

/-! ### x[i] -/
def fIx : D → D → Option RN
  | .lst xs, .int i => (atI xs i).map .d
  | .tup xs, .int i => (atI xs i).map .d
  | .scr ns, .int i => (atI ns i).map fun n => .d (.int n)
  | .str s, .int i => (atI s.cps.toList i).map fun c => .d (.str ⟨#[c]⟩)
  | _, _ => none
def rIxAll (K : PySem.W.Frag) : R2 := fun x y H Q => (rIxL K x y H Q ∨ rIxT K x y H Q) ∨ rIxS x y H Q
theorem ix_all {X : Cx} : IxR X (rIxAll X.K) := (ix_list.or ix_tup).or ix_str
theorem atI_len {α β : Type} {xs : List α} {ys : List β} (h : xs.length = ys.length) {i : Int} {x : α} (e : atI xs i = some x) : ∃ j : Nat, xs[j]? = some x ∧ ∀ y, ys[j]? = some y → atI ys i = some y := by
  obtain ⟨j, h1, h2⟩ := Option.bind_eq_some_iff.mp e
  exact ⟨j, h2, fun y hy => by unfold atI; rw [← h, h1]; exact hy⟩
theorem f_ix {K : PySem.W.Frag} : OpF K (rIxAll K) fIx := by
  intro is fz H v w x y rn Q dm hx hy e fin
  unfold fIx at e
  split at e
  · obtain ⟨d, h1, rfl⟩ := Option.map_eq_some_iff.mp e
    obtain ⟨a, vs, rfl, h2, r⟩ := hx.lst
    rw [hy.int]
    obtain ⟨j, h3, h4⟩ := atI_len r.length.symm h1
    obtain ⟨u, h5, r5⟩ := r.get h3
    exact .inl (.inl ⟨_, _, _, u, rfl, rfl, .of h2, h4 u h5, fin.sc r5⟩)
  · obtain ⟨d, h1, rfl⟩ := Option.map_eq_some_iff.mp e
    obtain ⟨a, vs, rfl, h2, r⟩ := hx.tup
    rw [hy.int]
    obtain ⟨j, h3, h4⟩ := atI_len r.length.symm h1
    obtain ⟨u, h5, r5⟩ := r.get h3
    exact .inl (.inr ⟨_, _, _, u, rfl, rfl, sqT_of h2, h4 u h5, fin.sc r5⟩)
  · obtain ⟨d, h1, rfl⟩ := Option.map_eq_some_iff.mp e
    obtain ⟨a, rfl, h2⟩ := hx.scr
    rw [hy.int]
    rename_i ns i
    obtain ⟨j, h3, h4⟩ := atI_len (ys := ns.map V.int) (by simp) h1
    exact .inl (.inl ⟨_, _, _, .int d, rfl, rfl, h2, h4 _ (by rw [List.getElem?_map, h3]; rfl), fin.sc (.int _)⟩)
  · obtain ⟨d, h1, rfl⟩ := Option.map_eq_some_iff.mp e
    obtain ⟨rfl, ok⟩ := hx.str
    rw [hy.int]
    refine .inr ⟨_, _, _, rfl, rfl, ok.len, h1, fin.sc (.str _ (strOk_sign ok ?_))⟩
    obtain ⟨j, _, h3⟩ := Option.bind_eq_some_iff.mp h1
    exact List.mem_of_getElem? h3
  · cases e

/-! ### x[a:b] -/
def cut {α : Type} (xs : List α) (lo hi : Option Int) : List α := (xs.drop (HT.sIx xs.length 0 lo)).take (HT.sIx xs.length xs.length hi - HT.sIx xs.length 0 lo)
def fSl (x : D) (lo hi : Option Int) : Option RN := match x with
  | .lst xs => some (.new (.lst (cut xs lo hi)))
  | .scr ns => some (.new (.lst ((cut ns lo hi).map D.int)))
  | .tup xs => some (.d (.tup (cut xs lo hi)))
  | .str s => some (.d (.str (cutS s lo hi)))
  | _ => none
section
variable {X : Cx} {N : En} {xm : XM} {W : WX}
/-- a slice's part -/
def asI : RV → Option Int
  | .d (.int i) => some i
  | _ => none
theorem asI_eq {r : RV} {i : Int} (h : asI r = some i) : r = .d (.int i) := by
  unfold asI at h
  split at h <;> cases h
  rfl
def mPart (m : ST RV) : ST (Option Int) := bnd m fun r g => match asI r with
  | some i => .ok (some i) g
  | none => .stuck
def mNoPart : ST (Option Int) := ret none
def postO (N : En) (xm : XM) (W : WX) (σ : L2.St) (H : Hp) (fz : Addr → Prop) (is : List Addr) (Q : Option Int → Hp → Prop) : R (Option Int) → Prop
  | .stuck => False
  | .ok r g' => ∀ H' fz' is', Le fz H is fz' H' is' → SR N σ H' g' fz' is' → Q r H'
  | .exc e g' => ∀ cls od H' fz' is', Le fz H is fz' H' is' → SR N σ H' g' fz' is' → ExRep xm N.K is' fz' H' e cls od → W cls od σ H'
def liftO (N : En) (xm : XM) (W : WX) (m : ST (Option Int)) : TO := fun σ H Q => ∃ g fz is, SR N σ H g fz is ∧ postO N xm W σ H fz is Q (m g)
theorem impO {e : Option Expr} {t t' : TO} (h : PO X e t) (i : ∀ σ H Q, t' σ H Q → t σ H Q) : PO X e t' := ⟨fun pins s σ H Q I q => h.run pins s σ H Q I (i σ H Q q)⟩
theorem postO.later {σ : L2.St} {H H1 : Hp} {fz fz1 : Addr → Prop} {is is1 : List Addr} {Q : Option Int → Hp → Prop} (l : Le fz H is fz1 H1 is1) {x : R (Option Int)} (h : postO N xm W σ H fz is Q x) : postO N xm W σ H1 fz1 is1 Q x := by
  cases x with
  | stuck => exact h
  | ok r g' => exact fun H' fz' is' l' => h H' fz' is' (l.trans l')
  | exc e g' => exact fun cls od H' fz' is' l' => h cls od H' fz' is' (l.trans l')
theorem o_none : PO X none (liftO N xm W mNoPart) := impO po_none fun σ H Q ⟨g, fz, is, sr, h⟩ => h H fz is .refl sr
theorem o_some {e : Expr} {m : ST RV} (h : PE X e (lift N xm W m)) : PO X (some e) (liftO N xm W (mPart m)) := by
  refine impO (po_some h) fun σ H Q ⟨g, fz, is, sr, h⟩ => ⟨g, fz, is, sr, ?_⟩
  simp only [mPart, bnd] at h
  cases e : m g with
  | stuck => rw [e] at h; exact h
  | exc x g' => rw [e] at h; exact h
  | ok r g1 =>
    rw [e, bind_ok] at h
    intro v H1 fz1 is1 l sr1 rep
    have h := h.later l
    cases q : asI r with
    | none => rw [q] at h; exact h.elim
    | some i =>
      rw [q] at h
      rw [asI_eq q] at rep
      cases (show Rep N.K is1 fz1 H1 v (.int i) from rep)
      exact ⟨i, rfl, h H1 fz1 is1 .refl sr1⟩
def mSl (m : ST RV) (lo hi : ST (Option Int)) : ST RV := bnd m fun r => bnd lo fun a => bnd hi fun b => fun g => match peek (frz r) g with
  | some x => opt (fSl x a b) g
  | none => .stuck
def rSlAll (K : PySem.W.Frag) : V → Option Int → Option Int → Hp → VK → Prop := fun x lo hi H Q => (rSlL K x lo hi H Q ∨ rSlA K x lo hi H Q) ∨ rSlS x lo hi H Q
theorem sl_all : SlR X (rSlAll X.K) := (sl_list.or sl_tupA).or sl_str
theorem cutV_map {α : Type} (f : α → V) (xs : List α) (lo hi : Option Int) : cutV (xs.map f) lo hi = (cut xs lo hi).map f := by
  unfold cutV cut
  simp [List.map_take, List.map_drop]
theorem strOk_cut {s : Str} (h : StrOk s) (lo hi : Option Int) : StrOk (cutS s lo hi) := by
  refine ⟨?_, Nat.le_trans (cutS_length s lo hi) h.len⟩
  have h1 := h.cps
  unfold okS at h1 ⊢
  rw [Array.all_eq_true_iff_forall_mem] at h1 ⊢
  intro c hc
  refine h1 c ?_
  have : c ∈ (s.cps.toList.drop (HT.sIx s.length 0 lo)).take (HT.sIx s.length s.length hi - HT.sIx s.length 0 lo) := by
    have := hc
    unfold cutS at this
    simpa using this
  simpa using List.mem_of_mem_drop (List.mem_of_mem_take this)
theorem f_sl {K : PySem.W.Frag} {is : List Addr} {fz : Addr → Prop} {H : Hp} {v : V} {x : D} {lo hi : Option Int} {rn : RN} {Q : VK} (dm : ∀ b, fz b → ∃ o, H b = some o) (hx : PRep K is fz H v x) (e : fSl x lo hi = some rn) (fin : Fin K is fz H Q rn) : rSlAll K v lo hi H Q := by
  unfold fSl at e
  split at e
  · cases e
    obtain ⟨a, vs, rfl, h2, r⟩ := hx.lst
    refine .inl (.inl ⟨a, vs, rfl, .of h2, fin.lst dm ?_⟩)
    unfold cutV cut
    rw [r.length]
    exact (r.drop _).take _
  · cases e
    obtain ⟨a, rfl, h2⟩ := hx.scr
    refine .inl (.inl ⟨a, _, rfl, h2, fin.lst dm ?_⟩)
    rw [cutV_map]
    exact rep_ints _
  · cases e
    obtain ⟨a, vs, rfl, h2, r⟩ := hx.tup
    rename_i xs
    have hr : RepA K is fz H (cutV vs lo hi) (cut xs lo hi) := by
      unfold cutV cut
      rw [r.length]
      exact (r.drop _).take _
    refine .inl (.inr ⟨a, vs, rfl, sqT_of h2, fun hw => ?_, fun _ => fin.tup dm hr⟩)
    have e1 : cut xs lo hi = xs := by
      unfold cut
      rw [r.length] at hw
      rw [hw.1, hw.2]
      simp
    rw [e1] at fin
    exact fin.sc (.tup h2 r)
  · cases e
    obtain ⟨rfl, ok⟩ := hx.str
    exact .inr ⟨_, rfl, ok.len, fin.sc (.str _ (strOk_cut ok lo hi))⟩
  · cases e
theorem e_slice {e : Expr} {m : ST RV} {lo hi : Option Expr} {a b : ST (Option Int)} {p2 pos : Pos} (c : MC X N W) (he : PE X e (lift N xm W m)) (hl : PO X lo (liftO N xm W a)) (hh : PO X hi (liftO N xm W b)) :
    PE X (.Subscript e (.Slice lo hi none p2) pos) (lift N xm W (mSl m a b)) := by
  have hK := c.hK
  refine imp (pe_slice sl_all he hl hh) fun σ H Q ⟨g, fz, is, sr, h⟩ => step sr h fun r g1 v H1 fz1 is1 l1 sr1 rep1 h1 => ?_
  obtain ⟨fz1', l1', sr1', rep1', nt1⟩ := frz_ok sr1 rep1
  have h1 := h1.later l1'
  refine ⟨g1, fz1', is1, sr1', ?_⟩
  simp only [bnd] at h1
  cases e2 : a g1 with
  | stuck => rw [e2] at h1; exact h1
  | exc x g' => rw [e2] at h1; exact h1
  | ok lo' g2 =>
    rw [e2, bind_ok] at h1
    intro H2 fz2 is2 l2 sr2
    have h2 := h1.later l2
    refine ⟨g2, fz2, is2, sr2, ?_⟩
    simp only [bnd] at h2
    cases e3 : b g2 with
    | stuck => rw [e3] at h2; exact h2
    | exc x g' => rw [e3] at h2; exact h2
    | ok hi' g3 =>
      rw [e3, bind_ok] at h2
      intro H3 fz3 is3 l3 sr3
      have h3 := h2.later l3
      split at h3
      · rename_i x hx
        have px := RVRep.later (l2.trans l3) rep1' nt1 hx sr3
        simp only [opt] at h3
        split at h3
        · rename_i rn hrn
          have fin := fin_ok sr3 h3
          rw [hK] at px fin
          exact f_sl sr3.dom px hrn fin
        · exact h3.elim
      · exact h3.elim
end
end Mx

set_option Elab.async false
set_option linter.all false
set_option maxRecDepth 100000
/-! what changes a container; texts joined; shared containers -/
namespace Mx
open PySem PySem.Spec PyProof.Rows L2

def getC (r : RV) (g : Sg) : Option C := match r with
  | .own i => match g.env[i]? with
    | some (some (.own c)) => some c
    | _ => none
  | .d (.obj k) => g.st[k]?
  | _ => none
def putC (r : RV) (c : C) (g : Sg) : Sg := match r with
  | .own i => { g with env := g.env.set i (some (.own c)) }
  | .d (.obj k) => { g with st := g.st.set k c }
  | _ => g
section
variable {X : Cx} {N : En} {xm : XM} {W : WX}
/-- a shared container changes -/
theorem SR.changeSt {σ : L2.St} {H : Hp} {g : Sg} {fz : Addr → Prop} {is : List Addr} (sr : SR N σ H g fz is) {k : Nat} {c c' : C} {p : Addr} {o : HO} (h : g.st[k]? = some c) (hp : is[k]? = some p) (r : CAt N.K is fz (upd H p o) p c') (nN : p ∈ N.is ∨ N.H p = none) :
    SR N σ (upd H p o) { g with st := g.st.set k c' } fz is := by
  obtain ⟨nf, _⟩ := sr.st k c p h hp
  have l : Le fz H is fz (upd H p o) is := Le.alloc nf
  have hm : p ∈ is := List.mem_of_getElem? hp
  have hk : k < g.st.length := (List.getElem?_eq_some_iff.mp h).1
  refine ⟨fun i x e => ?_, sr.dist, sr.len, sr.sz, fun b hb => ?_, by simp [sr.stl], fun j d a h1 h2 => ?_, sr.nd, fun b u h1 h2 => ?_, sr.fzn, sr.fz0, sr.isx, sr.isn⟩
  · obtain ⟨v, h1, h2⟩ := sr.env i x e
    refine ⟨v, h1, ?_⟩
    cases x with
    | d x => exact Rep.mono l h2
    | own d =>
      obtain ⟨q, rfl, h3, h4⟩ := h2
      exact ⟨q, rfl, h3, h4.mono l (upd_ne fun e => h3.ni (e ▸ hm))⟩
  · obtain ⟨u, e⟩ := sr.dom b hb
    exact ⟨u, by rw [upd_ne (fun (z : b = p) => nf (z ▸ hb))]; exact e⟩
  · by_cases e : j = k
    · subst e
      rw [List.getElem?_set_self hk] at h1; cases h1
      rw [hp] at h2; cases h2
      exact ⟨nf, r⟩
    · rw [List.getElem?_set_ne (Ne.symm e)] at h1
      obtain ⟨h3, h4⟩ := sr.st j d a h1 h2
      refine ⟨h3, h4.mono l (upd_ne fun z => ?_)⟩
      subst z
      obtain ⟨a1, b1⟩ := List.getElem?_eq_some_iff.mp h2
      obtain ⟨a2, b2⟩ := List.getElem?_eq_some_iff.mp hp
      exact e ((List.getElem_inj sr.nd).mp (b1.trans b2.symm))
  · have h3 := sr.frame b u h1 h2
    rw [upd_ne]; exact h3
    rintro rfl
    rcases nN with z | z
    · exact h2 z
    · rw [h1] at z; cases z
theorem putC_ok {σ : L2.St} {H : Hp} {g : Sg} {fz : Addr → Prop} {is : List Addr} {v : V} {r : RV} {c c' : C} {p : Addr} {o : HO} (sr : SR N σ H g fz is) (rep : RVw N σ H fz is v r) (h : getC r g = some c) (e : v = .ref p) (hc : CAt N.K is fz (upd H p o) p c') :
    SR N σ (upd H p o) (putC r c' g) fz is := by
  subst e
  unfold getC at h
  split at h
  · rename_i i
    split at h
    · rename_i c0 hc0
      cases h
      exact sr.change hc0 rep hc
    · cases h
  · rename_i k
    cases (show Rep N.K is fz H (.ref p) (.obj k) from rep) with
    | obj hi => exact sr.changeSt h hi hc (sr.isn p (List.mem_of_getElem? hi))
  · cases h
theorem getC_at {σ : L2.St} {H : Hp} {g : Sg} {fz : Addr → Prop} {is : List Addr} {v : V} {r : RV} {c : C} (sr : SR N σ H g fz is) (rep : RVw N σ H fz is v r) (h : getC r g = some c) : ∃ p, v = .ref p ∧ ¬ fz p ∧ CAt N.K is fz H p c := by
  unfold getC at h
  split at h
  · rename_i i
    split at h
    · rename_i c0 hc0
      cases h
      obtain ⟨p, h1, h2, h3⟩ := sr.own_at hc0
      rw [show σ[i]? = some (some v) from rep] at h1
      cases h1
      exact ⟨p, rfl, h2.nf, h3⟩
    · cases h
  · rename_i k
    cases (show Rep N.K is fz H v (.obj k) from rep) with
    | @obj _ a hi => exact ⟨a, rfl, sr.st k c a h hi⟩
  · cases h

/-! ### o.m(..) that changes o -/
def isLst : Option C → Bool
  | some (.lst _) => true
  | _ => false
/-- what a method makes: its answer, the container behind it -/
abbrev MF := C → List D → Option (D × C)
def mutK (f : MF) (r : RV) (xs : List D) : ST RV := fun g => match getC r g with
  | some c => match f c xs with
    | some (d, c') => .ok (.d d) (putC r c' g)
    | none => .stuck
  | none => .stuck
def mMut (f : MF) (mr : ST RV) (ms : List (ST RV)) : ST RV := bnd mr fun r g => if isLst (getC r g) = true then (argsD ms g).bind (mutK f r) else .stuck
def MutF (K : PySem.W.Frag) (r : V → List V → Hp → VK → Prop) (f : MF) : Prop := ∀ is fz H p c vs ds d c' Q, CAt K is fz H p c → ¬ fz p → RepA K is fz H vs ds → f c ds = some (d, c') →
  (∀ v o, CAt K is fz (upd H p o) p c' → Rep K is fz (upd H p o) v d → Q v (upd H p o)) → r (.ref p) vs H Q
theorem lst_ty {σ : L2.St} {H : Hp} {g : Sg} {fz : Addr → Prop} {is : List Addr} {v : V} {r : RV} (sr : SR N σ H g fz is) (rep : RVw N σ H fz is v r) (h : isLst (getC r g) = true) : tyV X.K "list" v H := by
  unfold isLst at h
  split at h
  · rename_i xs hx
    obtain ⟨p, rfl, _, vs, h1, _⟩ := getC_at sr rep hx
    exact .inl ⟨rfl, vs, .of h1⟩
  · cases h
theorem getC_nt {r : RV} {g : Sg} (h : isLst (getC r g) = true) : ∀ c, r ≠ .tmp c := fun c e => by
  subst e; simp [getC, isLst] at h
theorem mut_args {f : MF} {r : V → List V → Hp → VK → Prop} {r0 : RV} {ms : List (ST RV)} (c : MC X N W) (hf : MutF X.K r f) {σ : L2.St} {H1 : Hp} {g1 : Sg} {fz1 : Addr → Prop} {is1 : List Addr} {Q : VK} {v : V} (sr1 : SR N σ H1 g1 fz1 is1) (rw1 : RVw N σ H1 fz1 is1 v r0)
    (h : postE N xm W σ H1 fz1 is1 Q ((argsD ms g1).bind (mutK f r0))) :
    liftD N xm W ms σ H1 (fun xs H2 => r v xs H2 Q) := by
  have hK := c.hK
  refine stepD sr1 h fun xs g2 vs H2 fz2 is2 l2 sr2 rep2 h2 => ?_
  have rw2 := rw1.mono l2
  unfold mutK at h2
  split at h2
  · rename_i c0 hc0
    split at h2
    · rename_i d c' hd
      obtain ⟨p, rfl, nf, hC⟩ := getC_at sr2 rw2 hc0
      have hC' := hC
      rw [hK] at hC' rep2
      refine hf is2 fz2 H2 p c0 vs xs d c' Q hC' nf rep2 hd fun w o q1 q2 => ?_
      rw [← hK] at q1 q2
      exact h2 w (upd H2 p o) fz2 is2 (Le.alloc nf) (putC_ok sr2 rw2 hc0 rfl q1) q2
    · exact h2.elim
  · exact h2.elim
theorem e_mut {o e : Expr} {es : List Expr} {name : Str} {apos cpos : Pos} {id : String} {r : V → List V → Hp → VK → Prop} {f : MF} {mr : ST RV} {ms : List (ST RV)} (c : MC X N W) (pa : PlainAttrs "list") (slot : Slot "list" name id) (hty : typeOf (.builtin id) = pure (.type "method_descriptor")) (hm : MtR X id r) (hf : MutF X.K r f)
    (ho : PE X o (lift N xm W mr)) (ha : PA X (e :: es) (liftD N xm W ms))
    (hbase : attributeBase o name X.env (eval o X.env) = eval o X.env := by rfl)
    (hfew : ((backTo cpos (starEach (e :: es) X.env)).all (fun x => !x.1) && (backToKw cpos (keywordEach [] X.env)).all (fun x => x.1.isSome)
      && decide ((e :: es).length + ([] : List Keyword).length + (if ([] : List Keyword).isEmpty then 0 else 1) < 30)) = true := by rfl)
    (hline : (apos.endLine == cpos.line) = true := by rfl) (hs : starEach (e :: es) X.env = (false, eval e X.env) :: starEach es X.env := by rfl) (hplain : (backTo cpos (starEach es X.env)).any (·.1) = false := by rfl) :
    PE X (.Call (.Attribute o name apos) (e :: es) [] cpos) (lift N xm W (mMut f mr ms)) := by
  refine imp (pe_bm pa slot hty hm ho ha hbase hfew hline hs hplain) fun σ H Q ⟨g, fz, is, sr, h⟩ => step sr h fun r0 g1 v H1 fz1 is1 l1 sr1 rep1 h1 => ?_
  split at h1
  · rename_i hl
    have rw1 := RVw.of rep1 (getC_nt hl)
    exact ⟨lst_ty sr1 rw1 hl, mut_args c hf sr1 rw1 h1⟩
  · exact h1.elim
theorem e_mut0 {o : Expr} {name : Str} {apos cpos : Pos} {id : String} {r : V → List V → Hp → VK → Prop} {f : MF} {mr : ST RV} (c : MC X N W) (pa : PlainAttrs "list") (slot : Slot "list" name id) (hty : typeOf (.builtin id) = pure (.type "method_descriptor")) (hm : MtR X id r) (hf : MutF X.K r f)
    (ho : PE X o (lift N xm W mr)) (hbase : attributeBase o name X.env (eval o X.env) = eval o X.env := by rfl) (hline : (apos.endLine == cpos.line) = true := by rfl) :
    PE X (.Call (.Attribute o name apos) [] [] cpos) (lift N xm W (mMut f mr [])) := by
  have hK := c.hK
  refine imp (pe_bm0 pa slot hty hm ho hbase hline) fun σ H Q ⟨g, fz, is, sr, h⟩ => step sr h fun r0 g1 v H1 fz1 is1 l1 sr1 rep1 h1 => ?_
  split at h1
  · rename_i hl
    have rw1 := RVw.of rep1 (getC_nt hl)
    refine ⟨lst_ty sr1 rw1 hl, ?_⟩
    obtain ⟨g', fz', is', sr', h'⟩ := mut_args (X := X) (xm := xm) (ms := []) c hf sr1 rw1 h1
    exact h' [] H1 fz' is' .refl sr' .nil
  · exact h1.elim
/-! list.append, list.pop, list.extend -/
def fAppend : MF
  | .lst xs, [d] => if xs.length < sizeLine then some (.non, .lst (xs ++ [d])) else none
  | _, _ => none
theorem m_append {K : PySem.W.Frag} : MutF K rAppend fAppend := by
  intro is fz H p c vs ds d c' Q hc nf r e k
  unfold fAppend at e
  split at e
  · split at e
    · rename_i hz
      cases e
      obtain ⟨us, h1, h2⟩ := hc
      cases r with
      | @cons v1 _ _ _ r t =>
        cases t
        have l : Le fz H is fz (upd H p (.lst (us ++ [v1]))) is := Le.alloc nf
        exact ⟨p, us, v1, rfl, rfl, h1, by rw [h2.length]; exact hz, k .non _ ⟨_, upd_same, (h2.mono l).append (.cons (r.mono l) .nil)⟩ .non⟩
    · cases e
  · cases e
def fPop : MF
  | .lst xs, [] => (xs[xs.length - 1]?).map fun d => (d, .lst xs.dropLast)
  | _, _ => none
theorem m_pop {K : PySem.W.Frag} : MutF K rPop fPop := by
  intro is fz H p c vs ds d c' Q hc nf r e k
  unfold fPop at e
  split at e
  · obtain ⟨y, h3, h4⟩ := Option.map_eq_some_iff.mp e
    cases h4
    obtain ⟨us, h1, h2⟩ := hc
    cases r
    obtain ⟨u, h5, h6⟩ := h2.get h3
    have l : Le fz H is fz (upd H p (.lst us.dropLast)) is := Le.alloc nf
    exact ⟨p, us, u, rfl, rfl, h1, by rw [h2.length]; exact h5, k u _ ⟨_, upd_same, (h2.mono l).dropLast⟩ (h6.mono l)⟩
  · cases e
/-! ### o[i] = e -/
abbrev SF := C → D → D → Option C
def sPut (f : SF) (mo mi me : ST RV) : SM := fun g => (me g).to fun rv g => (toD rv g).to fun d g => (mo g).to fun ro g => (mi g).to fun ri g => (toD ri g).to fun k g => match getC ro g with
  | some c => match f c k d with
    | some c' => .nx (putC ro c' g)
    | none => .stuck
  | none => .stuck
def SetF (K : PySem.W.Frag) (t : TSet) (f : SF) : Prop := ∀ is fz H p c i x v y c' (Q : Hp → Prop), CAt K is fz H p c → ¬ fz p → Rep K is fz H i x → Rep K is fz H v y → f c x y = some c' →
  (∀ o, CAt K is fz (upd H p o) p c' → Q (upd H p o)) → t (.ref p) i v H Q
theorem toD_noexc {r : RV} {g g' : Sg} {e : Ex} : toD r g ≠ .exc e g' := fun h => by
  cases r <;> simp only [toD, ret] at h
  · cases h
  · cases h
  · split at h <;> cases h
theorem s_put {o i e : Expr} {t : TSet} {f : SF} {mo mi me : ST RV} {tpos pos : Pos} (c : MC X N W) (ho : PE X o (lift N xm W mo)) (hi : PE X i (lift N xm W mi)) (he : PE X e (lift N xm W me)) (hs : PSet X t) (hf : SetF X.K t f)
    (ha : ∀ v, assign (.Subscript o i tpos) X.env v = (do
      let ov ← holding [v] (eval o X.env)
      let iv ← holding [v, ov] (eval i X.env)
      standAt tpos
      holding [v, ov, iv] (setItem ov iv v)
      release [v, ov, iv] []) := by intro _; rfl)
    (hsw : swapsWithSole [.Subscript o i tpos] e pos.line X.env = pure false := by rfl) (hw : swappedStores [.Subscript o i tpos] e X.env = pure none := by rfl)
    (h1 : (assignEach [.Subscript o i tpos] X.env).map (·.2) = [assign (.Subscript o i tpos) X.env] := by rfl) :
    PS X (.Assign [.Subscript o i tpos] e pos) (liftS N xm W (sPut f mo mi me)) := by
  have hK := c.hK
  refine impS (ps_asg he (pg_sub ho hi hs ha) hsw hw h1) fun D σ H ⟨g, fz, is, sr, h⟩ => stepS sr h fun rv g1 v H1 fz1 is1 l1 sr1 rep1 h1 => ?_
  cases e1 : toD rv g1 with
  | stuck => rw [e1] at h1; exact h1.elim
  | exc x g' => exact absurd e1 toD_noexc
  | ok d g2 =>
    rw [e1] at h1
    obtain ⟨fz2, l2, sr2, rd2⟩ := toD_ok sr1 rep1 e1
    have h1 := h1.later l2
    refine stepS sr2 h1 fun ro g3 ov H3 fz3 is3 l3 sr3 rep3 h3 => ?_
    refine stepS sr3 h3 fun ri g4 iv H4 fz4 is4 l4 sr4 rep4 h4 => ?_
    cases e5 : toD ri g4 with
    | stuck => rw [e5] at h4; exact h4.elim
    | exc x g' => exact absurd e5 toD_noexc
    | ok k g5 =>
      rw [e5] at h4
      obtain ⟨fz5, l5, sr5, rk5⟩ := toD_ok sr4 rep4 e5
      have h5 := h4.later l5
      dsimp only [R.to_ok] at h5
      split at h5
      · rename_i c0 hc0
        split at h5
        · rename_i c' hc'
          have nt : ∀ c, ro ≠ .tmp c := fun c e => by subst e; simp [getC] at hc0
          have rw5 := ((RVw.of rep3 nt).mono l4).mono l5
          obtain ⟨p, rfl, nf, hC⟩ := getC_at sr5 rw5 hc0
          have rd5 := ((rd2.mono l3).mono l4).mono l5
          have hC' := hC
          have rk5' := rk5
          rw [hK] at hC' rk5' rd5
          refine hf is4 fz5 H4 p c0 iv k v d c' _ hC' nf rk5' rd5 hc' fun o q => ?_
          rw [← hK] at q
          exact h5 σ (upd H4 p o) fz5 is4 (Le.alloc nf) (putC_ok sr5 rw5 hc0 rfl q)
        · exact h5.elim
      · exact h5.elim
def fSetL : SF
  | .lst xs, .int k, d => (ixN xs.length k).map fun j => .lst (xs.set j d)
  | _, _, _ => none
theorem s_setL {K : PySem.W.Frag} : SetF K rSetL fSetL := by
  intro is fz H p c i x v y c' Q hc nf ri rv e k
  unfold fSetL at e
  split at e
  · obtain ⟨j, h1, h2⟩ := Option.map_eq_some_iff.mp e
    cases h2
    obtain ⟨us, h3, h4⟩ := hc
    cases ri
    have l : Le fz H is fz (upd H p (.lst (us.set j v))) is := Le.alloc nf
    exact ⟨p, us, _, j, rfl, rfl, h3, by rw [h4.length]; exact h1, k _ ⟨_, upd_same, RepA.set (rv.mono l) j (h4.mono l)⟩⟩
  · cases e
/-! ### x op= e, of numbers and texts -/
def sAug (i : Nat) (f : D → D → Option RN) (m : ST RV) : SM := fun g => match g.env[i]? with
  | some (some (.d x)) => (m g).to fun r g => match pk2 f (.d x) (frz r) g with
    | some (.d z) => .nx { g with env := g.env.set i (some (.d z)) }
    | _ => .stuck
  | _ => .stuck
/-! ### a method of a text with one argument -/
def isStr : RV → Bool
  | .d (.str _) => true
  | _ => false
def mStr1 (f : D → D → Option RN) (mo me : ST RV) : ST RV := bnd mo fun a => if isStr a = true then bnd me fun b => fun g => opt (pk2 f a (frz b) g) g else stop
def strsD : List D → Option (List Str)
  | [] => some []
  | .str b :: xs => (strsD xs).map (b :: ·)
  | _ => none
@[simp] theorem strs_map : ∀ ns : List Str, strsD (ns.map D.str) = some ns
  | [] => rfl
  | n :: ns => by simp [strsD, strs_map ns]
/-! ### a container that several defs change -/
/-- slot i's own container becomes a shared one -/
theorem SR.share {σ : L2.St} {H : Hp} {g : Sg} {fz : Addr → Prop} {is : List Addr} {p : Addr} {c : C} (sr : SR N σ H g fz is) (f : Free N σ g fz is p) (h : CAt N.K is fz H p c) : SR N σ H { g with st := g.st ++ [c] } fz (is ++ [p]) := by
  have l : Le fz H is fz H (is ++ [p]) := ⟨fun _ h => h, fun _ _ => .inl rfl, List.prefix_append _ _⟩
  refine ⟨fun i x e => ?_, sr.dist, sr.len, sr.sz, sr.dom, by simp [sr.stl], fun j d a h1 h2 => ?_, ?_, sr.frame, sr.fzn, sr.fz0, sr.isx.trans (List.prefix_append _ _), fun a ha => ?_⟩
  · obtain ⟨v, h1, h2⟩ := sr.env i x e
    refine ⟨v, h1, ?_⟩
    cases x with
    | d x => exact Rep.mono l h2
    | own d =>
      obtain ⟨q, rfl, h3, h4⟩ := h2
      refine ⟨q, rfl, ⟨h3.nf, fun z => ?_, h3.new⟩, h4.mono l rfl⟩
      rcases List.mem_append.mp z with z | z
      · exact h3.ni z
      · have : q = p := by simpa using z
        subst this
        exact f.ns i ⟨d, e⟩ h1
  · by_cases hj : j < g.st.length
    · rw [List.getElem?_append_left hj] at h1
      rw [List.getElem?_append_left (by rw [← sr.stl]; exact hj)] at h2
      obtain ⟨q1, q2⟩ := sr.st j d a h1 h2
      exact ⟨q1, q2.mono l rfl⟩
    · have hl : j < g.st.length + 1 := by
        have := (List.getElem?_eq_some_iff.mp h1).1
        simpa using this
      have ej : j = g.st.length := by omega
      subst ej
      rw [List.getElem?_append_right (Nat.le_refl _)] at h1
      rw [List.getElem?_append_right (by rw [sr.stl]; exact Nat.le_refl _), sr.stl] at h2
      simp at h1 h2
      subst h1 h2
      exact ⟨f.own.nf, h.mono l rfl⟩
  · rw [List.nodup_append]
    refine ⟨sr.nd, by simp, fun a ha b hb => ?_⟩
    have : b = p := by simpa using hb
    subst this
    rintro rfl
    exact f.own.ni ha
  · rcases List.mem_append.mp ha with z | z
    · exact sr.isn a z
    · have : a = p := by simpa using z
      subst this
      exact .inr f.own.new
def putSh (i : Nat) (r : RV) : SM := fun g => match r with
  | .tmp c => .nx { env := g.env.set i (some (.d (.obj g.st.length))), st := g.st ++ [c] }
  | _ => .stuck
def sShare (i : Nat) (m : ST RV) : SM := fun g => (m g).to (putSh i)
theorem s_share {i : Nat} {x : Str} {e : Expr} {m : ST RV} {pos pos' : Pos} (c : MC X N W) (hi : X.N[i]? = some x) (hx : Loc X.env.scope x) (he : PE X e (lift N xm W m)) (hn : i < N.n := by decide) (hs : swapsWith e (some (.Name x pos')) pos.line X.env = pure false := by rfl)
    (hf : X.fn x = true ∨ X.env.scope.names.lookup x = some .local := by first | exact .inl rfl | exact .inr rfl | assumption) : PS X (.Assign [.Name x pos'] e pos) (liftS N xm W (sShare i m)) := by
  refine impS (ps_set c.nd hi hx he hs hf) fun D σ H ⟨g, fz, is, sr, h⟩ => stepS sr h fun r g1 v H1 fz1 is1 l1 sr1 rep h1 => ?_
  unfold putSh at h1
  split at h1
  · rename_i c0
    obtain ⟨p, rfl, h2, h3, h4⟩ := rep
    have s2 := sr1.share ⟨h2, h4⟩ h3
    have l2 : Le fz1 H1 is1 fz1 H1 (is1 ++ [p]) := ⟨fun _ h => h, fun _ _ => .inl rfl, List.prefix_append _ _⟩
    exact h1 _ H1 fz1 (is1 ++ [p]) l2 (s2.setD (x := .obj g1.st.length) (.obj (by rw [sr1.stl]; simp)) (by rw [s2.sz]; exact hn))
  · exact h1.elim
end
end Mx

set_option Elab.async false
set_option linter.all false
set_option maxRecDepth 100000
/-! defs of the text, constants of the module, the head, the law's end -/
namespace Mx
open PySem PySem.Spec PyProof.Rows L2

/-! ### defs -/
/-- a def of the module as it stands behind the top -/
def FunAt (K : PySem.W.Frag) (mg : Str → Option Value) (x : Str) (st : Stmt) : Prop := ∃ f fd, mg x = some (.ref f) ∧ FunD K x x (defArgs st) (defBody st) (defScope st) [] [] f fd
/-- a def that does what F says, n arguments, at level k -/
def Def (P : Program) (w : World) (K : PySem.W.Frag) (mg : Str → Option Value) (base : Heap) (xm : XM) (x : Str) (k n : Nat) (F : FM) : Prop :=
  ∃ f fd ps, mg x = some (.ref f) ∧ PySem.W.keepIn K (.ref f) = true ∧ Binds K fd ps [] ∧ FnOk P w K mg base (L2.CX P w) k f fd ps (spF K xm n F)
section
variable {P : Program} {w : World} {K : PySem.W.Frag} {mg : Str → Option Value} {base : Heap} {xm : XM}
theorem Def.mono {x : Str} {k k' n : Nat} {F : FM} (d : Def P w K mg base xm x k n F) (h : k ≤ k') : Def P w K mg base xm x k' n F := by
  obtain ⟨f, fd, ps, h1, h2, h3, h4⟩ := d
  exact ⟨f, fd, ps, h1, h2, h3, h4.mono h⟩
/-- THE RULE: a def of the text does what its body's reading does -/
theorem fnD_ok {x : Str} {st : Stmt} {Nm ps : List Str} {k n np : Nat} {m : SM} {f : Addr} {fd : FuncData} {dvs : List V} {kws : List (Str × V)} (F : FunD K x x (defArgs st) (defBody st) (defScope st) dvs kws f fd) (S : FnScope Nm ps (defScope st)) (hn : Nm.length = n) (hp : ps.length = np)
    (hbody : ∀ (f : Addr) (cdv : Value) (A : Around) (outer : List Env) (s : Shared) (H : Hp) (N : En) (E : XK), N.K = K → N.n = n → Ent N → Room k (A.deeper (envOfC x (defScope st) s.heap.objs.size f cdv)) →
      MC (cxOf (L2.CX P w) P w K mg base Nm x (defScope st) f cdv A outer s H E) N (fun cls od _ H' => E cls od H') →
      PassesOwn (model P w) (cxOf (L2.CX P w) P w K mg base Nm x (defScope st) f cdv A outer s H E).A (cxOf (L2.CX P w) P w K mg base Nm x (defScope st) f cdv A outer s H E).env (cxOf (L2.CX P w) P w K mg base Nm x (defScope st) f cdv A outer s H E).xe →
      PSs (cxOf (L2.CX P w) P w K mg base Nm x (defScope st) f cdv A outer s H E) (defBody st) (liftS N xm (fun cls od _ H' => E cls od H') m)) :
    FnOk P w K mg base (L2.CX P w) (k + 1) f fd ps (spF K xm np (fnM n m)) := by
  have hpn : np ≤ n := by
    have := congrArg List.length S.pre
    rw [List.length_take] at this
    omega
  refine F.ok S (fun vs H Q E h => h.1.trans hp.symm) fun cdv A outer s H vs Q E hr h => ?_
  obtain ⟨hl, ds, St, fz, is, pr, rep, h⟩ := h
  refine ⟨_, hbody f cdv A outer s H ⟨K, n, H, is, fz⟩ E rfl rfl ⟨St, pr⟩ hr ⟨rfl, S.nd, rfl, ?_, takes_of rfl rfl rfl rfl⟩ (passes_of rfl), ?_⟩
  · have := hr.un
    show (A.deeper _).units + 65 < _
    omega
  · refine ⟨{ env := env0 n ds, st := St }, fz, is, start_sr (k := k) pr rep hn (by omega), ?_⟩
    unfold fnM at h
    cases e : m { env := env0 n ds, st := St } with
    | stuck => rw [e] at h; exact h
    | bk g => rw [e] at h; exact h.elim
    | ct g => rw [e] at h; exact h.elim
    | nx g =>
      rw [e] at h
      intro σ' H' fz' is' l sr
      exact h .non H' fz' is' (sr.aft ⟨St, pr⟩) .non
    | ret r S' => rw [e] at h; exact h
    | exc x g =>
      rw [e] at h
      intro cls od σ' H' fz' is' l sr rx
      exact h cls od H' fz' is' (sr.aft ⟨St, pr⟩) rx
theorem def_ok {x : Str} {st : Stmt} {Nm ps : List Str} {k n np : Nat} {m : SM} (F : FunAt K mg x st) (S : FnScope Nm ps (defScope st)) (hn : Nm.length = n) (hp : ps.length = np)
    (hb : ∀ (kV doc pm : Value) (an : Option Addr) (cdv ct : Value) (us : List Value), us.length = ps.length → bindArgs (PySem.W.fnOf x x (defArgs st) (defBody st) (defScope st) .none kV doc pm an cdv ct) ⟨us, []⟩ = pure (ps.zip us))
    (hbody : ∀ (f : Addr) (cdv : Value) (A : Around) (outer : List Env) (s : Shared) (H : Hp) (N : En) (E : XK), N.K = K → N.n = n → Ent N → Room k (A.deeper (envOfC x (defScope st) s.heap.objs.size f cdv)) →
      MC (cxOf (L2.CX P w) P w K mg base Nm x (defScope st) f cdv A outer s H E) N (fun cls od _ H' => E cls od H') →
      PassesOwn (model P w) (cxOf (L2.CX P w) P w K mg base Nm x (defScope st) f cdv A outer s H E).A (cxOf (L2.CX P w) P w K mg base Nm x (defScope st) f cdv A outer s H E).env (cxOf (L2.CX P w) P w K mg base Nm x (defScope st) f cdv A outer s H E).xe →
      PSs (cxOf (L2.CX P w) P w K mg base Nm x (defScope st) f cdv A outer s H E) (defBody st) (liftS N xm (fun cls od _ H' => E cls od H') m)) :
    Def P w K mg base xm x (k + 1) np (fnM n m) := by
  obtain ⟨f, fd, hmg, F⟩ := F
  exact ⟨f, fd, ps, hmg, F.kp, F.bindsN hb, fnD_ok F S hn hp hbody⟩
/-- a def that does nothing known: no turn is left -/
theorem def_none {x : Str} {st : Stmt} {ps : List Str} {k np : Nat} (F : FunAt K mg x st) (hp : ps.length = np)
    (hb : ∀ (kV doc pm : Value) (an : Option Addr) (cdv ct : Value) (us : List Value), us.length = ps.length → bindArgs (PySem.W.fnOf x x (defArgs st) (defBody st) (defScope st) .none kV doc pm an cdv ct) ⟨us, []⟩ = pure (ps.zip us)) :
    Def P w K mg base xm x k np (fun _ _ => .stuck) := by
  obtain ⟨f, fd, hmg, F⟩ := F
  refine ⟨f, fd, ps, hmg, F.kp, F.bindsN hb, ⟨fun vs H Q E h => h.1.trans hp.symm, fun A outer s H args us vs Q E hr e0 hb r h => ?_⟩⟩
  obtain ⟨_, ds, S, fz, is, _, _, h⟩ := h
  exact h.elim
end
section
variable {X : Cx} {N : En} {xm : XM} {W : WX}
theorem e_def {k j : Nat} {x : Str} {p pos : Pos} {e : Expr} {es : List Expr} {F : FM} {n : Nat} {ms : List (ST RV)} (c : MC X N W) (hF : Def X.prog X.w X.K X.mg X.base xm x k n F) (hr : Room j X.A) (hg : Gl X x)
    (ha : PA X (e :: es) (liftD N xm W ms)) (hk : k ≤ j := by decide) (hn : ms.length = n := by rfl) (hdb : (x == ("__debug__" : Str)) = false := by decide) (he : starEach (e :: es) X.env = (false, eval e X.env) :: starEach es X.env := by rfl) (hpl : (backTo pos (starEach es X.env)).any (·.1) = false := by rfl) :
    PE X (.Call (.Name x p) (e :: es) [] pos) (lift N xm W (mCall F ms)) := by
  obtain ⟨f, fd, ps, h1, h2, h3, h4⟩ := hF
  exact e_call c h4 (hr.mono hk) hg h1 h2 h3 ha hn hdb he hpl
/-- {} -/
def mDict0 : ST RV := ret (.tmp (.dct []))
/-- a built-in class as a value -/
theorem e_ty {x : Str} {n : String} {pos : Pos} (c : MC X N W) (hg : Gl X x) (hm : X.mg x = none) (hv : bootBuiltins x = some (.type n)) (hn : x ≠ "__name__" := by decide) (hd : (x == ("__debug__" : Str)) = false := by decide) : PE X (.Name x pos) (lift N xm W (mD (.ty n))) :=
  e_c c (pe_bltn (v := .ty n) hg hm hv rfl hn hd) fun _ _ _ => .ty n
/-- a, b = c, d with plain local names -/
def sPar (i j : Nat) (ma mb : ST RV) : SM := fun g => (argsD [ma, mb] g).to fun xs g => match xs with
  | [x, y] => .nx { g with env := (g.env.set i (some (.d x))).set j (some (.d y)) }
  | _ => .stuck
theorem stepSD {ms : List (ST RV)} {f : List D → SM} {D : Ends} {Q' : List V → Hp → Prop} {σ : L2.St} {H : Hp} {g : Sg} {fz : Addr → Prop} {is : List Addr} (sr : SR N σ H g fz is) (h : postS N xm W D fz H is ((argsD ms g).to f))
    (k : ∀ xs g1 vs H1 fz1 is1, Le fz H is fz1 H1 is1 → SR N σ H1 g1 fz1 is1 → RepA N.K is1 fz1 H1 vs xs → postS N xm W D fz1 H1 is1 (f xs g1) → Q' vs H1) : liftD N xm W ms σ H Q' := by
  refine ⟨g, fz, is, sr, ?_⟩
  cases e : argsD ms g with
  | stuck => rw [e] at h; exact h
  | exc x g' => rw [e] at h; exact fun cls od H' fz' is' l sr' => h cls od σ H' fz' is' l sr'
  | ok r g1 =>
    rw [e] at h
    intro vs H1 fz1 is1 l sr1 rep
    exact k r g1 vs H1 fz1 is1 l sr1 rep (postS.later l h)
theorem s_par {i j : Nat} {x y : Str} {a b : Expr} {ma mb : ST RV} {px py pt pos : Pos} {kt k2 pt2} (c : MC X N W) (hi : X.N[i]? = some x) (hj : X.N[j]? = some y) (hij : i ≠ j)
    (hx : X.env.scope.names.lookup x = some .local) (hy : X.env.scope.names.lookup y = some .local) (ha : PA X [a, b] (liftD N xm W [ma, mb]))
    (hw : swappedStores [.Tuple [.Name x px, .Name y py] kt pt] (.Tuple [a, b] k2 pt2) X.env = pure (some [x, y])) (hni : i < N.n) (hnj : j < N.n)
    (hs : swapsWithSole [.Tuple [.Name x px, .Name y py] kt pt] (.Tuple [a, b] k2 pt2) pos.line X.env = pure false := by rfl) :
    PS X (.Assign [.Tuple [.Name x px, .Name y py] kt pt] (.Tuple [a, b] k2 pt2) pos) (liftS N xm W (sPar i j ma mb)) := by
  refine impS (ps_par c.calm c.nd hi hj hij hx hy ha hw hs) fun D σ H ⟨g, fz, is, sr, h⟩ => stepSD sr h fun xs g1 vs H1 fz1 is1 l1 sr1 rep h1 => ?_
  split at h1
  · rename_i x y
    cases rep with
    | cons r t =>
      cases t with
      | cons r' t =>
        cases t
        refine ⟨_, _, rfl, h1 _ H1 fz1 is1 .refl ?_⟩
        have s1 := sr1.setD r (i := i) (by rw [sr1.sz]; exact hni)
        exact s1.setD r' (i := j) (by rw [s1.sz]; exact hnj)
  · exact h1.elim
/-- target = e, the target a tuple of names -/
def sTgt (t : TgM) (m : ST RV) : SM := fun g => (m g).to fun r g => (toD r g).to fun x g => match t x g with
  | some g => .nx g
  | none => .stuck
end

/-! ### constants of the module -/
mutual
theorem stB_ok {K : PySem.W.Frag} : ∀ (d : D) (u : Value), stB K u d = true → ∃ v, RelV v u ∧ ∀ is fz H, Rep K is fz H v d
  | .non, u, h => by cases u <;> simp [stB] at h; exact ⟨.non, rfl, fun _ _ _ => .non⟩
  | .bl c, u, h => by cases u <;> simp [stB] at h; subst h; exact ⟨.bl _, rfl, fun _ _ _ => .bl _⟩
  | .int j, u, h => by cases u <;> simp [stB] at h; subst h; exact ⟨.int _, ⟨_, rfl⟩, fun _ _ _ => .int _⟩
  | .str y, u, h => by
    cases u <;> simp [stB] at h
    obtain ⟨⟨rfl, h2⟩, h3⟩ := h
    exact ⟨.str _, ⟨_, rfl⟩, fun _ _ _ => .str _ ⟨h2, h3⟩⟩
  | .tup ds, u, h => by
    cases u with
    | ref a =>
      simp only [stB] at h
      split at h
      · rename_i c od its n sl hk
        simp only [Bool.and_eq_true, decide_eq_true_eq] at h
        obtain ⟨⟨rfl, h2⟩, h3⟩ := h
        obtain ⟨vs, h4, h5⟩ := stA_ok ds its.toList h3
        exact ⟨.ref a, rfl, fun is fz H => .tup (.inr ⟨_, its, n, hk, rfl, rfl, h2, h4⟩) (h5 is fz H)⟩
      · cases h
    | _ => simp [stB] at h
  | .ty _, u, h => by cases u <;> simp [stB] at h
  | .fn _, u, h => by cases u <;> simp [stB] at h
  | .obj _, u, h => by cases u <;> simp [stB] at h
  | .lst _, u, h => by cases u <;> simp [stB] at h
  | .dct _, u, h => by cases u <;> simp [stB] at h
  | .scr _, u, h => by cases u <;> simp [stB] at h
  | .tdc _, u, h => by cases u <;> simp [stB] at h
  | .ins _ _ _, u, h => by cases u <;> simp [stB] at h
theorem stA_ok {K : PySem.W.Frag} : ∀ (ds : List D) (us : List Value), stA K us ds = true → ∃ vs, Vals vs us ∧ ∀ is fz H, RepA K is fz H vs ds
  | [], us, h => by
    cases us with
    | nil => exact ⟨[], .nil, fun _ _ _ => .nil⟩
    | cons => simp [stA] at h
  | d :: ds, us, h => by
    cases us with
    | nil => simp [stA] at h
    | cons u us =>
      simp only [stA, Bool.and_eq_true] at h
      obtain ⟨v, h1, h2⟩ := stB_ok d u h.1
      obtain ⟨vs, h3, h4⟩ := stA_ok ds us h.2
      exact ⟨v :: vs, .cons h1 h3, fun is fz H => .cons (h2 is fz H) (h4 is fz H)⟩
end
/-- the module's name x is the data d -/
def Dat (K : PySem.W.Frag) (mg : Str → Option Value) (x : Str) (d : D) : Prop := ∃ u v, mg x = some u ∧ RelV v u ∧ ∀ is fz H, Rep K is fz H v d
theorem dat_ok {K : PySem.W.Frag} {h : Heap} {mg : Str → Option Value} {x : Str} {d : D} (X : K.In h) (G : h.Ns mainGlobals mg) (e : datB K x d = true) : Dat K mg x d := by
  unfold datB at e
  split at e
  · rename_i u hu
    obtain ⟨v, h1, h2⟩ := stB_ok d u e
    exact ⟨u, v, PySem.W.mg_of X G hu, h1, h2⟩
  · cases e
theorem e_dat {X : Cx} {N : En} {xm : XM} {W : WX} {x : Str} {d : D} {pos : Pos} (c : MC X N W) (hg : Gl X x) (h : Dat X.K X.mg x d) (hd : (x == ("__debug__" : Str)) = false := by decide) : PE X (.Name x pos) (lift N xm W (mD d)) := by
  obtain ⟨u, v, h1, h2, h3⟩ := h
  exact e_glob c hg h1 h2 h3 hd

/-! ### the head -/
theorem funAt {fa : List He.Fa} {fn : List He.DefD} {K : PySem.W.Frag} {h : Heap} {mg : Str → Option Value} (X : K.In h) (G : h.Ns mainGlobals mg) (c : He.SaysD fa fn K) (x : Str) (st : Stmt) (i j : Nat) (hi : fn[i]? = some (dfn x st)) (hj : fa[j]? = some (.glo x)) : FunAt K mg x st := by
  obtain ⟨fd, F⟩ := c.def_ i hi
  exact ⟨_, fd, He.glo_ok X G (c.fact j hj), F⟩
/-! ### the law -/
end Mx

set_option Elab.async false
set_option linter.all false
set_option maxRecDepth 100000
/-! small words for the printed texts -/
namespace Mx
open PySem PySem.Spec PyProof.Rows L2
section
variable {X : Cx} {N : En} {xm : XM} {W : WX}
def mNeg (m : ST RV) : ST RV := bnd m fun r g => match r with
  | .d (.int i) => .ok (.d (.int (-i))) g
  | _ => .stuck
theorem e_neg {a : Expr} {pos : Pos} {m : ST RV} (ha : PE X a (lift N xm W m)) : PE X (.UnaryOp .USub a pos) (lift N xm W (mNeg m)) := by
  refine imp (pe_un un_neg ha) fun σ H Q ⟨g, fz, is, sr, h⟩ => step sr h fun r g1 v H1 fz1 is1 l sr1 rep h1 => ?_
  split at h1
  · rename_i i
    cases (show Rep N.K is1 fz1 H1 v (.int i) from rep)
    exact ⟨i, rfl, h1 _ H1 fz1 is1 .refl sr1 (.int _)⟩
  · exact h1.elim
end
theorem bo_len : bootBuiltins "len" = some (.builtin "len") := by decide +kernel
theorem bo_all : bootBuiltins "all" = some (.builtin "all") := by decide +kernel
theorem bo_max : bootBuiltins "max" = some (.builtin "max") := by decide +kernel
theorem bo_sorted : bootBuiltins "sorted" = some (.builtin "sorted") := by decide +kernel
theorem bo_isinstance : bootBuiltins "isinstance" = some (.builtin "isinstance") := by decide +kernel
theorem bo_int : bootBuiltins "int" = some (.type "int") := by decide +kernel
theorem bo_bool : bootBuiltins "bool" = some (.type "bool") := by decide +kernel
theorem bo_str : bootBuiltins "str" = some (.type "str") := by decide +kernel
theorem bo_list : bootBuiltins "list" = some (.type "list") := by decide +kernel
theorem bo_tuple : bootBuiltins "tuple" = some (.type "tuple") := by decide +kernel
theorem bo_set : bootBuiltins "set" = some (.type "set") := by decide +kernel
end Mx

set_option Elab.async false
set_option linter.all false
set_option maxRecDepth 100000
set_option maxHeartbeats 2000000
/-! sets of nested tuples of numbers: made of a list, sorted -/
namespace NSet
open PySem PySem.Spec PyProof.Rows L2

section
variable {P : Program} {w : World} {A : Around} {E : Value → Shared → Prop} {s : Shared}
def Tell (P : Program) (w : World) (m : Sem Bool) (b : Bool) (s : Shared) : Prop := ∀ (A : Around) (E : Value → Shared → Prop) (Q : Bool → Shared → Prop), Q b s → wpAny (model P w) A m Q E s
theorem Tell.of_eq {m : Sem Bool} {b : Bool} {s : Shared} (e : m = pure b) : Tell P w m b s := fun A E Q q => by
  rw [e]
  exact wpAny_pure q
theorem tell_stmt_tup {n : Nat} {s : Shared} {a : Addr} {o : Obj} {us : Array Value} {m : Nat} (g : s.heap.get? a = some o) (gc : o.cls = .type "tuple") (gd : o.data = .seq us m) (all : ∀ v ∈ us.toList, Tell P w (ofAClassStatement n v) false s) :
    Tell P w (ofAClassStatement (n + 1) (.ref a)) false s := fun A E Q q => by
  have ty : s.TypeIs (.ref a) "tuple" := ⟨o, g, gc⟩
  unfold ofAClassStatement
  refine wpAny_bind (wpAny_typeOf ty ?_)
  dsimp only
  have isT : (("tuple" : String) == "tuple") = true := by decide
  simp only [isT, if_true, Bool.not_true, Bool.false_eq_true, if_false]
  try refine wpAny_bind (wpAny_pure ?_)
  try simp only [Bool.not_true, Bool.false_eq_true, if_false]
  refine wpAny_bind (wpAny_seqItems g gd ?_)
  dsimp only
  refine wpAny_bind ?_
  show wpAny _ _ (forIn us _ _) _ _ s
  rw [← Array.forIn_toList]
  refine wpAny_forIn_list _ (fun left r s1 => r.1 = none ∧ s1 = s ∧ ∀ v ∈ left, Tell P w (ofAClassStatement n v) false s) _ ?_ ?_ _ _ ⟨rfl, rfl, all⟩
  · rintro v left r s1 ⟨_, rfl, more⟩
    refine wpAny_bind (more v List.mem_cons_self _ _ _ ?_)
    simp only [Bool.false_eq_true, if_false]
    exact wpAny_pure ⟨rfl, rfl, fun u hu => more u (List.mem_cons_of_mem _ hu)⟩
  · rintro ⟨r1, r2⟩ s1 ⟨e1, rfl, _⟩
    simp only at e1
    subst e1
    exact wpAny_pure q
theorem tell_hash_tup {n : Nat} {s : Shared} {a : Addr} {o : Obj} {us : Array Value} {m : Nat} (g : s.heap.get? a = some o) (gc : o.cls = .type "tuple") (gd : o.data = .seq us m) (all : ∀ v ∈ us.toList, Tell P w (hashByValue n v) true s) :
    Tell P w (hashByValue (n + 1) (.ref a)) true s := fun A E Q q => by
  have ty : s.TypeIs (.ref a) "tuple" := ⟨o, g, gc⟩
  unfold hashByValue
  refine wpAny_bind (wpAny_specialOf ty F.slot_tuple_hash.lookup ?_)
  show wpAny _ _ (seqItems? (.ref a) >>= _) _ _ s
  refine wpAny_bind (wpAny_seqItems g gd ?_)
  refine wpAny_bind ?_
  show wpAny _ _ (forIn us _ _) _ _ s
  rw [← Array.forIn_toList]
  refine wpAny_forIn_list _ (fun left r s1 => r.1 = none ∧ s1 = s ∧ ∀ v ∈ left, Tell P w (hashByValue n v) true s) _ ?_ ?_ _ _ ⟨rfl, rfl, all⟩
  · rintro v left r s1 ⟨_, rfl, more⟩
    refine wpAny_bind (more v List.mem_cons_self _ _ _ ?_)
    simp only [Bool.not_true, Bool.false_eq_true, if_false]
    exact wpAny_pure ⟨rfl, rfl, fun u hu => more u (List.mem_cons_of_mem _ hu)⟩
  · rintro ⟨r1, r2⟩ s1 ⟨e1, rfl, _⟩
    simp only at e1
    subst e1
    exact wpAny_pure q
mutual
theorem stmt_key : ∀ (k : NestedKey) (v : Value) (n : Nat) (s : Shared), NestedIs s.heap k v → k.depth ≤ n → Tell P w (ofAClassStatement n v) false s
  | .none, _, n, s, x, _ => by cases x; cases n <;> exact .of_eq rfl
  | .num i, _, n, s, x, _ => by cases x <;> cases n <;> exact .of_eq rfl
  | .text y, _, n, s, x, _ => by cases x; cases n <;> exact .of_eq rfl
  | .tup ks, _, n, s, x, h => by
    cases x with
    | tup g gc gd all =>
      simp only [NestedKey.depth] at h
      cases n with
      | zero => omega
      | succ n => exact tell_stmt_tup g gc gd (stmt_keys ks _ n s all (by omega))
theorem stmt_keys : ∀ (ks : List NestedKey) (vs : List Value) (n : Nat) (s : Shared), NestedAll s.heap ks vs → NestedKey.depthAll ks ≤ n → ∀ v ∈ vs, Tell P w (ofAClassStatement n v) false s
  | [], _, n, s, x, _, v, hv => by cases x; cases hv
  | k :: ks, _, n, s, x, h, v, hv => by
    cases x with
    | cons x1 x2 =>
      simp only [NestedKey.depthAll] at h
      rcases List.mem_cons.mp hv with e | hv
      · rw [e]; exact stmt_key k _ n s x1 (by omega)
      · exact stmt_keys ks _ n s x2 (by omega) v hv
end
mutual
theorem hash_key : ∀ (k : NestedKey) (v : Value) (n : Nat) (s : Shared), NestedIs s.heap k v → k.depth ≤ n → num k = true → Tell P w (hashByValue n v) true s
  | .none, _, n, s, x, _, z => by simp [num] at z
  | .num i, _, n, s, x, _, _ => by cases x <;> cases n <;> exact .of_eq rfl
  | .text y, _, n, s, x, _, z => by simp [num] at z
  | .tup ks, _, n, s, x, h, z => by
    cases x with
    | tup g gc gd all =>
      simp only [NestedKey.depth] at h
      cases n with
      | zero => omega
      | succ n => exact tell_hash_tup g gc gd (hash_keys ks _ n s all (by omega) (by simpa [num] using z))
theorem hash_keys : ∀ (ks : List NestedKey) (vs : List Value) (n : Nat) (s : Shared), NestedAll s.heap ks vs → NestedKey.depthAll ks ≤ n → numAll ks = true → ∀ v ∈ vs, Tell P w (hashByValue n v) true s
  | [], _, n, s, x, _, _, v, hv => by cases x; cases hv
  | k :: ks, _, n, s, x, h, z, v, hv => by
    cases x with
    | cons x1 x2 =>
      simp only [NestedKey.depthAll] at h
      simp only [numAll, Bool.and_eq_true] at z
      rcases List.mem_cons.mp hv with e | hv
      · rw [e]; exact hash_key k _ n s x1 (by omega) z.1
      · exact hash_keys ks _ n s x2 (by omega) z.2 v hv
end

/-! ### keys -/
/-- the tuple at a is the key k, of numbers -/
structure IsN (h : Heap) (k : Nk) (a : Addr) : Prop where
  is : NestedIs h k (.ref a)
  dp : k.depth ≤ 8
  nm : num k = true
abbrev nh (w : World) (k : Nk) : Int := k.hash w
variable {k : Nk} {b : Addr}
theorem IsN.kd {h : Heap} (x : IsN h k b) : (nestedKind P w).is h k b := ⟨x.is, x.dp⟩
theorem IsN.seen (x : IsN s.heap k b) {ys : List Value} (all : ∀ y ∈ ys, ∃ k1 c, y = Value.ref c ∧ IsN s.heap k1 c) {Q : Bool → Shared → Prop} (q : Q false s) : wpAny (model P w) A (searchCouldBeSeen (.ref b) ys) Q E s := by
  unfold searchCouldBeSeen
  refine wpAny_bind ?_
  refine wpAny_forIn_list _ (fun left r s1 => r.1 = none ∧ s1 = s ∧ ∀ y ∈ left, ∃ k1 c, y = Value.ref c ∧ IsN s.heap k1 c) _ ?_ ?_ _ _ ⟨rfl, rfl, all⟩
  · rintro v left r s1 ⟨_, rfl, more⟩
    obtain ⟨k1, c, rfl, xc⟩ := more v List.mem_cons_self
    have left2 : ∀ y ∈ left, ∃ k1 c, y = Value.ref c ∧ IsN s1.heap k1 c := fun u hu => more u (List.mem_cons_of_mem _ hu)
    dsimp only
    by_cases same : (b == c || (carriedByValue (.ref b) && carriedByValue (.ref c))) = true
    · refine wp_if_pos same ?_
      exact wpAny_pure ⟨rfl, rfl, left2⟩
    · refine wp_if_neg same ?_
      refine wpAny_bind ((nestedKind P w).quiet x.kd ?_)
      simp only [Bool.not_true, Bool.false_eq_true, if_false]
      refine wpAny_bind ((nestedKind P w).quiet xc.kd ?_)
      simp only [Bool.not_true, Bool.false_eq_true, if_false]
      refine wpAny_bind (stmt_key _ _ 8 _ x.is x.dp _ _ _ ?_)
      simp only [Bool.false_eq_true, if_false]
      refine wpAny_bind (stmt_key _ _ 8 _ xc.is xc.dp _ _ _ ?_)
      simp only [Bool.false_eq_true, if_false]
      exact wpAny_pure ⟨rfl, rfl, left2⟩
  · rintro ⟨r1, r2⟩ s1 ⟨e1, rfl, _⟩
    simp only at e1
    subst e1
    exact wpAny_pure q
theorem IsN.keep {h h' : Heap} (x : IsN h k b) (up : ∀ c o, h.get? c = some o → h'.get? c = some o) : IsN h' k b := ⟨x.is.at (fun c o _ _ g _ => up c o g), x.dp, x.nm⟩
/-- while only a set at a changes -/
theorem IsN.but {h h' : Heap} {a : Addr} {o : Obj} {es : Array (Int × Value)} {ep : Nat} {t : SetTable} (x : IsN h k b) (g : h.get? a = some o) (gd : o.data = .set es ep t) (sb : Heap.SameBut a h h') : IsN h' k b := by
  refine ⟨x.is.at fun c o1 us n g1 d1 => ?_, x.dp, x.nm⟩
  rw [sb.2 c (fun e => ?_)]
  · exact g1
  · subst e
    cases g.symm.trans g1
    rw [gd] at d1
    cases d1
end
end NSet

set_option Elab.async false
set_option linter.all false
set_option maxRecDepth 100000
set_option maxHeartbeats 2000000
/-! the tables of sets, of any size: a power of two of slots -/
namespace GT
open PySem PySem.Spec PyProof.Rows L2
/-! ### the round of i -> 5 i + 1, unbounded -/
def gN : Nat → Nat
  | 0 => 0
  | n + 1 => gN n * 5 + 1
theorem gN_mod (m : Nat) : ∀ n, lcgN m n = gN n % (m + 1)
  | 0 => (Nat.zero_mod _).symm
  | n + 1 => by
    simp only [lcgN, gN, gN_mod m n]
    rw [Nat.add_mod, Nat.mul_mod, Nat.mod_mod, ← Nat.mul_mod, ← Nat.add_mod]
theorem gN_pow : ∀ n, 4 * gN n + 1 = 5 ^ n
  | 0 => rfl
  | n + 1 => by
    have := gN_pow n
    simp only [gN, Nat.pow_succ]
    omega
theorem gN_add (a : Nat) : ∀ b, gN (a + b) = gN b + 5 ^ b * gN a
  | 0 => by simp [gN]
  | b + 1 => by
    have h := gN_add a b
    have e : gN (a + (b + 1)) = gN (a + b) * 5 + 1 := rfl
    rw [e, h, Nat.pow_succ]
    simp only [gN]
    rw [Nat.add_mul, Nat.mul_right_comm]
    omega
theorem odd_mul {a b : Nat} (ha : a % 2 = 1) (hb : b % 2 = 1) : a * b % 2 = 1 := by rw [Nat.mul_mod, ha, hb]
theorem odd_pow5 : ∀ n, 5 ^ n % 2 = 1
  | 0 => rfl
  | n + 1 => by rw [Nat.pow_succ]; exact odd_mul (odd_pow5 n) rfl
/-- behind 2 ^ k turns: 2 ^ k times an odd number -/
theorem gN_two : ∀ k, ∃ u, u % 2 = 1 ∧ gN (2 ^ k) = 2 ^ k * u
  | 0 => ⟨1, rfl, rfl⟩
  | k + 1 => by
    obtain ⟨u, hu, e⟩ := gN_two k
    refine ⟨u * (2 * gN (2 ^ k) + 1), odd_mul hu (by omega), ?_⟩
    have d : 2 ^ (k + 1) = 2 ^ k + 2 ^ k := by rw [Nat.pow_succ]; omega
    have p := gN_pow (2 ^ k)
    rw [d, gN_add, ← p]
    generalize hG : gN (2 ^ k) = G at *
    have e1 : G + (4 * G + 1) * G = 2 * G * (2 * G + 1) := by
      have : 2 * G * (2 * G + 1) = 4 * (G * G) + 2 * G := by
        rw [Nat.mul_add, Nat.mul_one]
        have : 2 * G * (2 * G) = 4 * (G * G) := by
          rw [Nat.mul_mul_mul_comm]
        omega
      rw [this, Nat.add_mul, Nat.one_mul, Nat.mul_assoc]
      omega
    rw [e1, e]
    have : 2 * (2 ^ k * u) = (2 ^ k + 2 ^ k) * u := by rw [Nat.add_mul]; omega
    rw [this, Nat.mul_assoc]
theorem half_step (k b : Nat) : gN (2 ^ k + b) % 2 ^ (k + 1) = (gN b + 2 ^ k) % 2 ^ (k + 1) := by
  obtain ⟨u, hu, e⟩ := gN_two k
  rw [gN_add, e]
  have o := odd_mul (odd_pow5 b) hu
  have e1 : 5 ^ b * (2 ^ k * u) = 2 ^ k * (5 ^ b * u) := by rw [Nat.mul_left_comm]
  obtain ⟨v, hv⟩ : ∃ v, 5 ^ b * u = 2 * v + 1 := ⟨5 ^ b * u / 2, by omega⟩
  rw [e1, hv, Nat.mul_add, Nat.mul_one, ← Nat.mul_assoc, ← Nat.pow_succ, ← Nat.add_assoc]
  rw [Nat.add_right_comm, Nat.add_mul_mod_self_left]
theorem meets : ∀ k j, j < 2 ^ k → ∃ b, b < 2 ^ k ∧ gN b % 2 ^ k = j
  | 0, j, h => ⟨0, by decide, by simp at h; subst h; rfl⟩
  | k + 1, j, h => by
    have d : 2 ^ (k + 1) = 2 ^ k + 2 ^ k := by rw [Nat.pow_succ]; omega
    have pos : 0 < 2 ^ k := Nat.pow_pos (by decide)
    obtain ⟨b, hb, e⟩ := meets k (j % 2 ^ k) (Nat.mod_lt _ pos)
    have step := half_step k b
    have low : gN b % 2 ^ (k + 1) % 2 ^ k = j % 2 ^ k := by
      rw [d, ← Nat.mul_two, Nat.mod_mul_right_mod, e]
    have lt : gN b % 2 ^ (k + 1) < 2 ^ k + 2 ^ k := by rw [← d]; exact Nat.mod_lt _ (by omega)
    have s2 : (gN b + 2 ^ k) % 2 ^ (k + 1) = (gN b % 2 ^ (k + 1) + 2 ^ k) % 2 ^ (k + 1) := by rw [Nat.mod_add_mod]
    generalize hx : gN b % 2 ^ (k + 1) = x at *
    rw [s2, d] at step
    by_cases e0 : x = j
    · exact ⟨b, by omega, by rw [hx, e0]⟩
    · refine ⟨2 ^ k + b, by omega, ?_⟩
      rw [d, step]
      rw [d] at h
      generalize 2 ^ k = M at *
      have q1 := Nat.mod_add_div x M
      have q2 := Nat.mod_add_div j M
      have b1 : x / M < 2 := Nat.div_lt_of_lt_mul (by omega)
      have b2 : j / M < 2 := Nat.div_lt_of_lt_mul (by omega)
      rw [low] at q1
      have two : ∀ n : Nat, n < 2 → n = 0 ∨ n = 1 := fun n h => by omega
      rcases two _ b1 with c1 | c1 <;> rcases two _ b2 with c2 | c2 <;> rw [c1] at q1 <;> rw [c2] at q2 <;> simp only [Nat.mul_zero, Nat.mul_one, Nat.add_zero] at q1 q2
      · omega
      · rw [Nat.mod_eq_of_lt (by omega)]; omega
      · rw [show x + M = j + (M + M) by omega, Nat.add_mod_right, Nat.mod_eq_of_lt h]
      · omega
/-- the masks -/
def MaskG (m : Nat) : Prop := ∃ k, 3 ≤ k ∧ k ≤ 13 ∧ k % 2 = 1 ∧ m + 1 = 2 ^ k
theorem MaskG.two {m : Nat} (h : MaskG m) : 7 ≤ m ∧ m ≤ 8191 ∧ m % 2 = 1 := by
  obtain ⟨k, a, b, o, e⟩ := h
  rcases (by omega : k = 3 ∨ k = 5 ∨ k = 7 ∨ k = 9 ∨ k = 11 ∨ k = 13) with c | c | c | c | c | c <;> subst c <;> simp at e <;> omega
theorem MaskG.up {m : Nat} (h : MaskG m) (le : m < 8191) : m ∈ [7, 31, 127, 511, 2047] ∧ MaskG (4 * (m + 1) - 1) := by
  obtain ⟨k, a, b, o, e⟩ := h
  rcases (by omega : k = 3 ∨ k = 5 ∨ k = 7 ∨ k = 9 ∨ k = 11 ∨ k = 13) with c | c | c | c | c | c <;> subst c <;> simp at e <;> subst e <;> first | omega | exact ⟨by decide, _, by decide, by decide, by decide, rfl⟩ | exact ⟨by decide, 5, by decide, by decide, by decide, by decide⟩ | exact ⟨by decide, 7, by decide, by decide, by decide, by decide⟩ | exact ⟨by decide, 9, by decide, by decide, by decide, by decide⟩ | exact ⟨by decide, 11, by decide, by decide, by decide, by decide⟩ | exact ⟨by decide, 13, by decide, by decide, by decide, by decide⟩
theorem any_slot {m : Nat} (hm : MaskG m) {i j : Nat} (hi : i ≤ m) (hj : j ≤ m) : ∃ k, k ≤ m ∧ lcgI m i k = j := by
  obtain ⟨q, _, _, _, e⟩ := hm
  have round : ∀ n, lcgN m (m + 1 + n) = lcgN m n := by
    intro n
    obtain ⟨u, _, hu⟩ := gN_two q
    rw [gN_mod, gN_mod, e, gN_add, hu, Nat.mul_left_comm, Nat.add_mul_mod_self_left]
  obtain ⟨a, ha, ea⟩ := meets q i (by omega)
  obtain ⟨b, hb, eb⟩ := meets q j (by omega)
  rw [← e] at ha hb ea eb
  rw [← gN_mod] at ea eb
  by_cases c : a ≤ b
  · exact ⟨b - a, by omega, by rw [← ea, lcgN_add, show a + (b - a) = b by omega, eb]⟩
  · exact ⟨m + 1 + b - a, by omega, by rw [← ea, lcgN_add, show a + (m + 1 + b - a) = m + 1 + b by omega, round, eb]⟩
theorem run_hits {m : Nat} (hm : MaskG m) (x : Int) {j : Nat} (hj : j ≤ m) : ∃ n, n ≤ m + 12 ∧ runI m (SetTable.bits x) n = j :=
  let ⟨k, hk, e⟩ := any_slot hm (runI_le m (SetTable.bits x) 12) hj
  ⟨12 + k, by omega, (runI_tail (bits_lt x) k).trans e⟩
theorem way_in {m : Nat} (x : Int) (k : Nat) : way m x k ≤ m := by
  have h0 : SetTable.bits x % (m + 1) ≤ m := Nat.le_of_lt_succ (Nat.mod_lt _ (Nat.succ_pos _))
  have r := runEnd_bd h0
  have q : (nth m (runAt m (SetTable.bits x % (m + 1)) (SetTable.bits x)) k).j + (nth m (runAt m (SetTable.bits x % (m + 1)) (SetTable.bits x)) k).more ≤ m :=
    nth_in k _ (by simp only [runAt]; omega)
  exact Nat.le_trans (Nat.le_add_right _ _) q
/-- a table in which all that is there is found -/
structure TabG (t : SetTable) (hs : List Int) : Prop where
  rise : Ris t.place.toList
  clean : t.dummies = #[]
  size : t.place.size = hs.length
  mask : MaskG t.mask
  inside : ∀ x ∈ t.place.toList, x ≤ t.mask
  found : ∀ (i : Nat) (x : Int) (j : Nat), hs[i]? = some x → t.place.toList[i]? = some j → ∃ k, way t.mask x k = j ∧ ∀ c, c < k → way t.mask x c ∈ t.place.toList
theorem TabG.free {t : SetTable} {hs : List Int} (T : TabG t hs) (room : hs.length ≤ t.mask) (x : Int) : ∃ K, K < 10 * SetTable.turns t.mask ∧ way t.mask x K ∉ t.place.toList ∧ ∀ c, c < K → way t.mask x c ∈ t.place.toList := by
  obtain ⟨j, hj, hn⟩ := st_missing t.place.toList (t.mask + 1) (by rw [Array.length_toList, T.size]; omega)
  obtain ⟨n, hn2, e⟩ := run_hits T.mask x (Nat.le_of_lt_succ hj)
  obtain ⟨k, hk, e2⟩ := run_nth t.mask (SetTable.bits x) n
  have at_ : way t.mask x k = j := by
    show (nth _ _ _).j = j
    rw [e2, ← e]; rfl
  obtain ⟨K, h1, h2, h3⟩ := st_least (p := fun k => way t.mask x k ∉ t.place.toList) k (by rw [at_]; exact hn)
  refine ⟨K, by unfold SetTable.turns; omega, h2, fun c hc => Classical.byContradiction fun z => h3 c hc z⟩
theorem TabG.ahead {t : SetTable} {hs : List Int} (T : TabG t hs) {x : Int} {K i j : Nat} (hK : way t.mask x K ∉ t.place.toList) (hi : hs[i]? = some x) (hj : t.place.toList[i]? = some j) : ∃ k, k < K ∧ way t.mask x k = j := by
  obtain ⟨k, e, hb⟩ := T.found i x j hi hj
  refine ⟨k, Classical.byContradiction fun z => ?_, e⟩
  rcases Nat.eq_or_lt_of_le (Nat.le_of_not_lt z) with c | c
  · exact hK (by rw [c, e]; exact List.mem_of_getElem? hj)
  · exact hK (hb K c)
theorem TabG.grown {t : SetTable} {hs : List Int} (T : TabG t hs) {x : Int} {K : Nat} (hK : way t.mask x K ∉ t.place.toList) (hb : ∀ c, c < K → way t.mask x c ∈ t.place.toList) :
    (t.put (way t.mask x K)).2 = SetTable.below t.place (way t.mask x K) ∧ SetTable.below t.place (way t.mask x K) ≤ hs.length ∧
    TabG (t.put (way t.mask x K)).1 (hs.take (SetTable.below t.place (way t.mask x K)) ++ x :: hs.drop (SetTable.below t.place (way t.mask x K))) ∧
    (t.put (way t.mask x K)).1.mask = t.mask ∧ (t.put (way t.mask x K)).1.led = t.led ∧ (t.put (way t.mask x K)).1.plain = t.plain ∧ (t.put (way t.mask x K)).1.fill = hs.length + 1 := by
  have inn := way_in (m := t.mask) x K
  generalize ej : way t.mask x K = j at *
  have cut := (below_cut T.rise j).1
  have len : t.place.toList.length = hs.length := T.size
  have pl : SetTable.below t.place j ≤ t.place.toList.length := cut
  have ph : SetTable.below t.place j ≤ hs.length := by rw [← T.size]; exact cut
  have pp := put_place t j
  have psz : (t.put j).1.place.size = hs.length + 1 := by
    rw [← Array.length_toList, pp, len_ins _ pl, len]
  have keep : ∀ {y : Nat}, y ∈ t.place.toList → y ∈ (t.put j).1.place.toList := fun hy => by rw [pp]; exact mem_ins.2 (.inr hy)
  have nj : t.place[SetTable.below t.place j]? ≠ some j := fun e => hK (List.mem_of_getElem? (by rw [Array.getElem?_toList]; exact e))
  refine ⟨rfl, ph, ⟨ris_insert T.rise nj, put_dm T.clean j, by rw [len_ins _ ph]; exact psz, T.mask, fun y hy => ?_, fun i y q h1 h2 => ?_⟩, rfl, rfl, rfl, ?_⟩
  · rw [pp] at hy
    rcases mem_ins.1 hy with z | z
    · rw [z]; exact inn
    · exact T.inside y z
  · rw [tins_get hs ph] at h1
    rw [pp, tins_get _ pl] at h2
    have old : ∀ i', hs[i']? = some y → t.place.toList[i']? = some q → ∃ k, way (t.put j).1.mask y k = q ∧ ∀ c, c < k → way (t.put j).1.mask y c ∈ (t.put j).1.place.toList := fun i' a b => by
      obtain ⟨k, e, z⟩ := T.found i' y q a b
      exact ⟨k, e, fun c hc => keep (z c hc)⟩
    split at h1
    · rename_i c
      rw [if_pos c] at h2
      exact old i h1 h2
    · rename_i c
      rw [if_neg c] at h2
      split at h1
      · rename_i d
        rw [if_pos d] at h2
        cases h1; cases h2
        exact ⟨K, ej, fun c hc => keep (hb c hc)⟩
      · rename_i d
        rw [if_neg d] at h2
        exact old (i - 1) h1 h2
  · show (t.put j).1.place.size + (t.put j).1.dummies.size = _
    rw [psz, put_dm T.clean j]; rfl
/-! ### laid anew -/
theorem seat {m : Nat} (hm : MaskG m) (owner : Array (Option Nat)) (x : Int) {j : Nat} (hj : j ≤ m) (hf : oAt owner j = none) :
    ∃ K, SetTable.layClean.free m owner (SetTable.turns m) (SetTable.bits x % (m + 1)) (SetTable.bits x) = some (way m x K) ∧ oAt owner (way m x K) = none ∧ ∀ c, c < K → oAt owner (way m x c) ≠ none := by
  obtain ⟨n, hn, e⟩ := run_hits hm x hj
  have there : way m x (off m (SetTable.bits x % (m + 1)) (SetTable.bits x) n) = j := by
    show (nth _ _ _).j = j
    rw [nth_off, itL_run, ← e]; rfl
  obtain ⟨K, k1, k2, k3⟩ := st_least (p := fun k => oAt owner (way m x k) = none) _ (by rw [there]; exact hf)
  refine ⟨K, free_spec m owner (SetTable.turns m) n _ _ K (by unfold SetTable.turns; omega) k1 (fun c hc => ?_) ?_, k2, k3⟩
  · have q := k3 c hc
    simp only [way] at q
    revert q
    cases oAt owner (nth m (runAt m (SetTable.bits x % (m + 1)) (SetTable.bits x)) c).j <;> simp
  · simp only [way] at k2
    rw [k2]; rfl
theorem seats {m : Nat} (hm : MaskG m) : ∀ (rest done : List Int) (owner : Array (Option Nat)), Own m done owner → done.length + rest.length ≤ m →
    ∃ owner', rest.foldl (stepF m) (some (owner, done.length)) = some (owner', (done ++ rest).length) ∧ Own m (done ++ rest) owner'
  | [], done, owner, W, _ => ⟨owner, by simp, by simpa using W⟩
  | x :: rest, done, owner, W, room => by
    rw [List.length_cons] at room
    obtain ⟨ps, hps, cover⟩ := W.ps
    obtain ⟨j0, lt0, out0⟩ := st_missing ps (m + 1) (by omega)
    have free0 : oAt owner j0 = none := by
      cases z : oAt owner j0 with
      | none => rfl
      | some k => exact absurd (cover j0 (Nat.le_of_lt_succ lt0) (by rw [z]; simp)) out0
    obtain ⟨K, e1, e2, e3⟩ := seat hm owner x (Nat.le_of_lt_succ lt0) free0
    have inn := way_in (m := m) x K
    generalize ew : way m x K = j at e1 e2 inn
    have js : j < owner.size := by rw [W.sz]; omega
    have me := oAt_set_self (some done.length) js
    have other : ∀ {i : Nat}, i ≠ j → oAt (owner.setIfInBounds j (some done.length)) i = oAt owner i := fun h => oAt_set_ne _ h
    have mono : ∀ {i : Nat}, oAt owner i ≠ none → oAt (owner.setIfInBounds j (some done.length)) i ≠ none := fun {i} hi => by
      by_cases c : i = j
      · rw [c, me]; simp
      · rw [other c]; exact hi
    have W' : Own m (done ++ [x]) (owner.setIfInBounds j (some done.length)) := by
      refine ⟨by rw [Array.size_setIfInBounds]; exact W.sz, fun q k hq e => ?_, fun k hk => ?_, ⟨j :: ps, by simp [hps], fun q hq e => ?_⟩⟩
      · by_cases c : q = j
        · rw [c, me] at e
          cases e
          exact ⟨x, K, by simp, ew.trans c.symm, fun d hd => mono (e3 d hd)⟩
        · rw [other c] at e
          obtain ⟨y, K', a1, a2, a3⟩ := W.at_ q k hq e
          exact ⟨y, K', by rw [List.getElem?_append_left (List.getElem?_eq_some_iff.mp a1).1]; exact a1, a2, fun d hd => mono (a3 d hd)⟩
      · rw [List.length_append, List.length_singleton] at hk
        by_cases c : k < done.length
        · obtain ⟨q, hq, e⟩ := W.all k c
          exact ⟨q, hq, by rw [other (fun z => by rw [z, e2] at e; cases e)]; exact e⟩
        · rw [show k = done.length by omega]
          exact ⟨j, inn, me⟩
      · by_cases c : q = j
        · simp [c]
        · rw [other c] at e
          exact List.mem_cons_of_mem _ (cover q hq e)
    have l1 : (done ++ [x]).length = done.length + 1 := by simp
    obtain ⟨o2, f, W2⟩ := seats hm rest (done ++ [x]) _ W' (by rw [l1]; omega)
    rw [l1] at f
    refine ⟨o2, ?_, by simpa using W2⟩
    rw [List.foldl_cons, stepF_some e1, f]
    simp
theorem laid_anew (t : SetTable) {hs : Array Int} {wanted M : Nat} (hw : SetTable.sizeAbove wanted - 1 = M) (hM : MaskG M) (hn : hs.size ≤ M) :
    ∃ t' order, t.relaid hs wanted = some (t', order) ∧ order.toList.Perm (List.range hs.size) ∧ TabG t' (order.toList.map fun i => hs.getD i 0) ∧ t'.mask = M ∧ t'.led = t.led ∧ t'.plain = t.plain ∧ t'.dummies = #[] := by
  obtain ⟨owner, f, W⟩ := seats hM hs.toList [] _ (Own.init M) (by simpa using hn)
  simp only [List.nil_append, List.length_nil] at f W
  have e : SetTable.layClean M hs = some owner := by rw [layClean_eq, f]; rfl
  have live := fun j k => mem_live (m := M) (owner := owner) W.sz (j := j) (k := k)
  have both := ris_live (fun j => owner.getD j none) (List.range (M + 1)) (by unfold Ris; first | exact List.pairwise_lt_range | exact List.pairwise_lt_range _)
  have r1 : Ris ((liveOf M owner).map (·.1)) := both.1
  have r2 : ∀ x ∈ (liveOf M owner).map (·.1), x ∈ List.range (M + 1) := both.2
  have has : ∀ k, k < hs.size → k ∈ (liveOf M owner).map (·.2) := fun k hk => by
    obtain ⟨j, b1, b2⟩ := W.all k (by simpa using hk)
    exact List.mem_map.mpr ⟨(j, k), (live j k).2 ⟨b1, b2⟩, rfl⟩
  have len : (liveOf M owner).length = hs.size := by
    obtain ⟨ps, p1, p2⟩ := W.ps
    have nd : ((liveOf M owner).map (·.1)).Nodup := List.Pairwise.imp (fun h => Nat.ne_of_lt h) r1
    have a := nat_nodup_len ((liveOf M owner).map (·.1)) ps nd fun x hx => by
      obtain ⟨⟨y, k⟩, hq, rfl⟩ := List.mem_map.mp hx
      obtain ⟨b1, b2⟩ := (live y k).1 hq
      exact p2 y b1 (by rw [b2]; simp)
    have b := nat_nodup_len (List.range hs.size) ((liveOf M owner).map (·.2)) List.nodup_range fun k hk => has k (List.mem_range.mp hk)
    simp only [List.length_map, List.length_range, p1, Array.length_toList] at a b
    omega
  refine ⟨tabOf t M owner, ((liveOf M owner).map (·.2)).toArray, by rw [relaid_eq, hw, e]; rfl, perm_range hs.size _ (by simpa using len) has, ⟨r1, rfl, by simp [tabOf], hM, fun x hx => Nat.le_of_lt_succ (List.mem_range.mp (r2 x hx)), fun i x j h1 h2 => ?_⟩, rfl, rfl, rfl, rfl⟩
  have h1 : (((liveOf M owner).map (·.2)).map fun i => hs.getD i 0)[i]? = some x := h1
  have h2 : ((liveOf M owner).map (·.1))[i]? = some j := h2
  simp only [List.getElem?_map, Option.map_eq_some_iff] at h1 h2
  obtain ⟨⟨y, k⟩, hq, rfl⟩ := h2
  obtain ⟨k', ⟨q', hq', e1⟩, e2⟩ := h1
  rw [hq] at hq'
  cases hq'
  dsimp only at e1
  subst e1
  obtain ⟨b1, b2⟩ := (live y k).1 (List.mem_of_getElem? hq)
  obtain ⟨x0, K, a1, a2, a3⟩ := W.at_ y k b1 b2
  have same : x0 = x := by
    rw [← e2, Array.getD_eq_getD_getElem?, ← Array.getElem?_toList, a1]; rfl
  subst same
  refine ⟨K, a2, fun c hc => ?_⟩
  show way M x0 c ∈ (liveOf M owner).map (·.1)
  cases z : oAt owner (way M x0 c) with
  | none => exact absurd z (a3 c hc)
  | some k2 => exact List.mem_map.mpr ⟨(way M x0 c, k2), (live _ k2).2 ⟨way_in x0 c, z⟩, rfl⟩
/-- what a table grows to -/
theorem grows : ([7, 31, 127, 511, 2047].all fun m => (List.range 1300).all fun n => !(decide ((n + 1) * 5 ≥ m * 3) && decide (n * 5 < m * 3)) || SetTable.sizeAbove (SetTable.grown (n + 1)) == 4 * (m + 1)) = true := by decide +kernel
theorem grown_to {m n : Nat} (hm : MaskG m) (le : m < 8191) (a : (n + 1) * 5 ≥ m * 3) (b : n * 5 < m * 3) : SetTable.sizeAbove (SetTable.grown (n + 1)) = 4 * (m + 1) := by
  have h := List.all_eq_true.mp grows m (hm.up le).1
  have h2 : m ≤ 2047 := by
    have := (hm.up le).1
    simp only [List.mem_cons, List.not_mem_nil, or_false] at this
    omega
  have h := List.all_eq_true.mp h n (List.mem_range.mpr (by omega))
  simpa [a, b] using h
end GT

set_option Elab.async false
set_option linter.all false
set_option maxRecDepth 100000
set_option maxHeartbeats 4000000
/-! sets of nested tuples, 2: looking for one, putting one in -/
namespace NSet
open PySem PySem.Spec PyProof.Rows L2 GT
abbrev KL : Type := List (Addr × Nk)
def entries (w : World) (L : KL) : List (Int × Value) := L.map fun p => (nh w p.2, Value.ref p.1)
abbrev hashesOf (w : World) (L : KL) : List Int := L.map fun p => nh w p.2
structure NS (w : World) (h : Heap) (a : Addr) (L : KL) (es : Array (Int × Value)) (ep : Nat) (t : SetTable) : Prop where
  obj : ∃ o, h.get? a = some o ∧ o.ExactSet ∧ o.data = .set es ep t
  ent : es.toList = entries w L
  tab : TabG t (hashesOf w L)
  nodup : (L.map (·.2)).Nodup
  keys : ∀ p ∈ L, IsN h p.2 p.1
  plain : t.plain = true
  order : w.params.followText "set-order" = true ∨ t.led = true
  space : L.length * 5 < t.mask * 3
  small : L.length < 4096
theorem entries_len (w : World) (L : KL) : (entries w L).length = L.length := by simp [entries]
theorem size_of {w : World} {L : KL} {es : Array (Int × Value)} (e : es.toList = entries w L) : es.size = L.length := by
  have := congrArg List.length e
  rwa [Array.length_toList, entries_len] at this
theorem entry_of {w : World} {L : KL} {es : Array (Int × Value)} (e : es.toList = entries w L) {i : Nat} {p : Addr × Nk} (h : L[i]? = some p) : es[i]? = some (nh w p.2, Value.ref p.1) := by
  rw [← Array.getElem?_toList, e, entries, List.getElem?_map, h]
  rfl
theorem fits_of {w : World} {L : KL} {es : Array (Int × Value)} {t : SetTable} (e : es.toList = entries w L) (dm : t.dummies = #[]) (sz : t.place.size = L.length) (le : L.length ≤ t.mask) : t.fits es.size = true := by
  have n := size_of e
  unfold SetTable.fits SetTable.fill
  rw [dm, Bool.and_eq_true, beq_iff_eq, decide_eq_true_eq]
  show t.place.size = es.size ∧ t.place.size + 0 ≤ t.mask
  omega
section
variable {P : Program} {w : World} {A : Around} {E : Value → Shared → Prop} {s : Shared}
variable {a : Addr} {L : KL} {es : Array (Int × Value)} {ep : Nat} {t : SetTable}
theorem NS.psz (R : NS w s.heap a L es ep t) : t.place.size = L.length := by
  have := R.tab.size
  rwa [List.length_map] at this
theorem NS.fits (R : NS w s.heap a L es ep t) : t.fits es.size = true := fits_of R.ent R.tab.clean R.psz (by have := R.space; omega)
theorem NS.stays (R : NS w s.heap a L es ep t) : ¬ t.gaveWay = true := by
  unfold SetTable.gaveWay
  rw [R.tab.mask.two.2.2]
  decide
/-- the c-th state of a key's search -/
abbrev stAt (w : World) (t : SetTable) (k : Nk) (c : Nat) : SetTable.Probe := nth t.mask (runAt t.mask (SetTable.bits (nh w k) % (t.mask + 1)) (SetTable.bits (nh w k))) c
abbrev wayN (w : World) (t : SetTable) (k : Nk) (c : Nat) : Nat := way t.mask (nh w k) c
theorem st_clean (m : Nat) : ∀ (n : Nat) (p : SetTable.Probe), p.dummy = none → (nth m p n).dummy = none
  | 0, _, h => h
  | n + 1, p, h => by
    refine st_clean m n (adv m p) ?_
    unfold adv
    split <;> exact h
theorem find_from (R : NS w s.heap a L es ep t) {x : Addr} {k : Nk} (hx : IsN s.heap k x) (hu : A.units + 8 < cLine) {K : Nat} (lim : K < 10 * SetTable.turns t.mask)
    (free : wayN w t k K ∉ t.place.toList) (taken : ∀ c, c < K → wayN w t k c ∈ t.place.toList) {Q : SetFound → Shared → Prop}
    (yes : k ∈ L.map (·.2) → Q (.there none) s) (no : k ∉ L.map (·.2) → Q (.free (wayN w t k K) false) s) :
    ∀ (f c : Nat) (stand : Option SetTable.Probe), stand.getD (t.probeStart (nh w k)) = stAt w t k c → c ≤ K → K - c < f →
      (∀ (i : Nat) p, L[i]? = some p → p.2 = k → ∃ d, c ≤ d ∧ d < K ∧ t.place.toList[i]? = some (wayN w t k d)) →
      wpAny (model P w) A (setSearchFrom a (.ref x) (nh w k) true f stand) Q E s := by
  intro f
  induction f with
  | zero => intro c stand _ _ z; omega
  | succ f ih =>
    intro c stand at_ cK fK ahead
    obtain ⟨o, og, oex, od⟩ := R.obj
    rw [setSearchFrom_succ]
    refine wpAny_bind (wpAny_setState_of og od R.fits ?_)
    dsimp only
    refine wp_if_neg R.stays ?_
    try refine wpAny_bind (wpAny_pure ?_)
    have on : ∀ q, nth t.mask (stAt w t k c) q = stAt w t k (c + q) := fun q => (nth_add t.mask c _ q).symm
    have onj : ∀ q, (nth t.mask (stAt w t k c) q).j = wayN w t k (c + q) := fun q => congrArg SetTable.Probe.j (on q)
    have back : c + (K - c) = K := by omega
    have word := go_spec t R.tab.rise R.tab.clean (fun i => (es[i]?.map (·.1)).getD 0) (nh w k) (10 * SetTable.turns t.mask) (K - c) (stAt w t k c) (st_clean _ c _ rfl) (by omega)
      (fun q hq => by rw [onj]; exact taken (c + q) (by omega)) (by rw [onj, back]; exact free)
    have hashes : ∀ (i : Nat) p, L[i]? = some p → (fun i => (es[i]?.map (·.1)).getD 0) i = nh w p.2 := fun i p hp => by
      show (es[i]?.map (·.1)).getD 0 = _
      rw [entry_of R.ent hp]
      rfl
    rcases word with ⟨q, i, hq, hi, _, before, pr⟩ | ⟨before, pr⟩
    · -- somebody of that hash stands there
      have pr2 : t.probe (fun i => (es[i]?.map (·.1)).getD 0) (nh w k) (stand.getD (t.probeStart (nh w k))) = some (.candidate (wayN w t k (c + q)) i (stAt w t k (c + (q + 1)))) := by
        rw [at_, ← onj, ← on]
        exact pr
      rw [pr2]
      dsimp only
      rw [onj] at hi
      have il : i < L.length := by
        have := (List.getElem?_eq_some_iff.mp hi).1
        rw [Array.length_toList, R.psz] at this
        exact this
      obtain ⟨p, hp⟩ : ∃ p, L[i]? = some p := ⟨L[i], List.getElem?_eq_getElem il⟩
      have pL : p ∈ L := List.mem_of_getElem? hp
      have live : t.slot (wayN w t k (c + q)) = .live i := slot_live R.tab.rise hi
      have rest : wpAny (model P w) A (searchRest a (.ref x) (nh w k) true f es t (wayN w t k (c + q)) i (stAt w t k (c + (q + 1)))) Q E s := by
        unfold searchRest
        rw [entry_of R.ent hp]
        dsimp only
        refine wpAny_bind (wpAny_holding ((nestedKind P w).eqBool hu (R.keys p pL).kd hx.kd ?_))
        refine wpAny_bind (wpAny_setState_of og od R.fits ?_)
        dsimp only
        by_cases pk : p.2 = k
        · refine wp_if_pos (by simp [pk]) ?_
          exact wpAny_pure (yes (List.mem_map.mpr ⟨p, pL, pk⟩))
        · refine wp_if_neg (by simp [pk]) ?_
          try refine wpAny_bind (wpAny_pure ?_)
          rw [sameMem]
          dsimp only
          simp only [if_true, live, entry_of R.ent hp]
          refine wpAny_bind (wpAny_isSame_ref_self (wpAny_bind (wpAny_pure ?_)))
          simp only [if_true]
          refine wp_if_neg (by simp [pk]) ?_
          refine ih (c + (q + 1)) _ rfl (by omega) (by omega) fun i0 p0 h0 k0 => ?_
          obtain ⟨d, d1, d2, d3⟩ := ahead i0 p0 h0 k0
          refine ⟨d, ?_, d2, d3⟩
          rcases Nat.lt_trichotomy d (c + q) with z | z | z
          · exact absurd ((hashes i0 p0 h0).trans (congrArg (nh w) k0)) (before (d - c) i0 (by omega) (by rw [onj, show c + (d - c) = d by omega]; exact d3))
          · exfalso
            rw [z] at d3
            have l2 := slot_live R.tab.rise d3
            rw [live] at l2
            injection l2 with l2
            subst l2
            rw [hp] at h0
            cases h0
            exact pk k0
          · omega
      by_cases ld : t.led = true
      · refine wp_if_neg (by simp [ld]) ?_
        try refine wpAny_bind (wpAny_pure ?_)
        exact rest
      · refine wp_if_pos (by simp [ld]) ?_
        refine wpAny_bind (hx.seen (fun y hy => ?_) ?_)
        · obtain ⟨e, he, rfl⟩ := List.mem_map.mp hy
          have he2 : e ∈ es := (by simpa using he : e ∈ es ∧ e.1 = nh w k).1
          have he3 : e ∈ entries w L := by rw [← R.ent]; simpa using he2
          obtain ⟨p2, m2, rfl⟩ := List.mem_map.mp he3
          exact ⟨p2.2, p2.1, rfl, R.keys p2 m2⟩
        · refine wp_if_neg (by decide) ?_
          try refine wpAny_bind (wpAny_pure ?_)
          exact rest
    · -- nobody
      have pr2 : t.probe (fun i => (es[i]?.map (·.1)).getD 0) (nh w k) (stand.getD (t.probeStart (nh w k))) = some (.empty (wayN w t k K) none) := by
        have e2 : wayN w t k K = (nth t.mask (stAt w t k c) (K - c)).j := by rw [onj, back]
        rw [at_, e2]
        exact pr
      rw [pr2]
      dsimp only
      refine wpAny_pure (no fun hm => ?_)
      obtain ⟨p0, m0, k0⟩ := List.mem_map.mp hm
      obtain ⟨i0, l0, e0⟩ := List.getElem_of_mem m0
      have h0 : L[i0]? = some p0 := by rw [List.getElem?_eq_getElem l0, e0]
      obtain ⟨d, d1, d2, d3⟩ := ahead i0 p0 h0 k0
      exact before (d - c) i0 (by omega) (by rw [onj, show c + (d - c) = d by omega]; exact d3) ((hashes i0 p0 h0).trans (congrArg (nh w) k0))
theorem find_at (R : NS w s.heap a L es ep t) {x : Addr} {k : Nk} (hx : IsN s.heap k x) (hu : A.units + 8 < cLine) {Q : SetFound → Shared → Prop}
    (yes : k ∈ L.map (·.2) → Q (.there none) s)
    (no : ∀ K, k ∉ L.map (·.2) → wayN w t k K ∉ t.place.toList → (∀ c, c < K → wayN w t k c ∈ t.place.toList) → Q (.free (wayN w t k K) false) s) :
    wpAny (model P w) A (setSearch a (.ref x) (nh w k) true) Q E s := by
  have sp := R.space
  obtain ⟨K, lim, free, taken⟩ := R.tab.free (by rw [List.length_map]; omega) (nh w k)
  have few : K < 100000 := by
    have m2 := R.tab.mask.two
    unfold SetTable.turns at lim
    omega
  unfold setSearch
  refine find_from R hx hu lim free taken yes (fun hn => no K hn free taken) 100000 0 none rfl (Nat.zero_le _) (by omega) fun i p hp pk => ?_
  have hh : (hashesOf w L)[i]? = some (nh w k) := by
    rw [List.getElem?_map, hp, ← pk]
    rfl
  have il : i < t.place.toList.length := by
    rw [Array.length_toList, R.psz]
    exact (List.getElem?_eq_some_iff.mp hp).1
  have hj := List.getElem?_eq_getElem il
  obtain ⟨d, hd, e⟩ := R.tab.ahead free hh hj
  exact ⟨d, Nat.zero_le _, hd, by rw [hj]; exact congrArg some e.symm⟩

/-! ### laid anew -/
theorem reorder {es : Array (Int × Value)} {order : Array Nat} (e : es.toList = entries w L) (pm : order.toList.Perm (List.range L.length)) :
    ∃ L2 : KL, (order.filterMap (es[·]?)).toList = entries w L2 ∧ L2.Perm L ∧ hashesOf w L2 = order.toList.map fun i => (es.map (·.1)).getD i 0 := by
  have sz := size_of e
  have part : ∀ l : List Nat, (∀ i ∈ l, i < L.length) → l.filterMap (fun i => es[i]?) = entries w (l.filterMap fun i => L[i]?) ∧ hashesOf w (l.filterMap fun i => L[i]?) = l.map fun i => (es.map (·.1)).getD i 0 := by
    intro l
    induction l with
    | nil => intro _; exact ⟨rfl, rfl⟩
    | cons i l ih =>
      intro hl
      have hi := hl i List.mem_cons_self
      have eL : L[i]? = some L[i] := List.getElem?_eq_getElem hi
      have eE := entry_of e eL
      obtain ⟨i1, i2⟩ := ih fun j hj => hl j (List.mem_cons_of_mem _ hj)
      rw [List.filterMap_cons_some eE, List.filterMap_cons_some eL]
      refine ⟨by rw [i1]; rfl, ?_⟩
      show nh w L[i].2 :: hashesOf w _ = _
      rw [i2, List.map_cons]
      congr 1
      have : (es.map (·.1))[i]? = some (nh w L[i].2) := by
        rw [Array.getElem?_map, eE]
        rfl
      simp [Array.getD_eq_getD_getElem?, this]
  obtain ⟨p1, p2⟩ := part order.toList fun i hi => List.mem_range.mp (pm.mem_iff.mp hi)
  refine ⟨_, by rw [Array.toList_filterMap]; exact p1, ?_, p2⟩
  have same : (List.range L.length).filterMap (fun i => L[i]?) = L := by
    have up : ∀ n, n ≤ L.length → (List.range n).filterMap (fun i => L[i]?) = L.take n := by
      intro n
      induction n with
      | zero => intro _; rfl
      | succ n ih =>
        intro hn
        have hlt : n < L.length := hn
        rw [List.range_succ, List.filterMap_append, ih (Nat.le_of_lt hlt), List.take_succ, List.getElem?_eq_getElem hlt]
        simp [List.filterMap_cons, List.getElem?_eq_getElem hlt]
    rw [up L.length (Nat.le_refl _), List.take_length]
  have := pm.filterMap fun i => L[i]?
  rwa [same] at this
theorem anew {o : Obj} (og : s.heap.get? a = some o) (oex : o.ExactSet) (od : o.data = .set es ep t) (ent : es.toList = entries w L) (psz : t.place.size = L.length) (dm : t.dummies = #[]) (le : L.length ≤ t.mask)
    (nodup : (L.map (·.2)).Nodup) (keys : ∀ p ∈ L, IsN s.heap p.2 p.1) (pl : t.plain = true) (ld : w.params.followText "set-order" = true ∨ t.led = true) (few : L.length < 4096) {wanted M : Nat}
    (hw : SetTable.sizeAbove wanted - 1 = M) (hM : MaskG M) (hw2 : SetTable.sizeAbove wanted ≤ 8192) (hn : L.length * 5 < M * 3) {Q : Unit → Shared → Prop}
    (q : ∀ h' L' es' ep' t', Heap.SameBut a s.heap h' → NS w h' a L' es' ep' t' → L'.Perm L → Q () { s with heap := h' }) : wpAny (model P w) A (setRelay a wanted) Q E s := by
  have sz := size_of ent
  obtain ⟨t', order, e, hp, T, em, el, ep', ed⟩ := laid_anew t (hs := es.map (·.1)) (wanted := wanted) hw hM (by rw [Array.size_map, sz]; omega)
  rw [Array.size_map, sz] at hp
  obtain ⟨L2, r1, r2, r3⟩ := reorder ent hp
  rw [← r3] at T
  have sz2 := (size_of r1).trans r2.length_eq
  rw [setRelay_eq]
  refine wpAny_bind (wpAny_setState_of og od (fits_of ent dm psz le) ?_)
  dsimp only
  refine wp_if_neg (by rw [sizeLine_eq]; omega) ?_
  try refine wpAny_bind (wpAny_pure ?_)
  rw [e]
  dsimp only
  refine wpAny_bind ?_
  refine wp_if_neg (by rw [sz2, sz]; simp) ?_
  try refine wpAny_bind (wpAny_pure ?_)
  refine wpAny_pure ?_
  dsimp only
  refine wpAny_storeSet_of og od ?_ (by rw [sz2, sizeLine_eq]; omega)
  have sb : Heap.SameBut a s.heap (s.heap.update a (Obj.putSet (order.filterMap (es[·]?)) t')) := Heap.SameBut.update ..
  refine q _ L2 _ (ep + 1) t' sb ⟨⟨_, store_at og od, ⟨oex.1, oex.2.1, oex.2.2⟩, rfl⟩, r1, T, (r2.map (·.2)).nodup_iff.mpr nodup, fun p hp => (keys p (r2.mem_iff.mp hp)).but og od sb, by rw [ep']; exact pl, by rw [el]; exact ld, ?_, by rw [r2.length_eq]; exact few⟩ r2
  rw [r2.length_eq, em]
  exact hn
/-- one is put in -/
theorem put_in (R : NS w s.heap a L es ep t) {x : Addr} {k : Nk} (hx : IsN s.heap k x) (hu : A.units + 8 < cLine) (few : L.length + 1 < 4096) {Q : Bool → Shared → Prop}
    (q : ∀ b h' L' es' ep' t', Heap.SameBut a s.heap h' → NS w h' a L' es' ep' t' → (k ∈ L.map (·.2) → L' = L) → (k ∉ L.map (·.2) → L'.Perm ((x, k) :: L)) → Q b { s with heap := h' }) :
    wpAny (model P w) A (setAddHashed a (.ref x) (nh w k)) Q E s := by
  obtain ⟨o, og, oex, od⟩ := R.obj
  have sz := size_of R.ent
  have sp := R.space
  unfold setAddHashed
  refine wpAny_holding ?_
  rw [show (100000 : Nat) = 99999 + 1 from rfl, setAddHashedIn_succ]
  refine wpAny_bind (wpAny_setState_of og od R.fits ?_)
  dsimp only
  refine wp_if_neg (by simp [byScan, Value.scannable]) ?_
  try refine wpAny_bind (wpAny_pure ?_)
  refine wpAny_bind (find_at R hx hu (fun hm => ?_) fun K hm free taken => ?_)
  · dsimp only
    exact wpAny_pure (q false s.heap L es ep t (Heap.SameBut.refl a s.heap) R (fun _ => rfl) fun z => absurd hm z)
  dsimp only
  refine wpAny_bind (wpAny_setState_of og od R.fits ?_)
  dsimp only
  obtain ⟨q1, q2, q3, q4, q5, q6, q9⟩ := R.tab.grown free taken
  have pl1 : (t.put (wayN w t k K)).1.plain = true := by rw [q6]; exact R.plain
  generalize epq : t.put (wayN w t k K) = pt at q1 q3 q4 q5 q6 q9 pl1 ⊢
  obtain ⟨t1, p⟩ := pt
  dsimp only at q1 q3 q4 q5 q6 q9 pl1 ⊢
  subst q1
  have hbv := hash_key (P := P) (w := w) k (.ref x) 8 s hx.is hx.dp hx.nm
  first
    | (refine wpAny_bind ?_; refine wp_if_pos pl1 ?_; refine hbv _ _ _ ?_)
    | refine wp_if_pos pl1 (wpAny_bind (hbv _ _ _ ?_))
  simp only [if_true]
  generalize epp : SetTable.below t.place (wayN w t k K) = p at q2 q3 ⊢
  have ent1 : (SetTable.insertAt es p (nh w k, Value.ref x)).toList = entries w (L.take p ++ (x, k) :: L.drop p) := by
    rw [SetTable.toList_insertAt, R.ent]
    simp [entries, List.map_take, List.map_drop]
  have pm := put_perm L p (x, k)
  have len1 : (L.take p ++ (x, k) :: L.drop p).length = L.length + 1 := pm.length_eq
  have hs1 : hashesOf w (L.take p ++ (x, k) :: L.drop p) = (hashesOf w L).take p ++ nh w k :: (hashesOf w L).drop p := by simp [hashesOf, List.map_take, List.map_drop]
  rw [← hs1] at q3
  have nd1 : ((L.take p ++ (x, k) :: L.drop p).map (·.2)).Nodup := by
    refine (pm.map (·.2)).nodup_iff.mpr ?_
    rw [List.map_cons]
    exact List.nodup_cons.mpr ⟨hm, R.nodup⟩
  have sz1 := (size_of ent1).trans len1
  generalize SetTable.insertAt es p (nh w k, Value.ref x) = es1 at ent1 sz1 ⊢
  generalize L.take p ++ (x, k) :: L.drop p = L1 at pm len1 q3 nd1 ent1
  refine wpAny_bind (wpAny_storeSet_of og od ?_ (by rw [sz1, sizeLine_eq]; omega))
  have sb : Heap.SameBut a s.heap (s.heap.update a (Obj.putSet es1 t1)) := Heap.SameBut.update ..
  have og1 := store_at (es' := es1) (t' := t1) og od
  generalize s.heap.update a (Obj.putSet es1 t1) = h1 at sb og1 ⊢
  have keys1 : ∀ p ∈ L1, IsN h1 p.2 p.1 := fun p hp => by
    rcases List.mem_cons.mp (pm.mem_iff.mp hp) with e | hp
    · rw [e]; exact hx.but og od sb
    · exact (R.keys p hp).but og od sb
  have ld1 : w.params.followText "set-order" = true ∨ t1.led = true := by rw [q5]; exact R.order
  have psz1 : t1.place.size = L1.length := by
    have := q3.size
    rwa [List.length_map] at this
  have fill1 : t1.fill = L1.length := by rw [q9, List.length_map, len1]
  by_cases full : t1.tooFull = true
  · first
      | (refine wpAny_bind ?_; refine wp_if_pos (by simp [full]) ?_)
      | (refine wp_if_pos (by simp [full]) ?_; refine wpAny_bind ?_)
    have many : (L.length + 1) * 5 ≥ t1.mask * 3 := by
      have := full
      unfold SetTable.tooFull at this
      rw [decide_eq_true_eq, fill1, len1] at this
      exact this
    rw [sz]
    have two := R.tab.mask.two
    rw [q4] at many
    have low : t.mask < 8191 := by omega
    have size1 := grown_to R.tab.mask low many sp
    have up1 := (R.tab.mask.up low).2
    have up2 := up1.two.2.1
    refine anew (s := { s with heap := h1 }) (M := 4 * (t.mask + 1) - 1) og1 ⟨oex.1, oex.2.1, oex.2.2⟩ rfl ent1 psz1 q3.clean (by rw [len1, q4]; omega) nd1 keys1 pl1 ld1 (by rw [len1]; exact few) (by rw [size1]) up1 (by rw [size1]; omega) (by rw [len1]; omega) ?_
    intro h2 L2 es2 ep2 t2 sb2 R2 pm2
    exact wpAny_pure (q true h2 L2 es2 ep2 t2 (sb.trans sb2) R2 (fun z => absurd z hm) fun _ => pm2.trans pm)
  · first
      | refine wp_if_neg (by simp [full]) ?_
      | (refine wpAny_bind ?_; refine wp_if_neg (by simp [full]) ?_; refine wpAny_pure ?_)
    refine wpAny_pure (q true h1 L1 es1 (ep + 1) t1 sb ⟨⟨_, og1, ⟨oex.1, oex.2.1, oex.2.2⟩, rfl⟩, ent1, q3, nd1, keys1, pl1, ld1, ?_, by rw [len1]; exact few⟩ (fun z => absurd z hm) fun _ => pm)
    have := full
    unfold SetTable.tooFull at this
    rw [decide_eq_true_eq, fill1] at this
    omega
end
end NSet

set_option Elab.async false
set_option linter.all false
set_option maxRecDepth 100000
set_option maxHeartbeats 4000000
/-! sets of nested tuples, 3: set(list), sorted(set) -/
namespace NSet
open PySem PySem.Spec PyProof.Rows L2 GT

/-- what the set holds of the first i items -/
structure Has (ks : KL) (i : Nat) (L : KL) : Prop where
  of : ∀ p ∈ L, p ∈ ks.take i
  all : ∀ p ∈ ks.take i, p.2 ∈ L.map (·.2)
  len : L.length ≤ i
theorem take_snoc {α : Type} {l : List α} {i : Nat} {x : α} (h : l[i]? = some x) : l.take (i + 1) = l.take i ++ [x] := by
  rw [List.take_succ, h]
  rfl
theorem Has.next {ks L L' : KL} {i : Nat} {x : Addr × Nk} (g : Has ks i L) (h : ks[i]? = some x) (c1 : x.2 ∈ L.map (·.2) → L' = L) (c2 : x.2 ∉ L.map (·.2) → L'.Perm (x :: L)) : Has ks (i + 1) L' := by
  have ti := take_snoc h
  by_cases m : x.2 ∈ L.map (·.2)
  · rw [c1 m]
    refine ⟨fun p hp => by rw [ti]; exact List.mem_append_left _ (g.of p hp), fun p hp => ?_, Nat.le_succ_of_le g.len⟩
    rw [ti] at hp
    rcases List.mem_append.mp hp with z | z
    · exact g.all p z
    · rw [List.mem_singleton.mp z]; exact m
  · have pm := c2 m
    refine ⟨fun p hp => ?_, fun p hp => ?_, by rw [pm.length_eq]; exact Nat.succ_le_succ g.len⟩
    · rw [ti]
      rcases List.mem_cons.mp (pm.mem_iff.mp hp) with e | z
      · rw [e]; exact List.mem_append_right _ (List.mem_singleton.mpr rfl)
      · exact List.mem_append_left _ (g.of p z)
    · rw [ti] at hp
      rw [(pm.map (·.2)).mem_iff, List.map_cons]
      rcases List.mem_append.mp hp with z | z
      · exact List.mem_cons_of_mem _ (g.all p z)
      · rw [List.mem_singleton.mp z]; exact List.mem_cons_self
section
variable {P : Program} {w : World} {A : Around} {E : Value → Shared → Prop} {s : Shared}
theorem NS.keep {h h' : Heap} {a : Addr} {L : KL} {es : Array (Int × Value)} {ep : Nat} {t : SetTable} (R : NS w h a L es ep t) (up : ∀ o, h.get? a = some o → h'.get? a = some o) (ks : ∀ p ∈ L, IsN h' p.2 p.1) : NS w h' a L es ep t := by
  obtain ⟨o, g, r⟩ := R.obj
  exact ⟨⟨o, up o g, r⟩, R.ent, R.tab, R.nodup, ks, R.plain, R.order, R.space, R.small⟩
abbrev newSet (w : World) : Obj := { cls := .type "set", dict := none, data := .set #[] 0 (.fresh 0 0 (!w.params.followText "set-order")) }
theorem ns_new {h : Heap} {a : Addr} (g : h.get? a = some (newSet w)) : NS w h a [] #[] 0 (.fresh 0 0 (!w.params.followText "set-order")) := by
  refine ⟨⟨_, g, ⟨rfl, rfl, rfl⟩, rfl⟩, rfl, ⟨List.Pairwise.nil, rfl, rfl, ⟨3, by decide, by decide, by decide, rfl⟩, fun x hx => (by cases hx), fun i h j hi => (by simp at hi)⟩, List.nodup_nil, fun p hp => (by cases hp), rfl, ?_, ?_, ?_⟩
  · show _ ∨ (!w.params.followText "set-order") = true
    cases w.params.followText "set-order"
    · exact .inr rfl
    · exact .inl rfl
  · show 0 * 5 < 7 * 3
    decide
  · show 0 < 4096
    decide
/-- the loop of update -/
theorem loop_ok {I : Addr} {fp wr : List Addr} {G : Array GenState → Array GenState → Prop} {n : Nat} {Pv : Nat → Value → Prop} {St : Nat → Shared → Prop} {R : Result → Shared → Prop}
    (W : WalksS P w A.in1 I fp wr G n Pv St) (S : Addr) (sf : S ∉ fp) (ks : KL) (hn : n = ks.length) (few : ks.length < 4096) (val : ∀ i v, Pv i v → ∃ p, ks[i]? = some p ∧ v = .ref p.1)
    (h0 : Heap) (hk : ∀ p ∈ ks, IsN h0 p.2 p.1) (s0 : h0.get? S = none) (w0 : ∀ b ∈ wr, h0.get? b = none) (hu : A.in1.units + 8 < cLine) :
    ∀ (k i : Nat) (s : Shared), n - i = k → i ≤ n → St i s → (∀ b o, h0.get? b = some o → s.heap.get? b = some o) → (∃ L es ep t, NS w s.heap S L es ep t ∧ Has ks i L) →
      (∀ s' L es ep t, Moved (S :: wr) G s s' → NS w s'.heap S L es ep t → Has ks n L → (∀ b o, h0.get? b = some o → s'.heap.get? b = some o) → R (.ok (.ret .none)) s') →
      codeAny (model P w) A (.builtin "set.update.loop" ⟨[.ref S, .ref I], []⟩) R s := by
  have sw : S ∉ wr := fun h => sf (W.sub _ h)
  have more : ∀ b ∈ wr, b ∈ S :: wr := fun b hb => List.mem_cons_of_mem _ hb
  have old : ∀ {s s' : Shared}, Moved wr G s s' → (∀ b o, h0.get? b = some o → s.heap.get? b = some o) → ∀ b o, h0.get? b = some o → s'.heap.get? b = some o := fun mv up b o e =>
    mv.heap b o (fun hb => by rw [w0 b hb] at e; cases e) (up b o e)
  intro k
  induction k with
  | zero =>
    intro i s ek hi st up ⟨L, es, ep, t, N, g⟩ fin
    have : i = n := by omega
    subst this
    refine codeAny_builtin F.entry_set_update_loop ?_
    rw [Around.under_plainId F.plain_set_update_loop _]
    show wpAny _ A.in1 (pyNext (.ref I) >>= _) _ _ s
    refine wpAny_bind (W.done s _ _ st fun s' mv => ?_)
    show wpAny _ A.in1 (ret Value.none) _ _ s'
    have up' := old mv up
    refine wpAny_pure (fin s' L es ep t (mv.mono more) (N.keep (fun o e => mv.heap S o sw e) fun p hp => (hk p (List.mem_of_mem_take (g.of p hp))).keep up') g up')
  | succ k ih =>
    intro i s ek hi st up ⟨L, es, ep, t, N, g⟩ fin
    have lt : i < n := by omega
    refine codeAny_builtin F.entry_set_update_loop ?_
    rw [Around.under_plainId F.plain_set_update_loop _]
    show wpAny _ A.in1 (pyNext (.ref I) >>= _) _ _ s
    refine wpAny_bind (W.item i s _ _ lt st fun v s' pv st' mv => ?_)
    obtain ⟨p, hp, rfl⟩ := val i v pv
    have up' := old mv up
    have N' : NS w s'.heap S L es ep t := N.keep (fun o e => mv.heap S o sw e) fun q hq => (hk q (List.mem_of_mem_take (g.of q hq))).keep up'
    have xk : IsN s'.heap p.2 p.1 := (hk p (List.mem_of_getElem? hp)).keep up'
    show wpAny _ A.in1 (holding [Value.ref p.1] (setAdd S (.ref p.1)) >>= _) _ _ s'
    refine wpAny_bind (wpAny_holding ?_)
    unfold setAdd
    refine wpAny_holding ?_
    refine wpAny_bind ((nestedKind P w).pyHash hu xk.kd ?_)
    refine put_in (s := { s' with toks := s'.toks + (nestedKind P w).draws p.2 }) N' xk hu (by have := g.len; omega) fun b h' L' es' ep' t' sb N2 c1 c2 => ?_
    have up2 : ∀ b o, h0.get? b = some o → h'.get? b = some o := fun b o e => (sb.2 b (fun z => by rw [z, s0] at e; cases e)).trans (up' b o e)
    refine wpAny_pure ⟨plainId_quiet F.plain_set_update_loop _, ih (i + 1) _ (by omega) lt (W.frame _ s' _ _ st' (Nat.le_add_right _ _) fun b hb o e => ?_) up2 ⟨L', es', ep', t', N2, g.next hp c1 c2⟩ fun s2 L2 es2 ep2 t2 mv2 N3 g3 up3 => ?_⟩
    · rw [sb.2 b (fun h : b = S => sf (by rw [← h]; exact hb))]; exact e
    · refine fin s2 L2 es2 ep2 t2 (Moved.trans W.gtrans ((mv.mono more).then_heap (Nat.le_add_right _ _) fun b o hb e => ?_) mv2) N3 g3 up3
      rw [sb.2 b (fun h : b = S => hb (by rw [h]; exact List.mem_cons_self))]; exact e

set_option maxHeartbeats 8000000 in
/-- set(xs) -/
theorem set_ok {l : Addr} {items : Array Value} (ks : KL) {Q : Value → Shared → Prop} (hh : A.handled = none) (hl : s.heap.IsList l items) (hit : items.toList = ks.map fun p => Value.ref p.1)
    (hk : ∀ p ∈ ks, IsN s.heap p.2 p.1) (few : ks.length < 4096) (hu : A.units + 20 < cLine)
    (h : ∀ (h' : Heap) (tk : Nat) L es ep t, NS w h' s.heap.objs.size L es ep t → Has ks ks.length L → (∀ b o, s.heap.get? b = some o → h'.get? b = some o) → Q (.ref s.heap.objs.size) { s with heap := h', toks := tk }) :
    wpAny (model P w) A (call (.type "set") [.ref l]) Q E s := by
  have isz : items.size = ks.length := by
    have q := congrArg List.length hit
    rwa [Array.length_toList, List.length_map] at q
  obtain ⟨c, tl, hmro⟩ := F.called_set.mro
  have hmade := F.called_set.made
  have hsub := F.called_set.sub
  refine wpAny_call (codeAny_of_tree ?_)
  show wpAny _ _ (callAny (.type "set") _) _ _ _
  refine wpAny_pure ⟨Code.quiet_builtin _ (by decide +kernel), codeAny_builtin F.entry_type_call ?_⟩
  rw [Around.under_plain (weight_type_call_type "set" [.ref l] []) rfl]
  have h1 := F.called_set.notType
  have h2 := F.called_set.canCreate
  have hct := F.typeCall_set_1 (.ref l)
  repeat (any_goals (first | assumption | wp_step))
  refine codeAny_mono (code_set_led1 (.ref l) (E := E) (Q₁ := fun obj s₁ => obj = .ref s.heap.objs.size ∧ s₁ = { s with heap := s.heap.push (newSet w) }) ⟨rfl, rfl⟩) fun r s₁ hr => ?_
  cases r with
  | error e => exact hr
  | ok fl =>
    cases fl with
    | ret obj =>
      obtain ⟨rfl, rfl⟩ := hr
      have gS : (s.heap.push (newSet w)).get? s.heap.objs.size = some (newSet w) := Heap.get?_push_size _ rfl
      have hT : Shared.TypeIs { s with heap := s.heap.push (newSet w) } (.ref s.heap.objs.size) "set" := ⟨_, gS, rfl⟩
      have hli := F.called_set.init.lookup
      have hbi := F.called_set.init.bind (.ref s.heap.objs.size)
      repeat (any_goals (first | assumption | wp_step))
      refine codeAny_mono (codeAny_call_builtin (R := wants (fun r s₂ => r = .none ∧ ∃ h' tk L es ep t, s₂ = { s with heap := h', toks := tk } ∧ NS w h' s.heap.objs.size L es ep t ∧ Has ks ks.length L ∧
          (∀ b o, s.heap.get? b = some o → h'.get? b = some o)) E) F.called_set.init.plain F.entry_set_init (check_set_init_1 hT ?_)) fun r₂ s₂ hr₂ => ?_
      · obtain ⟨ol, hol, hcl, nl, hdl⟩ := hl
        obtain ⟨ocls, odict, odata, oslots⟩ := ol
        simp only at hcl hdl
        subst hcl; subst hdl
        have hol' : (s.heap.push (newSet w)).get? l = some { cls := .type "list", dict := odict, data := .seq items nl, slots := oslots } := Heap.get?_push_of_some _ hol
        have hsls := F.sub_list_set
        have hslf := F.sub_list_frozenset
        have hne : (Value.type "list" == Value.type "dict") = false := by decide
        have hl1 : (s.heap.push (newSet w)).IsList l items := ⟨_, hol', rfl, nl, rfl⟩
        unfold Builtin.«set.__init__» noKeywords Builtin.Frozenset.updateFrom
        generalize hPI : pyIter = PI
        wp_walk
        subst hPI
        refine wpAny_pyIter_list hl1 ?_
        refine wpAny_bind (wpAny_runValue ?_)
        have lS : l < s.heap.objs.size := Heap.lt_size hol
        have hh3 : A.in1.in1.in1.handled = none := by simp [hh]
        have nI : l ≠ (s.heap.push (newSet w)).objs.size := by
          rw [Heap.size_push]; exact Nat.ne_of_lt (Nat.lt_succ_of_lt lS)
        have sf : s.heap.objs.size ∉ [(s.heap.push (newSet w)).objs.size, l] := by
          rw [Heap.size_push]; simp only [List.mem_cons, List.mem_singleton, List.not_mem_nil, or_false, not_or]
          exact ⟨Nat.ne_of_lt (Nat.lt_succ_self _), Nat.ne_of_gt lS⟩
        have val : ∀ (i : Nat) (v : Value), items[i]? = some v → ∃ p, ks[i]? = some p ∧ v = .ref p.1 := fun i v hv => by
          have q : items.toList[i]? = some v := by rw [Array.getElem?_toList]; exact hv
          rw [hit, List.getElem?_map, Option.map_eq_some_iff] at q
          obtain ⟨p, hp, e⟩ := q
          exact ⟨p, hp, e.symm⟩
        have beyond : ∀ b, s.heap.objs.size ≤ b → s.heap.get? b = none := fun b hb => by
          cases q : s.heap.get? b with
          | none => rfl
          | some o => exact absurd (Nat.lt_of_lt_of_le (Heap.lt_size q) hb) (Nat.lt_irrefl _)
        refine loop_ok ((Walks.list hh3 _ l nI items).toS) s.heap.objs.size
          sf ks isz few val s.heap hk (beyond _ (Nat.le_refl _)) (fun b hb => beyond b (by
            rw [List.mem_singleton.mp hb, Heap.size_push]
            exact Nat.le_succ _)) (by
              show A.units + 3 + 8 < cLine
              omega) (items.size - 0) 0 _ (by omega) (Nat.zero_le _)
          ⟨⟨_, Heap.get?_push_size _ rfl, rfl, rfl⟩, (hl1.push _)⟩ (fun b o e => Heap.get?_push_of_some _ (Heap.get?_push_of_some _ e)) ?first ?last
        case first =>
          have g2 : ((s.heap.push (newSet w)).push { cls := .type "list_iterator", data := .fields #[.ref l, .int 0 0] }).get? s.heap.objs.size = some (newSet w) := Heap.get?_push_of_some _ gS
          exact ⟨[], #[], 0, _, ns_new g2, ⟨fun p h => (by cases h), fun p h => (by simp at h), Nat.le_refl _⟩⟩
        case last =>
          intro s' L es ep t mv N g' up
          obtain ⟨h', g2, d', tk', os'⟩ := s'
          have eg : g2 = s.gens := mv.gens
          have ed : d' = s.drawn := mv.drawn
          have eo : os' = s.os := mv.os
          subst eg; subst ed; subst eo
          show wpAny _ _ _ _ _ _
          refine wpAny_pure ?_
          show wpAny _ _ (ret Value.none) _ _ _
          rw [isz] at g'
          exact wpAny_pure ⟨rfl, h', tk', L, es, ep, t, rfl, N, g', up⟩
      · cases r₂ with
        | error e => exact hr₂
        | ok fl₂ =>
          cases fl₂ with
          | ret r =>
            obtain ⟨rfl, h', tk, L, es, ep, t, rfl, N, g', up⟩ := hr₂
            repeat (any_goals (first | assumption | wp_step))
            exact h _ _ _ _ _ _ N g' up
          | _ => exact hr₂.elim
    | _ => exact hr.elim
end
end NSet

set_option Elab.async false
set_option linter.all false
set_option maxRecDepth 100000
set_option maxHeartbeats 4000000
/-! sets of nested tuples, 4: sorted(set), the order of keys -/
namespace NSet
open PySem PySem.Spec PyProof.Rows L2

/-! ### the order -/
mutual
def toksN : Nk → List Int
  | .num i => [i]
  | .tup ks => toksNs ks
  | _ => []
def toksNs : List Nk → List Int
  | [] => [0]
  | k :: ks => 1 :: (toksN k ++ toksNs ks)
end
mutual
theorem toks_data : ∀ k : Nk, num k = true → PySem.W.keyToks k.data = (toksN k).map .inl
  | .num i, _ => rfl
  | .tup ks, h => by
    simp only [num] at h
    simp only [NestedKey.data, PySem.W.keyToks, toksN, toks_datas ks h]
  | .text x, h => by simp [num] at h
  | .none, h => by simp [num] at h
theorem toks_datas : ∀ ks : List Nk, numAll ks = true → PySem.W.keyToksAll (NestedKey.datas ks) = (toksNs ks).map .inl
  | [], _ => rfl
  | k :: ks, h => by
    simp only [numAll, Bool.and_eq_true] at h
    simp only [NestedKey.datas, PySem.W.keyToksAll, toksNs, toks_data k h.1, toks_datas ks h.2, List.map_cons, List.map_append]
end
mutual
/-- the same shape as far as both go -/
def likeN : Nk → Nk → Bool
  | .num _, .num _ => true
  | .tup xs, .tup ys => likeNs xs ys
  | _, _ => false
def likeNs : List Nk → List Nk → Bool
  | x :: xs, y :: ys => likeN x y && likeNs xs ys
  | [], _ => true
  | _ :: _, [] => true
end
mutual
theorem like_data : ∀ x y : Nk, likeN x y = true → PySem.W.alike x.data y.data = true
  | .num _, .num _, _ => by simp [NestedKey.data, PySem.W.alike]
  | .tup xs, .tup ys, h => by
    simp only [likeN] at h
    simp only [NestedKey.data, PySem.W.alike, like_datas xs ys h]
  | .none, _, h => by simp [likeN] at h
  | .text _, _, h => by simp [likeN] at h
  | .num _, .none, h => by simp [likeN] at h
  | .num _, .text _, h => by simp [likeN] at h
  | .num _, .tup _, h => by simp [likeN] at h
  | .tup _, .none, h => by simp [likeN] at h
  | .tup _, .text _, h => by simp [likeN] at h
  | .tup _, .num _, h => by simp [likeN] at h
theorem like_datas : ∀ xs ys : List Nk, likeNs xs ys = true → PySem.W.alikeAll (NestedKey.datas xs) (NestedKey.datas ys) = true
  | x :: xs, y :: ys, h => by
    simp only [likeNs, Bool.and_eq_true] at h
    simp only [NestedKey.datas, PySem.W.alikeAll, like_data x y h.1, like_datas xs ys h.2, Bool.and_self]
  | [], ys, _ => by simp [NestedKey.datas, PySem.W.alikeAll]
  | x :: xs, [], _ => by simp [NestedKey.datas, PySem.W.alikeAll]
end
mutual
theorem toks_inj : ∀ (x y : Nk) (r s : List Int), likeN x y = true → toksN x ++ r = toksN y ++ s → x = y ∧ r = s
  | .num i, .num j, r, s, _, e => by
    simp only [toksN, List.cons_append, List.nil_append, List.cons.injEq] at e
    exact ⟨by rw [e.1], e.2⟩
  | .tup xs, .tup ys, r, s, h, e => by
    simp only [likeN] at h
    simp only [toksN] at e
    obtain ⟨e1, e2⟩ := toksNs_inj xs ys r s h e
    exact ⟨by rw [e1], e2⟩
  | .none, _, _, _, h, _ => by simp [likeN] at h
  | .text _, _, _, _, h, _ => by simp [likeN] at h
  | .num _, .none, _, _, h, _ => by simp [likeN] at h
  | .num _, .text _, _, _, h, _ => by simp [likeN] at h
  | .num _, .tup _, _, _, h, _ => by simp [likeN] at h
  | .tup _, .none, _, _, h, _ => by simp [likeN] at h
  | .tup _, .text _, _, _, h, _ => by simp [likeN] at h
  | .tup _, .num _, _, _, h, _ => by simp [likeN] at h
theorem toksNs_inj : ∀ (xs ys : List Nk) (r s : List Int), likeNs xs ys = true → toksNs xs ++ r = toksNs ys ++ s → xs = ys ∧ r = s
  | x :: xs, y :: ys, r, s, h, e => by
    simp only [likeNs, Bool.and_eq_true] at h
    simp only [toksNs, List.cons_append, List.append_assoc, List.cons.injEq, true_and] at e
    obtain ⟨e1, e2⟩ := toks_inj x y _ _ h.1 e
    obtain ⟨e3, e4⟩ := toksNs_inj xs ys r s h.2 e2
    exact ⟨by rw [e1, e3], e4⟩
  | [], [], r, s, _, e => by simpa [toksNs] using e
  | [], _ :: _, r, s, _, e => by simp [toksNs] at e
  | _ :: _, [], r, s, _, e => by simp [toksNs] at e
end
def leN (a b : Nk) : Bool := decide (toksN a ≤ toksN b)
theorem leN_trans (a b c : Nk) (h1 : leN a b = true) (h2 : leN b c = true) : leN a c = true := by
  simp only [leN, decide_eq_true_eq] at *
  exact List.le_trans h1 h2
theorem leN_total (a b : Nk) : (leN a b || leN b a) = true := by
  simp only [leN, Bool.or_eq_true, decide_eq_true_eq]
  exact List.le_total _ _
theorem leN_anti {a b : Nk} (l : likeN a b = true) (h1 : leN a b = true) (h2 : leN b a = true) : a = b := by
  simp only [leN, decide_eq_true_eq] at *
  exact (toks_inj a b [] [] l (by rw [List.le_antisymm h1 h2])).1
theorem lex_inl : ∀ a b : List Int, PyProof.Rows.lexLt itemOrd (a.map .inl) (b.map .inl) = decide (a < b)
  | [], [] => by simp [PyProof.Rows.lexLt]
  | [], _ :: _ => by simp [PyProof.Rows.lexLt]
  | _ :: _, [] => by simp [PyProof.Rows.lexLt]
  | x :: a, y :: b => by
    rw [List.map_cons, List.map_cons, PyProof.Rows.lex_cons, lex_inl a b]
    show (decide (x < y) || (!decide (y < x) && decide (a < b))) = _
    rw [Bool.eq_iff_iff]
    simp only [Bool.or_eq_true, Bool.and_eq_true, decide_eq_true_eq, Bool.not_eq_true', decide_eq_false_iff_not, List.cons_lt_cons_iff]
    constructor
    · rintro (h | ⟨h1, h2⟩)
      · exact .inl h
      · rcases Int.lt_trichotomy x y with z | z | z
        · exact .inl z
        · exact .inr ⟨z, h2⟩
        · exact absurd z h1
    · rintro (h | ⟨rfl, h⟩)
      · exact .inl h
      · exact .inr ⟨Int.lt_irrefl _, h⟩
theorem leN_data {a b : Nk} (ha : num a = true) (hb : num b = true) : (!PySem.W.dataLt b.data a.data) = leN a b := by
  unfold PySem.W.dataLt leN
  rw [toks_data a ha, toks_data b hb, lex_inl]
  by_cases h : toksN b < toksN a
  · have h' : ¬ toksN a ≤ toksN b := fun q => List.not_lt.mpr q h
    simp [h, h']
  · have h' : toksN a ≤ toksN b := List.not_lt.mp h
    simp [h, h']
/-! ### keys that stand in the heap, numbers as numbers -/
mutual
inductive KIs (h : Heap) : Nk → Value → Prop
  | int (i : Int) (t : Tok) : KIs h (.num i) (.int i t)
  | tup {a : Addr} {us : List Value} {ks : List Nk} : IsTup h a us.toArray → KAll h ks us → KIs h (.tup ks) (.ref a)
inductive KAll (h : Heap) : List Nk → List Value → Prop
  | nil : KAll h [] []
  | cons {k : Nk} {v : Value} {ks : List Nk} {vs : List Value} : KIs h k v → KAll h ks vs → KAll h (k :: ks) (v :: vs)
end
mutual
theorem KIs.nested {h : Heap} : ∀ {k : Nk} {v : Value}, KIs h k v → NestedIs h k v
  | _, _, .int i t => .int i t
  | _, _, .tup ⟨o, g, c, n, d⟩ r => .tup g c d (by simpa using KAll.nested r)
theorem KAll.nested {h : Heap} : ∀ {k : List Nk} {v : List Value}, KAll h k v → NestedAll h k v
  | _, _, .nil => .nil
  | _, _, .cons r t => .cons (KIs.nested r) (KAll.nested t)
end
mutual
theorem KIs.num {h : Heap} : ∀ {k : Nk} {v : Value}, KIs h k v → num k = true
  | _, _, .int i t => rfl
  | _, _, .tup _ r => KAll.num r
theorem KAll.num {h : Heap} : ∀ {k : List Nk} {v : List Value}, KAll h k v → numAll k = true
  | _, _, .nil => rfl
  | _, _, .cons r t => by simp [numAll, KIs.num r, KAll.num t]
end
mutual
theorem KIs.reads {h : Heap} : ∀ {k : Nk} {v : Value}, KIs h k v → Reads h v k.data []
  | _, _, .int i t => .int i t
  | _, _, .tup ⟨o, g, c, n, d⟩ r => .tuple g c d (by simpa using KAll.reads r)
theorem KAll.reads {h : Heap} : ∀ {k : List Nk} {v : List Value}, KAll h k v → ReadsAll h v (NestedKey.datas k) []
  | _, _, .nil => .nil
  | _, _, .cons r t => by
    have := ReadsAll.cons (KIs.reads r) (KAll.reads t)
    rw [NestedKey.datas]
    exact this
end
mutual
theorem KIs.keep {h h' : Heap} (up : ∀ c o, h.get? c = some o → h'.get? c = some o) : ∀ {k : Nk} {v : Value}, KIs h k v → KIs h' k v
  | _, _, .int i t => .int i t
  | _, _, .tup ⟨o, g, c, n, d⟩ r => .tup ⟨o, up _ _ g, c, n, d⟩ (KAll.keep up r)
theorem KAll.keep {h h' : Heap} (up : ∀ c o, h.get? c = some o → h'.get? c = some o) : ∀ {k : List Nk} {v : List Value}, KAll h k v → KAll h' k v
  | _, _, .nil => .nil
  | _, _, .cons r t => .cons (KIs.keep up r) (KAll.keep up t)
end
theorem KIs.isN {h : Heap} {k : Nk} {a : Addr} (x : KIs h k (.ref a)) (d : k.depth ≤ 8) : IsN h k a := ⟨x.nested, d, x.num⟩
mutual
theorem data_depth : ∀ k : Nk, k.data.depth = k.depth
  | .none => rfl
  | .num _ => rfl
  | .text _ => rfl
  | .tup ks => by simp [NestedKey.data, PyData.depth, NestedKey.depth, datas_depth ks]
theorem datas_depth : ∀ ks : List Nk, PyData.depthAll (NestedKey.datas ks) = NestedKey.depthAll ks
  | [] => rfl
  | k :: ks => by simp [NestedKey.datas, PyData.depthAll, NestedKey.depthAll, data_depth k, datas_depth ks]
end
theorem unmap {α β : Type} (f : α → β) : ∀ (vs : List β) (L : List α), vs.Perm (L.map f) → ∃ L1 : List α, L1.Perm L ∧ vs = L1.map f
  | [], L, h => by
    have : L = [] := by simpa using h.length_eq.symm
    exact ⟨[], by rw [this], rfl⟩
  | v :: vs, L, h => by
    obtain ⟨q, hq, e⟩ := List.mem_map.mp (h.mem_iff.mp List.mem_cons_self)
    obtain ⟨l1, l2, rfl⟩ := List.append_of_mem hq
    have h2 : vs.Perm ((l1 ++ l2).map f) := by
      have p1 : (v :: vs).Perm (v :: (l1 ++ l2).map f) := by
        refine h.trans ?_
        have := (List.perm_middle (l₁ := l1) (l₂ := l2) (a := q)).map f
        rw [List.map_cons, e] at this
        exact this
      exact p1.cons_inv
    obtain ⟨L1, pm, e2⟩ := unmap f vs (l1 ++ l2) h2
    exact ⟨q :: L1, (pm.cons q).trans List.perm_middle.symm, by rw [List.map_cons, e, e2]⟩
/-- what may be sorted: tuples with an item each, comparable -/
def Good (ks : List Nk) : Prop := (∀ k ∈ ks, ∃ x r, k = .tup (x :: r)) ∧ ∀ k ∈ ks, ∀ k' ∈ ks, likeN k k' = true
section
variable {P : Program} {w : World} {A : Around} {E : Value → Shared → Prop} {s : Shared}
theorem sorted_ok {a : Addr} {L : KL} {es : Array (Int × Value)} {ep : Nat} {t : SetTable} {Q : Value → Shared → Prop} (R : NS w s.heap a L es ep t) (hh : A.handled = none) (hu : A.units + 20 < cLine)
    (ki : ∀ p ∈ L, KIs s.heap p.2 (.ref p.1)) (good : Good (L.map (·.2)))
    (hQ : ∀ s' p (out : Array Value) (c : Nat) (L' : KL), (∀ b o, s.heap.get? b = some o → s'.heap.get? b = some o) → s'.gens = s.gens → s'.os = s.os → s.heap.objs.size ≤ p →
      s'.heap.get? p = some (seqObj "list" out c) → out.toList = L'.map (fun q => Value.ref q.1) → L'.Perm L → L'.Pairwise (fun q r => leN q.2 r.2 = true) → Q (.ref p) s') :
    wpAny (model P w) A (call (.builtin "sorted") [.ref a]) Q E s := by
  obtain ⟨o, og, oex, od⟩ := R.obj
  have sz := size_of R.ent
  have few := R.small
  refine Calls.call_function_entry kind_sorted plain_sorted entry_sorted (args_sorted1 _) ?_
  unfold Builtin.«sorted»
  refine wpAny_bind (m := checkCount "sorted" 1 1 _) (wpAny_pure ?_)
  refine wpAny_bind (collect_set (A := A.in1) hh ⟨o, og, oex.1, od⟩ R.fits (by unfold scanBound; omega) R.tab.rise R.order fun s1 vs k1 hz g1 o1 pm => ?_)
  have ev : es.toList.map (·.2) = L.map fun q => Value.ref q.1 := by
    rw [R.ent, entries, List.map_map]
    rfl
  rw [ev] at pm
  obtain ⟨L1, pm1, rfl⟩ := unmap _ _ _ pm
  have mem : ∀ q ∈ L1, q ∈ L := fun q hq => pm1.mem_iff.mp hq
  have l1 : L1.length < 4096 := by rw [pm1.length_eq]; exact few
  refine wpAny_bind (wpAny_newList ?_ (by rw [List.length_map, sizeLine_eq]; omega))
  have gL : (s1.heap.push (seqObj "list" (L1.map fun q => Value.ref q.1).toArray 0)).get? s1.heap.objs.size = some (seqObj "list" (L1.map fun q => Value.ref q.1).toArray 0) := Heap.get?_push_size _ rfl
  have here : ∀ q ∈ L1, KIs (s1.heap.push (seqObj "list" (L1.map fun q => Value.ref q.1).toArray 0)) q.2 (.ref q.1) := fun q hq => (ki q (mem q hq)).keep fun b u e => Heap.get?_push_of_some _ (k1 b u e)
  have each : ∀ l : KL, PySem.W.EachIs (fun v (b : Addr × Nk) => v = Value.ref b.1) (l.map fun q => Value.ref q.1) l := by
    intro l
    induction l with
    | nil => exact .nil
    | cons q l ih => exact .cons rfl ih
  have reads : ∀ l : KL, (∀ q ∈ l, q ∈ L1) → PySem.W.EachIs (fun v (b : Addr × Nk) => ∃ as, Reads (s1.heap.push (seqObj "list" (L1.map fun q => Value.ref q.1).toArray 0)) v (b.2.data) as ∧ s1.heap.objs.size ∉ as) (l.map fun q => Value.ref q.1) l := by
    intro l
    induction l with
    | nil => intro _; exact .nil
    | cons q l ih => intro hl; exact .cons ⟨[], (here q (hl q List.mem_cons_self)).reads, by simp⟩ (ih fun r hr => hl r (List.mem_cons_of_mem _ hr))
  have mk : ∀ q ∈ L1, q.2 ∈ L.map (·.2) := fun q hq => List.mem_map.mpr ⟨q, mem q hq, rfl⟩
  have al : PySem.W.AllAlike (L1.map fun b : Addr × Nk => b.2.data) := by
    intro d hd d' hd'
    obtain ⟨q, hq, rfl⟩ := List.mem_map.mp hd
    obtain ⟨r, hr, rfl⟩ := List.mem_map.mp hd'
    exact like_data _ _ (good.2 _ (mk q hq) _ (mk r hr))
  have so : PySem.W.Sortable (L1.map fun b : Addr × Nk => b.2.data) := .inl fun d hd => by
    obtain ⟨q, hq, rfl⟩ := List.mem_map.mp hd
    obtain ⟨x, r, e⟩ := good.1 _ (mk q hq)
    exact ⟨x.data, NestedKey.datas r, by rw [e]; rfl⟩
  refine wpAny_bind (wpAny_holding (PySem.W.list_sort_data (enc := fun b : Addr × Nk => b.2.data) (s := { s1 with heap := s1.heap.push (seqObj "list" (L1.map fun q => Value.ref q.1).toArray 0) }) gL (each L1) (reads L1 fun _ h => h)
    al so (by rw [sizeLine_eq]; omega) (fun b hb => ?_) fun out ol eo => ?_))
  · have := (R.keys b (mem b hb)).dp
    rw [data_depth]
    show A.units + 1 + 1 + _ < _
    omega
  obtain ⟨c, hc⟩ := sortedHeap_at (vs := L1.map fun q => Value.ref q.1) (out := out.toArray) gL
  have outs : ∀ (o : List Value) (l : KL), PySem.W.EachIs (fun v (b : Addr × Nk) => v = Value.ref b.1) o l → o = l.map fun q => Value.ref q.1 := by
    intro o l h
    induction h with
    | nil => rfl
    | cons e _ ih => rw [List.map_cons, e, ih]
  have le_eq : ∀ q ∈ L1, ∀ r ∈ L1, PySem.W.dataLe false (fun b : Addr × Nk => b.2.data) q r = leN q.2 r.2 := fun q hq r hr => leN_data (ki q (mem q hq)).num (ki r (mem r hr)).num
  have pmS : (L1.mergeSort (PySem.W.dataLe false fun b : Addr × Nk => b.2.data)).Perm L1 := List.mergeSort_perm _ _
  have srt : (L1.mergeSort (PySem.W.dataLe false fun b : Addr × Nk => b.2.data)).Pairwise (fun q r => leN q.2 r.2 = true) := by
    have same : L1.mergeSort (PySem.W.dataLe false fun b : Addr × Nk => b.2.data) = L1.mergeSort (fun q r => leN q.2 r.2) := by
      have go : ∀ (le1 le2 : Addr × Nk → Addr × Nk → Bool) (l : KL), (∀ q ∈ l, ∀ r ∈ l, le1 q r = le2 q r) → l.mergeSort le1 = l.mergeSort le2 := by
        intro le1 le2 l h
        have h1 := List.map_mergeSort (r := fun (q r : {x // x ∈ l}) => le2 q.1 r.1) (s := le2) (f := Subtype.val) (l := l.attach) (fun a _ b _ => rfl)
        have h2 := List.map_mergeSort (r := fun (q r : {x // x ∈ l}) => le2 q.1 r.1) (s := le1) (f := Subtype.val) (l := l.attach) (fun a _ b _ => (h a.1 a.2 b.1 b.2).symm)
        rw [List.attach_map_subtype_val] at h1 h2
        rw [← h2, h1]
      exact go _ _ L1 le_eq
    rw [same]
    exact List.pairwise_mergeSort (fun a b c => leN_trans a.2 b.2 c.2) (fun a b => leN_total a.2 b.2) L1
  refine wpAny_pure ⟨_, rfl, hQ _ s1.heap.objs.size out.toArray c _ (fun b u e => ?_) g1 o1 hz hc (by simpa using outs _ _ eo) (pmS.trans pm1) srt⟩
  have q := k1 b u e
  have hlt := Heap.lt_size q
  show (sortedHeap (s1.heap.push (seqObj "list" (L1.map fun q => Value.ref q.1).toArray 0)) s1.heap.objs.size (L1.map fun q => Value.ref q.1) out.toArray).get? b = some u
  rw [sortedHeap_old (Nat.ne_of_lt hlt) (by rw [size_push']; exact Nat.lt_succ_of_lt hlt)]
  exact Heap.get?_push_of_some _ q
end
end NSet

set_option Elab.async false
set_option linter.all false
set_option maxRecDepth 100000
set_option maxHeartbeats 4000000
/-! sets, 5: the rules over tracked things; a comprehension that makes a set of numbers -/
namespace NSet
open PySem PySem.Spec PyProof.Rows L2 PpSet GT

/-! ### sets of numbers -/
def SIO (w : World) (a : Addr) (l : List Int) : HO := .ext fun h => SetR w h a (fun k => decide (k ∈ l)) l.length
def ins (l : List Int) (k : Int) : List Int := if k ∈ l then l else l ++ [k]
theorem sio_new {w : World} {P : Program} {H : Hp} {h : Heap} {a : Addr} {l : List Int} (R : SetR w h a (fun k => decide (k ∈ l)) l.length) : ObjOk P w H h a (SIO w a l) := by
  have ⟨o, _, _, _, ho, _⟩ := R
  exact ⟨R, ⟨o, ho⟩, fun h1 h2 p k => SetR.at p k⟩
section
variable {P : Program} {w : World} {A : Around} {E : Value → Shared → Prop} {s : Shared}
/-- sorted(a set of numbers), of any size -/
theorem sortedI_any {a : Addr} {S : Int → Bool} {n : Nat} {Q : Value → Shared → Prop} (R : SetR w s.heap a S n) (hh : A.handled = none) (few : n < 4096)
    (q : ∀ s' p (out : Array Value) (c : Nat) (ns : List Int), (∀ b o, s.heap.get? b = some o → s'.heap.get? b = some o) → s'.gens = s.gens → s'.os = s.os → s.heap.objs.size ≤ p →
      s'.heap.get? p = some (seqObj "list" out c) → IntsAre out.toList ns → ns.Pairwise (· < ·) → (∀ k, k ∈ ns ↔ S k = true) → ns.length = n → Q (.ref p) s') :
    wpAny (model P w) A (call (.builtin "sorted") [.ref a]) Q E s := by
  obtain ⟨o, es, ep, t, ho, hex, hd, good, nd, mem, hb, hf, hn, hr, hl⟩ := R
  refine Calls.call_function_entry kind_sorted plain_sorted entry_sorted (args_sorted1 _) ?_
  unfold Builtin.«sorted»
  refine wpAny_bind (m := checkCount "sorted" 1 1 _) (wpAny_pure ?_)
  refine wpAny_bind (collect_set (A := A.in1) hh ⟨o, ho, hex.1, hd⟩ hf hb hr hl fun s1 vs up hz g1 o1 pm => ?_)
  have len : vs.length = n := by
    have := pm.length_eq
    simpa [hn] using this
  have are : IntsAre vs (vs.map Builtin.Re.reRawOf) := ints_of vs fun v hv => by
    obtain ⟨e, he, rfl⟩ := List.mem_map.mp (pm.mem_iff.mp hv)
    obtain ⟨k, tk, h1, _⟩ := good e he
    exact ⟨k, tk, h1⟩
  have keys : (vs.map Builtin.Re.reRawOf).Perm (es.toList.map keyOf) := by
    have z := pm.map Builtin.Re.reRawOf
    rwa [List.map_map] at z
  refine wpAny_bind (wpAny_newList ?_ (by rw [len, sizeLine_eq]; omega))
  have at_ : (s1.heap.push (seqObj "list" vs.toArray 0)).get? s1.heap.objs.size = some (seqObj "list" vs.toArray 0) := Heap.get?_push_size _ rfl
  refine wpAny_bind (wpAny_holding (wpAny_call_entry slot_list_sort ⟨_, at_, rfl⟩ entry_list_sort
    (SrtO.list_sort_ord SrtO.swo_int at_ (by rw [len, sizeLine_eq]; omega) (fun h2 => SrtO.ints_sortable are h2) fun out h1 h2 => ⟨_, rfl, ?_⟩) (args_list_sort _)))
  obtain ⟨k1, k2, k3⟩ := SrtO.ints_out are h1 h2
  obtain ⟨c, hc⟩ := sortedHeap_at (vs := vs) (out := out.toArray) at_
  have pn := k2.trans keys
  refine wpAny_pure ⟨_, rfl, q _ s1.heap.objs.size out.toArray c _ (fun b u e => ?_) g1 o1 hz hc (by simpa using k1) (lt_of_le_nodup _ k3 (pn.nodup_iff.mpr nd)) (fun k => by rw [pn.mem_iff, ← mem k]) (by rw [pn.length_eq]; simpa using hn)⟩
  have e1 := up b u e
  have lt := Heap.lt_size e1
  show (sortedHeap (s1.heap.push (seqObj "list" vs.toArray 0)) s1.heap.objs.size vs out.toArray).get? b = some u
  rw [sortedHeap_old (Nat.ne_of_lt lt) (by rw [size_push']; exact Nat.lt_succ_of_lt lt)]
  exact Heap.get?_push_of_some _ e1
end
section
variable {X : Cx}
theorem addI_ok {pins : List (Addr × Obj)} {σ : L2.St} {H : Hp} {s : Shared} {E : Value → Shared → Prop} {D : Addr} {l : List Int} {k : Int} {tk : Tok} {Q : Value → Shared → Prop} (I : Inv X pins σ H s) (hD : H D = some (SIO X.w D l)) (room : l.length + 1 < scanBound)
    (h : ∀ s', Inv X pins σ (upd H D (SIO X.w D (ins l k))) s' → Q .none s') : wpAny (model X.prog X.w) X.A (call (.builtin "set.add") [.ref D, .int k tk]) Q E s := by
  have R : SetR X.w s.heap D _ _ := (I.hok D _ hD).1
  refine setR_add R room fun h' sb new => ?_
  have new' : SetR X.w h' D (fun j => decide (j ∈ ins l k)) (ins l k).length := by
    have e1 : (fun j => decide (j ∈ l) || decide (j = k)) = fun j => decide (j ∈ ins l k) := by
      funext j
      unfold ins
      by_cases m : k ∈ l
      · rw [if_pos m]
        by_cases e : j = k
        · simp [e, m]
        · simp [e]
      · rw [if_neg m]
        simp
    have e2 : (if decide (k ∈ l) = true then l.length else l.length + 1) = (ins l k).length := by
      unfold ins
      by_cases m : k ∈ l <;> simp [m]
    rw [e1, e2] at new
    exact new
  have he : ∃ u, h'.get? D = some u := by
    have ⟨o, _, _, _, ho, _⟩ := new'
    exact ⟨o, ho⟩
  exact h _ (I.write (e := D) (t' := s.toks + 1) (by rw [hD]; trivial) (.inl rfl) (fun b u hb hu => (sb.2 b hb).trans hu) he (sio_new new'))
/-- sorted(set of numbers) -/
def rSortI (w : World) : List V → Hp → VK → Prop := fun vs H Q => ∃ (a : Addr) (l : List Int), vs = [V.ref a] ∧ H a = some (SIO w a l) ∧ l.length < 4096 ∧
  ∀ (ns : List Int) (p : Addr), ns.Pairwise (· < ·) → (∀ k, k ∈ ns ↔ k ∈ l) → H p = none → Q (.ref p) (upd H p (.lst (ns.map V.int)))
theorem vals_of_ints : ∀ {us : List Value} {ns : List Int}, IntsAre us ns → Vals (ns.map V.int) us
  | _, _, .nil => .nil
  | _, _, .cons i t r => .cons ⟨t, rfl⟩ (vals_of_ints r)
theorem back_in {pins : List (Addr × Obj)} {σ : L2.St} {H : Hp} {s s' : Shared} {p : Addr} {o : HO} (I : Inv X pins σ H s) (k : ∀ b o, s.heap.get? b = some o → s'.heap.get? b = some o) (g : s'.gens = s.gens) (os : s'.os = s.os) (hp : s.heap.objs.size ≤ p)
    (new : ObjOk X.prog X.w (upd H p o) s'.heap p o) : Inv X pins σ (upd H p o) s' := by
  have hn : H p = none := I.hok.fresh hp
  have J : Inv X pins σ (upd H p o) { s with heap := s'.heap, gens := s'.gens, drawn := s'.drawn, toks := s'.toks } :=
    I.call (ch := []) (Un.laid k hp hn) (I.hok.laid k hp new) (by rw [g]; exact I.bare) (fun _ z => nomatch z)
  have e : s' = { s with heap := s'.heap, gens := s'.gens, drawn := s'.drawn, toks := s'.toks } := by
    cases s'
    cases s
    cases os
    rfl
  rw [e]
  exact J
theorem cr_sortI (hc : X.calm = true) : CallR X (.builtin "sorted") (rSortI X.w) := by
  intro pins s σ H vs us Q I r h
  obtain ⟨a, l, rfl, ha, few, q⟩ := h
  have R : SetR X.w s.heap a _ _ := (I.hok a _ ha).1
  rw [Vals.ref1 r]
  refine sortedI_any R (I.ok.hd hc) few fun s' p out c ns k g o hp hg hi pw mem len => ?_
  have hn : H p = none := I.hok.fresh hp
  have vl := vals_of_ints hi
  refine ⟨.ref p, _, back_in (o := .lst (ns.map V.int)) I k g o hp ⟨by rw [List.length_map, len, sizeLine_eq]; omega, out.toList, c, vl, hg⟩, rfl, q ns p pw (fun k => ?_) hn⟩
  rw [mem k]
  simp

/-! ### sets of keys -/
structure NS0 (w : World) (h : Heap) (a : Addr) (L : KL) : Prop where
  ex : ∃ (es : Array (Int × Value)) (ep : Nat) (t : SetTable), (∃ o, h.get? a = some o ∧ o.ExactSet ∧ o.data = .set es ep t) ∧ es.toList = entries w L ∧ TabG t (hashesOf w L) ∧ (L.map (·.2)).Nodup ∧ t.plain = true ∧
    (w.params.followText "set-order" = true ∨ t.led = true) ∧ L.length * 5 < t.mask * 3 ∧ L.length < 4096
def NSO (w : World) (a : Addr) (L : KL) : HO := .ext fun h => NS0 w h a L
theorem NS.bare {w : World} {h : Heap} {a : Addr} {L : KL} {es : Array (Int × Value)} {ep : Nat} {t : SetTable} (R : NS w h a L es ep t) : NS0 w h a L :=
  ⟨es, ep, t, R.obj, R.ent, R.tab, R.nodup, R.plain, R.order, R.space, R.small⟩
theorem nso_new {w : World} {P : Program} {H : Hp} {h : Heap} {a : Addr} {L : KL} (R : NS0 w h a L) : ObjOk P w H h a (NSO w a L) := by
  have ⟨es, ep, t, ⟨o, ho, r⟩, q⟩ := R.ex
  refine ⟨R, ⟨o, ho⟩, fun h1 h2 p k => ?_⟩
  have ⟨es', ep', t', ⟨o', ho', r'⟩, q'⟩ := NS0.ex p
  exact ⟨es', ep', t', ⟨o', k o' ho', r'⟩, q'⟩
mutual
/-- the tracked value is the key k -/
inductive VKey (K : PySem.W.Frag) (H : Hp) : Nk → V → Prop
  | int (i : Int) : VKey K H (.num i) (.int i)
  | tup {a : Addr} {vs : List V} {ks : List Nk} : SqT K H a vs → VKeys K H ks vs → VKey K H (.tup ks) (.ref a)
inductive VKeys (K : PySem.W.Frag) (H : Hp) : List Nk → List V → Prop
  | nil : VKeys K H [] []
  | cons {k : Nk} {v : V} {ks : List Nk} {vs : List V} : VKey K H k v → VKeys K H ks vs → VKeys K H (k :: ks) (v :: vs)
end
mutual
theorem VKey.at {pins : List (Addr × Obj)} {σ : L2.St} {H : Hp} {s : Shared} (I : Inv X pins σ H s) : ∀ {k : Nk} {v : V} {u : Value}, VKey X.K H k v → RelV v u → KIs s.heap k u
  | _, _, _, .int i, r => by obtain ⟨t, rfl⟩ := r; exact .int i t
  | _, _, _, .tup h rs, r => by
    obtain ⟨us, rv, ht, _⟩ := I.tuple h
    cases r
    exact .tup ht (VKeys.at I rs rv)
theorem VKeys.at {pins : List (Addr × Obj)} {σ : L2.St} {H : Hp} {s : Shared} (I : Inv X pins σ H s) : ∀ {ks : List Nk} {vs : List V} {us : List Value}, VKeys X.K H ks vs → Vals vs us → KAll s.heap ks us
  | _, _, _, .nil, .nil => .nil
  | _, _, _, .cons a b, .cons r t => .cons (VKey.at I a r) (VKeys.at I b t)
end
theorem refs_V : ∀ {ks : KL} {us : List Value}, Vals (ks.map fun p => V.ref p.1) us → us = ks.map fun p => Value.ref p.1
  | [], _, .nil => rfl
  | p :: ks, _, .cons r t => by
    cases r
    rw [refs_V t]
    rfl
def rSetN (K : PySem.W.Frag) (w : World) : List V → Hp → VK → Prop := fun xs H Q => ∃ (l : Addr) (ks : KL), xs = [V.ref l] ∧ SqL K H l (ks.map fun p => V.ref p.1) ∧ (∀ p ∈ ks, VKey K H p.2 (.ref p.1) ∧ p.2.depth ≤ 8) ∧ ks.length < 4096 ∧
  ∀ a L, H a = none → (∀ p ∈ L, p ∈ ks) → (∀ p ∈ ks, p.2 ∈ L.map (·.2)) → Q (.ref a) (upd H a (NSO w a L))
theorem cr_setN (hc : X.calm = true) (hu : X.A.units + 65 < cLine) : CallR X (.type "set") (rSetN X.K X.w) := by
  intro pins s σ H xs us Q I r h
  obtain ⟨l, ks, rfl, hl, hk, few, q⟩ := h
  rw [Vals.ref1 r]
  obtain ⟨its, rv, pl, _⟩ := I.list hl
  have hn : H s.heap.objs.size = none := I.hok.fresh (Nat.le_refl _)
  refine set_ok (P := X.prog) (w := X.w) ks (I.ok.hd hc) pl.isList (by simpa using refs_V rv) (fun p hp => ((hk p hp).1.at I rfl).isN (hk p hp).2) few (by omega) fun h' tk L es ep t R g up => ?_
  exact ⟨.ref s.heap.objs.size, upd H s.heap.objs.size (NSO X.w s.heap.objs.size L), I.laid (t' := tk) up (Nat.le_refl _) (nso_new R.bare), rfl, q _ L hn (fun p hp => List.mem_of_mem_take (g.of p hp)) fun p hp => g.all p (by rw [List.take_length]; exact hp)⟩
def rSortN (K : PySem.W.Frag) (w : World) : List V → Hp → VK → Prop := fun vs H Q => ∃ (a : Addr) (L : KL), vs = [V.ref a] ∧ H a = some (NSO w a L) ∧ (∀ p ∈ L, VKey K H p.2 (.ref p.1) ∧ p.2.depth ≤ 8) ∧ Good (L.map (·.2)) ∧
  ∀ (L' : KL) (p : Addr), L'.Perm L → (L'.map (·.2)).Nodup → L'.Pairwise (fun q r => leN q.2 r.2 = true) → H p = none → Q (.ref p) (upd H p (.lst (L'.map fun q => V.ref q.1)))
theorem cr_sortN (hc : X.calm = true) (hu : X.A.units + 65 < cLine) : CallR X (.builtin "sorted") (rSortN X.K X.w) := by
  intro pins s σ H vs us Q I r h
  obtain ⟨a, L, rfl, ha, hk, good, q⟩ := h
  have R0 : NS0 X.w s.heap a L := (I.hok a _ ha).1
  obtain ⟨es, ep, t, h1, h2, h3, h4, h5, h6, h7, h8⟩ := R0.ex
  have R : NS X.w s.heap a L es ep t := ⟨h1, h2, h3, h4, fun p hp => ((hk p hp).1.at I rfl).isN (hk p hp).2, h5, h6, h7, h8⟩
  rw [Vals.ref1 r]
  refine sorted_ok R (I.ok.hd hc) (by omega) (fun p hp => (hk p hp).1.at I rfl) good fun s' p out c L' k g o hp hg hout pm pw => ?_
  have hn : H p = none := I.hok.fresh hp
  have hfew : L'.length < 4096 := by rw [pm.length_eq]; exact h8
  have hv : Vals (L'.map fun q => V.ref q.1) out.toList := by
    rw [hout]
    clear hfew pm pw hout
    induction L' with
    | nil => exact .nil
    | cons q L' ih => exact .cons rfl ih
  refine ⟨.ref p, _, back_in (o := .lst (L'.map fun q => V.ref q.1)) I k g o hp ⟨by rw [List.length_map, sizeLine_eq]; omega, out.toList, c, hv, hg⟩, rfl, q L' p pm ((pm.map (·.2)).nodup_iff.mpr h4) pw hn⟩

/-! ### {elt for target in iter if ..}, elt a number: D the new set -/
def tSi (w : World) (wi : TI) (g : TG) (tt : TT) (te : TE) (vs : List Nat) : TE := fun σ H Q => wi σ H fun J H1 => ∀ D, H1 D = none → ∃ W : Nat → Nat → Hp → Prop, (∃ m, W 0 m (upd H1 D (SIO w D []))) ∧ ∀ i m H, W i m H →
  (J.stop i H ∧ Q (.ref D) H) ∨ (J.go i H ∧ ∃ Nx : Hp → Prop, (∀ H', Nx H' → ∃ m', m' < m ∧ W (i + 1) m' H') ∧ ∀ x H', J.yld i H x H' → g x (wipe σ vs) H' fun σ2 H2 => wipe σ2 vs = wipe σ vs ∧ tt σ2 H2 fun b H3 =>
    if b = true then te σ2 H3 fun y H4 => ∃ (k : Int) (l : List Int), y = .int k ∧ H4 D = some (SIO w D l) ∧ l.length + 1 < scanBound ∧ Nx (upd H4 D (SIO w D (ins l k))) else Nx H3)
theorem pe_si {elt tg iter : Expr} {ifs : List Expr} {scope : Scope} {own : List (PySem.Str × Nat)} {pos : Pos} {wi : TI} {g : TG} {tt : TT} {te : TE} (hc : X.calm = true) (hN : X.N.Nodup) (hi : PI X tg iter wi) (ok : BlkOk X.N X.env.scope scope own)
    (hg : ∀ (s : Shared) (H : Hp) (C : Addr) (cl : List (PySem.Str × Addr)) (fp : List Addr), PG (X.blk s H scope (compEnvC scope cl C X.env) fp) tg g) (ht : ∀ (s : Shared) (H : Hp) (C : Addr) (cl : List (PySem.Str × Addr)) (fp : List Addr), PTs (X.blk s H scope (compEnvC scope cl C X.env) fp) ifs tt)
    (he : ∀ (s : Shared) (H : Hp) (C : Addr) (cl : List (PySem.Str × Addr)) (fp : List Addr), PE (X.blk s H scope (compEnvC scope cl C X.env) fp) elt te) (hs : ∀ x, foldedSetIterable iter X.env x = pure x := by intro _; rfl) :
    PE X (.SetComp elt [⟨tg, iter, ifs, 0⟩] scope pos) (tSi X.w wi g tt te (own.map (·.2))) := by
  refine ⟨fun pins s σ H Q I h => ?_⟩
  rw [eval_SetComp]
  have free : ∀ y ∈ scope.names, y.2 = .free → ∃ c, X.env.cells.lookup y.1 = some c := fun y hy e => by
    rcases ok.free y hy e with k | k
    · exact I.ok.has _ (.inl k)
    · exact I.ok.has _ (.inr k)
  refine wpAny_comprehension_free (use := none) rfl hs (closure_ok free) ok.kind (fun y hy e => by rw [ok.uniq y hy, e])
    (thn (hi.run pins s σ H _ I h) fun xv s1 hx => thn hx fun itv s2 h2 => ?_)
  obtain ⟨it, fp, tn, J, H2, rfl, I2, T, st2, f2, q⟩ := h2
  refine newSet_ok (newEnv_comp ?_)
  generalize eD : s2.heap.objs.size = D
  have dn : H2 D = none := I2.hok.fresh (Nat.le_of_eq eD)
  obtain ⟨W, ⟨m0, w0⟩, turn⟩ := q D dn
  generalize e3 : ({ s2 with heap := s2.heap.push (newSet X.w) } : Shared) = s3
  have I3 : Inv X pins σ (upd H2 D (SIO X.w D [])) s3 := by
    rw [← e3]
    refine I2.laid (t' := s2.toks) (fun b o e => Heap.get?_push_of_some _ e) (Nat.le_of_eq eD) ?_
    rw [← eD]
    have fr := setR_fresh (h := s2.heap) X.w
    have e0 : (fun _ : Int => false) = fun k => decide (k ∈ ([] : List Int)) := by funext k; simp
    rw [e0] at fr
    exact sio_new fr
  have h3 : s3.heap = s2.heap.push (newSet X.w) := by rw [← e3]
  have f3 : ∀ b ∈ fp, FpOk X pins (upd H2 D (SIO X.w D [])) b ∧ b < s3.heap.objs.size := fun b hb => by
    obtain ⟨o, e, _⟩ := T.obj _ _ st2 b hb
    have lt := Heap.lt_size e
    refine ⟨⟨?_, (f2 b hb).2⟩, by rw [h3, Heap.size_push]; exact Nat.lt_succ_of_lt lt⟩
    rw [upd_ne (by rw [← eD]; exact Nat.ne_of_lt lt)]
    exact (f2 b hb).1
  have st3 : tn 0 s3.heap := T.keep _ _ _ st2 fun b _ o e => by rw [h3]; exact Heap.get?_push_of_some _ e
  have I4 := block_start I3 ok hN f3
  have pg := hg s3 (upd H2 D (SIO X.w D [])) s3.heap.objs.size (cellsFrom (s3.heap.objs.size + 1) scope.names (cloFrom X.env.cells scope.names [])) fp
  have pt := ht s3 (upd H2 D (SIO X.w D [])) s3.heap.objs.size (cellsFrom (s3.heap.objs.size + 1) scope.names (cloFrom X.env.cells scope.names [])) fp
  have pe := he s3 (upd H2 D (SIO X.w D [])) s3.heap.objs.size (cellsFrom (s3.heap.objs.size + 1) scope.names (cloFrom X.env.cells scope.names [])) fp
  show codeAny _ _ (.compStart (.SetComp elt [⟨tg, iter, ifs, 0⟩] scope pos) 0 (.ref it) (.ref D) (compEnvC scope (cellsFrom (s3.heap.objs.size + 1) scope.names (cloFrom X.env.cells scope.names [])) s3.heap.objs.size X.env)) (compPost (model X.prog X.w) X.A X.xe none (EP X pins σ Q) (.ref D) s3.heap.objs.size) { s3 with heap := pushCells (s3.heap.push { cls := .type "dict", data := .dict #[] }) scope.names }
  have nfp : ∀ b ∈ fp, (upd H2 D (SIO X.w D [])) b = none := fun b hb => (f3 b hb).1.1
  generalize ec : compEnvC scope (cellsFrom (s3.heap.objs.size + 1) scope.names (cloFrom X.env.cells scope.names [])) s3.heap.objs.size X.env = ce at I4 pg pt pe ⊢
  have loc : ce.locals = s3.heap.objs.size := by subst ec; rfl
  generalize eH : upd H2 D (SIO X.w D []) = H3 at I3 I4 pg pt pe w0 nfp f3
  generalize e4 : ({ s3 with heap := pushCells (s3.heap.push { cls := .type "dict", data := .dict #[] }) scope.names } : Shared) = s4 at I4 ⊢
  have st4 : tn 0 s4.heap := T.keep _ _ _ st3 fun b _ o e => by rw [← e4]; exact pushCells_keeps _ _ _ _ (Heap.get?_push_of_some _ e)
  have stat : ∀ {σ' : L2.St} {H' : Hp} {s' : Shared}, Inv (X.blk s3 H3 scope ce fp) [] σ' H' s' → (∀ b ∈ fp, H' b = none) → ∀ b ∈ fp, FpOk (X.blk s3 H3 scope ce fp) [] H' b := fun {σ' H' s'} I' hn b hb =>
    ⟨hn b hb, (I'.ok.exf b hb).1, I'.ok.exfs b hb, .inl hb, fun x c e => (I'.ok.exf b hb).2 x c e, fun p hp => absurd (show p ∈ ([] : List (Addr × Obj)) ++ [] from hp) (by simp)⟩
  have loop : codeAny (model X.prog X.w) X.A (.compLoop (.SetComp elt [⟨tg, iter, ifs, 0⟩] scope pos) 0 (.ref it) (.ref D) ce) (compPost (model X.prog X.w) X.A X.xe none (EP X pins σ Q) (.ref D) s3.heap.objs.size) s4 := by
    refine compLoopS_any (fun n s' => ∃ i H', Inv (X.blk s3 H3 scope ce fp) [] (wipe σ (own.map (·.2))) H' s' ∧ tn i s'.heap ∧ (∀ b ∈ fp, H' b = none) ∧ W i n H') ?_ m0 ⟨0, H3, I4, st4, nfp, w0⟩
    rintro n s5 ⟨i, H5, I5, st5, n5, w5⟩
    rcases turn i n H5 w5 with ⟨stop, fin⟩ | ⟨go, Nx, hNx, step⟩
    · refine thnF (T.done (X.blk s3 H3 scope ce fp) rfl rfl rfl hc i [] s5 _ H5 (fun _ _ => False) I5 (stat I5 n5) st5 stop) fun r s6 ⟨hr, I6⟩ => ?_
      subst hr
      have I7 : Inv X pins σ H5 s6 := I3.call' (ch := fp) I6.os I6.base I6.hok I6.bare fun b hb => ⟨(f3 b hb).1.2.2.2.1, (f3 b hb).1.2.1, (f3 b hb).1.2.2.2.2.1, (f3 b hb).1.2.2.2.2.2⟩
      have nC : H5 s3.heap.objs.size = none := by
        have z : H5 ce.locals = none := I6.free
        rwa [loc] at z
      obtain ⟨m, hn, _⟩ := I6.loc
      have hn : s6.heap.Ns ce.locals m := hn
      rw [loc] at hn
      refine ⟨m, hn, fun h'' sb => ?_⟩
      obtain ⟨a0, a1, a2, a3, a4, a5⟩ := I3.fpOk (Nat.le_refl _) nC
      exact ⟨.ref D, H5, I7.turned (t' := s6.toks) (fun b o hb e => (sb.2 b hb).trans e) a0 a1 a3 a4 a5, rfl, fin⟩
    · refine thnF (T.item (X.blk s3 H3 scope ce fp) rfl rfl rfl hc i [] s5 _ H5 (fun _ _ => False) I5 (stat I5 n5) st5 go) fun r s6 ⟨u, hr, h6⟩ => ?_
      subst hr
      refine thnF h6 fun _ s7 ⟨x, H7, I7, r7, y7, st7, n7⟩ => ?_
      have I7' := I7.pinned (stat I7 n7) (T.obj _ _ st7)
      refine thnF (pg.run _ s7 _ H7 x u _ I7' r7 (step x H7 y7)) fun _ s8 ⟨σ8, H8, I8, hw8, q8⟩ => ?_
      refine thnF (pt.run _ s8 σ8 H8 _ I8 q8) fun b s9 ⟨H9, I9, q9⟩ => ?_
      have fin : ∀ {s' : Shared} {H' : Hp}, Inv (X.blk s3 H3 scope ce fp) ([] ++ pinsAt fp s7.heap) σ8 H' s' → Nx H' → ∃ m, m < n ∧ ∃ i H', Inv (X.blk s3 H3 scope ce fp) [] (wipe σ (own.map (·.2))) H' s' ∧ tn i s'.heap ∧ (∀ b ∈ fp, H' b = none) ∧ W i m H' := fun {s' H'} I' nx => by
        obtain ⟨m', hm, w'⟩ := hNx H' nx
        have pin : ∀ b ∈ fp, ∀ o, s7.heap.get? b = some o → s'.heap.get? b = some o ∧ H' b = none := fun b hb o e =>
          let z := I'.pin (b, o) (List.mem_append_right _ (List.mem_append_right _ (mem_pinsAt hb e)))
          ⟨z.1, z.2.1⟩
        have len : (wipe σ (own.map (·.2))).length = σ8.length := by rw [← hw8, wipe_length]
        refine ⟨m', hm, i + 1, H', (I'.unpinned (pins := [])).weak len (fun j v e => ?_), T.keep _ _ _ st7 fun b hb o e => (pin b hb o e).1, fun b hb => ?_, w'⟩
        · rw [← hw8] at e
          exact (wipe_some e).1
        · obtain ⟨o, e, _⟩ := T.obj _ _ st7 b hb
          exact (pin b hb o e).2
      cases b with
      | false =>
        simp only [Bool.false_eq_true, if_false] at q9 ⊢
        exact fin I9 q9
      | true =>
        simp only [if_true] at q9 ⊢
        refine thnF (pe.run _ s9 σ8 H9 _ I9 q9) fun z s10 ⟨yv, H10, I10, r10, k, l, ey, hD10, room, nx⟩ => ?_
        subst ey
        obtain ⟨tk, ez⟩ := (show ∃ t, z = Value.int k t from r10)
        subst ez
        exact addI_ok (X := X.blk s3 H3 scope ce fp) I10 hD10 room fun s11 I11 => fin I11 nx
  exact codeAny_compStart_set loop (T.self X.A 0 _ _ _ st4 loop)
end
end NSet

set_option Elab.async false
set_option linter.all false
set_option maxRecDepth 100000
set_option maxHeartbeats 4000000
/-! mirrors: sorted({..}) of numbers, sorted(set(..)) of keys -/
namespace Mx
open PySem PySem.Spec PyProof.Rows L2 NSet
def sortI (l : List Int) : List Int := l.mergeSort fun a b => decide (a ≤ b)
theorem sortI_pw (l : List Int) : (sortI l).Pairwise (· ≤ ·) := by
  have := List.pairwise_mergeSort (le := fun a b : Int => decide (a ≤ b)) (fun a b c h1 h2 => by simp only [decide_eq_true_eq] at *; omega) (fun a b => by simp only [Bool.or_eq_true, decide_eq_true_eq]; omega) l
  exact this.imp fun h => by simpa using h
theorem sortI_perm (l : List Int) : (sortI l).Perm l := List.mergeSort_perm _ _
theorem lt_unique {ns l : List Int} (h : ns.Pairwise (· < ·)) (m : ∀ k, k ∈ ns ↔ k ∈ l) (nd : l.Nodup) : ns = sortI l := by
  have n1 : ns.Nodup := h.imp fun z => Int.ne_of_lt z
  have pm : ns.Perm (sortI l) := ((List.perm_ext_iff_of_nodup n1 nd).mpr m).trans (sortI_perm l).symm
  exact pm.eq_of_pairwise (fun x y _ _ h1 h2 => Int.le_antisymm h1 h2) (h.imp Int.le_of_lt) (sortI_pw l)
theorem ins_nodup {l : List Int} (h : l.Nodup) (k : Int) : (ins l k).Nodup := by
  unfold ins
  by_cases m : k ∈ l
  · rw [if_pos m]; exact h
  · rw [if_neg m]
    refine List.nodup_append.mpr ⟨h, by simp, ?_⟩
    intro a ha b hb e
    rw [List.mem_singleton] at hb
    subst hb; subst e
    exact m ha

def compS (vs : List Nat) (t : TgM) (tt : ST Bool) (me : ST RV) : List D → List Int → Sg → R (List Int)
  | [], acc, g => .ok acc g
  | x :: xs, acc, g => match t x { g with env := wipeE g.env vs } with
    | none => .stuck
    | some g => match tt g with
      | .ok false g => compS vs t tt me xs acc g
      | .ok true g => match me g with
        | .ok (.d (.int k)) g => if acc.length + 1 < scanBound then compS vs t tt me xs (ins acc k) g else .stuck
        | _ => .stuck
      | _ => .stuck
def endS (g0 : Sg) (vs : List Nat) : R (List Int) → R RV
  | .ok l g => if l.length < 4096 then .ok (.tmp (.lst ((sortI l).map D.int))) { g with env := backE g0.env g.env vs } else .stuck
  | _ => .stuck
/-- sorted({..}) -/
def mSortC (mi : ST (List D)) (vs : List Nat) (t : TgM) (tt : ST Bool) (me : ST RV) : ST RV := bnd mi fun xs g => endS g vs (compS vs t tt me xs [] g)
section
variable {J : It} {n : Nat} {G : Hp → Prop} {Y : Nat → Hp → V → Hp → Prop}
theorem si_it {w : World} (wk : Walk J n G Y) {g : TG} {tt : TT} {te : TE} {vs : List Nat} {σ : L2.St} {H1 : Hp} {D : Addr} {Qd : Hp → Prop} (I : Nat → Hp → Prop) (h0 : I 0 (upd H1 D (SIO w D []))) (hG : ∀ i H, i ≤ n → I i H → G H)
    (hs : ∀ i x H H', i < n → I i H → Y i H x H' → g x (wipe σ vs) H' fun σ2 H2 => wipe σ2 vs = wipe σ vs ∧ tt σ2 H2 fun b H3 =>
      if b = true then te σ2 H3 fun y H4 => ∃ (k : Int) (l : List Int), y = .int k ∧ H4 D = some (SIO w D l) ∧ l.length + 1 < scanBound ∧ I (i + 1) (upd H4 D (SIO w D (ins l k))) else I (i + 1) H3) (hd : ∀ H, I n H → Qd H) :
    ∃ W : Nat → Nat → Hp → Prop, (∃ m, W 0 m (upd H1 D (SIO w D []))) ∧ ∀ i m H, W i m H →
      (J.stop i H ∧ Qd H) ∨ (J.go i H ∧ ∃ Nx : Hp → Prop, (∀ H', Nx H' → ∃ m', m' < m ∧ W (i + 1) m' H') ∧ ∀ x H', J.yld i H x H' → g x (wipe σ vs) H' fun σ2 H2 => wipe σ2 vs = wipe σ vs ∧ tt σ2 H2 fun b H3 =>
        if b = true then te σ2 H3 fun y H4 => ∃ (k : Int) (l : List Int), y = .int k ∧ H4 D = some (SIO w D l) ∧ l.length + 1 < scanBound ∧ Nx (upd H4 D (SIO w D (ins l k))) else Nx H3) := by
  refine ⟨fun i m H => m + i = n ∧ I i H, ⟨n, rfl, h0⟩, ?_⟩
  rintro i m H ⟨e, p⟩
  have q := hG i H (by omega) p
  rcases Nat.eq_zero_or_pos m with z | z
  · subst z
    have : i = n := by omega
    subst this
    exact .inl ⟨wk.stops H q, hd H p⟩
  · have lt : i < n := by omega
    exact .inr ⟨wk.goes i H lt q, I (i + 1), fun H' p' => ⟨m - 1, by omega, by omega, p'⟩, fun x H' y => hs i x H H' lt p (wk.yields i H x H' lt q y)⟩
end
section
variable {X : Cx} {N : En} {xm : XM} {W : WX} {tg iter : Expr}
theorem compS_ok {w : World} {mi : ST (List D)} {vs ts : List Nat} {gt : TG} {t : TgM} {tt : ST Bool} {me : ST RV} (c : MC X N W) (ht : ∀ N' : En, N'.n = N.n → N'.K = N.K → TgF N' ts gt t) (hts : ∀ i ∈ ts, i ∈ vs) {σ : L2.St} {H : Hp} {Q : VK} (h : lift N xm W (mSortC mi vs t tt me) σ H Q) :
    tSi w (liftI N xm W mi) gt (anyT N xm tt) (anyE N xm me) vs σ H (fun v H1 => rSortI w [v] H1 Q) := by
  obtain ⟨g, fz, is, sr, h⟩ := h
  refine ⟨g, fz, is, sr, ?_⟩
  simp only [mSortC, bnd] at h
  cases e : mi g with
  | stuck => rw [e] at h; exact h
  | exc x g' => rw [e] at h; exact h
  | ok xs g1 =>
    rw [e, bind_ok] at h
    intro J H1 fz1 is1 l1 sr1 ⟨G, Y, wk, hG, hY⟩
    have h := postE.later l1 h
    intro P hP
    have fP := sr1.free hP
    have lP : Le fz1 H1 is1 fz1 (upd H1 P (SIO w P [])) is1 := Le.alloc fP.own.nf
    have sr1' := sr1.alter fP (SIO w P [])
    have h := h.later lP
    refine si_it wk (fun i H => ∃ g fz is acc, SR N (L2.wipe σ vs) H { g with env := wipeE g.env vs } fz is ∧ Le fz1 H1 is1 fz H is ∧ Free N (L2.wipe σ vs) { g with env := wipeE g.env vs } fz is P ∧ H P = some (SIO w P acc) ∧ acc.Nodup ∧
      postE N xm W σ H fz is Q (endS g1 vs (compS vs t tt me (xs.drop i) acc g))) ?_ (fun i H _ ⟨g, fz, is, acc, _, l, _⟩ => hG fz H is l) ?_ ?_
    · refine ⟨g1, fz1, is1, [], sr1'.wipe vs, lP, ?_, upd_same, List.nodup_nil, h⟩
      refine ⟨fP.own, fun i ⟨c, hc⟩ z => ?_⟩
      obtain ⟨h1, h2⟩ := wipeE_some hc
      rw [wipe_keep h2] at z
      exact fP.ns i ⟨c, h1⟩ z
    · rintro i v H2 H2' hlt ⟨g2, fz2, is2, acc, sr2, l2, f2, hP2, nd, h2⟩ y
      have hx : xs[i]? = some xs[i] := by simp [hlt]
      obtain ⟨fz3, gr, rep⟩ := hY i xs[i] fz2 H2 is2 v H2' hx l2 y
      have l3 := gr.le sr2
      have sr3 := gr.sr sr2
      have hP3 : H2' P = some (SIO w P acc) := by
        cases gr with
        | same => exact hP2
        | new p o hp => rw [upd_ne (fun z => by subst z; rw [hP2] at hp; cases hp)]; exact hP2
      have f3 : Free N (L2.wipe σ vs) { g2 with env := wipeE g2.env vs } fz3 is2 P := by
        refine ⟨⟨fun z => ?_, f2.own.ni, f2.own.new⟩, f2.ns⟩
        cases gr with
        | same => exact f2.own.nf z
        | new p o hp =>
          rcases z with z | z
          · exact f2.own.nf z
          · subst z; rw [hP2] at hp; cases hp
      have nz : ¬ N.fz P := fun z => f3.own.nf (sr3.fz0 P z)
      have ni : P ∉ N.is := fun z => f3.own.ni (sr3.isx.subset z)
      have nn := f3.own.new
      have sg := sr3.guard f3 hP3
      rw [List.drop_eq_getElem_cons hlt] at h2
      simp only [compS] at h2
      cases e2 : t xs[i] { g2 with env := wipeE g2.env vs } with
      | none => rw [e2] at h2; exact h2.elim
      | some g3 =>
        rw [e2] at h2
        dsimp only at h2
        have h2 := h2.later l3
        refine ht (N.with P (SIO w P acc)) rfl rfl (L2.wipe σ vs) H2' _ fz3 is2 v xs[i] g3 _ sg rep e2 fun σ3 sr3' hw => ?_
        have hw := hw vs hts
        have hww : ∀ vs, L2.wipe (L2.wipe σ vs) vs = L2.wipe σ vs := fun vs => by
          apply List.ext_getElem?
          intro j
          rw [wipe_get, wipe_get, wipe_length]
          by_cases hj : j ∈ vs ∧ j < σ.length
          · rw [if_pos hj, if_pos hj]
          · rw [if_neg hj, if_neg hj]
        rw [hww] at hw
        refine ⟨hw, N.with P (SIO w P acc), rfl, rfl, g3, fz3, is2, sr3', ?_⟩
        have fin : ∀ {g4 : Sg} {H4 : Hp} {fz4 : Addr → Prop} {is4 : List Addr} {acc' : List Int}, Le fz3 H2' is2 fz4 H4 is4 → SR (N.with P (SIO w P acc)) σ3 H4 g4 fz4 is4 → acc'.Nodup →
            postE N xm W σ H2' fz3 is2 Q (endS g1 vs (compS vs t tt me (xs.drop (i + 1)) acc' g4)) → ∃ g fz is acc, SR N (L2.wipe σ vs) (upd H4 P (SIO w P acc')) { g with env := wipeE g.env vs } fz is ∧ Le fz1 H1 is1 fz (upd H4 P (SIO w P acc')) is ∧ Free N (L2.wipe σ vs) { g with env := wipeE g.env vs } fz is P ∧ (upd H4 P (SIO w P acc')) P = some (SIO w P acc) ∧ acc.Nodup ∧
              postE N xm W σ (upd H4 P (SIO w P acc')) fz is Q (endS g1 vs (compS vs t tt me (xs.drop (i + 1)) acc g)) := by
          intro g4 H4 fz4 is4 acc' l4 sr4 nd4 h4
          obtain ⟨s5, f5, _⟩ := (sr4.wipe vs).unguard nz ni nn
          rw [hw] at s5 f5
          have la : Le fz4 H4 is4 fz4 (upd H4 P (SIO w P acc')) is4 := Le.alloc f5.own.nf
          exact ⟨g4, fz4, is4, acc', s5.alter f5 _, ((l2.trans l3).trans l4).trans la, f5, upd_same, nd4, (h4.later l4).later la⟩
        cases e3 : tt g3 with
        | stuck => rw [e3] at h2; exact h2.elim
        | exc x g' => rw [e3] at h2; exact h2.elim
        | ok b g4 =>
          rw [e3] at h2
          intro H4 fz4 is4 l4 sr4
          cases b with
          | false =>
            refine iteF ?_
            obtain ⟨g5, fz5, is5, acc5, q1, q2, q3, q4, q5, q6⟩ := fin l4 sr4 nd h2
            have hP4 : H4 P = some (SIO w P acc) := ((sr4.frame P _ upd_same ni).resolve_right fun z => nz z.1)
            have : upd H4 P (SIO w P acc) = H4 := by
              funext b
              by_cases e : b = P
              · subst e; rw [upd_same, hP4]
              · rw [upd_ne e]
            rw [this] at q1 q2 q4 q6
            exact ⟨g5, fz5, is5, acc5, q1, q2, q3, q4, q5, q6⟩
          | true =>
            refine iteT ⟨N.with P (SIO w P acc), rfl, rfl, g4, fz4, is4, sr4, ?_⟩
            dsimp only at h2
            cases e4 : me g4 with
            | stuck => rw [e4] at h2; exact h2.elim
            | exc x g' => rw [e4] at h2; exact h2.elim
            | ok r g5 =>
              rw [e4] at h2
              intro v5 H5 fz5 is5 l5 sr5 rep5
              split at h2
              · rename_i k g6 e6
                cases e6
                by_cases hz : acc.length + 1 < scanBound
                · rw [if_pos hz] at h2
                  have hP5 : H5 P = some (SIO w P acc) := ((sr5.frame P _ upd_same ni).resolve_right fun z => nz z.1)
                  cases (show Rep _ _ _ _ v5 (.int k) from rep5)
                  exact ⟨k, acc, rfl, hP5, hz, fin (l4.trans l5) sr5 (ins_nodup nd k) h2⟩
                · rw [if_neg hz] at h2; exact h2.elim
              · exact h2.elim
    · rintro H2 ⟨g2, fz2, is2, acc, sr2, l2, f2, hP2, nd, h2⟩
      rw [List.drop_length] at h2
      simp only [compS, endS] at h2
      by_cases few : acc.length < 4096
      · rw [if_pos few] at h2
        have sb := SR.back sr1 l2 sr2
        refine ⟨P, acc, rfl, hP2, few, fun ns p pw mem hp => ?_⟩
        rw [lt_unique pw mem nd]
        have f := sb.free hp
        exact h2 (.ref p) _ fz2 is2 (Le.alloc f.own.nf) (sb.alter f _) ⟨p, rfl, f.own, ⟨_, upd_same, rep_ints _⟩, f.ns⟩
      · rw [if_neg few] at h2; exact h2.elim
theorem e_sortC {elt : Expr} {ifs : List Expr} {scope : Scope} {own : List (Str × Nat)} {p pos pos2 : Pos} {mi : ST (List D)} {ts : List Nat} {gt : TG} {t : TgM} {tt : ST Bool} {me : ST RV} (c : MC X N W) (hg1 : Gl X "sorted") (hm1 : X.mg "sorted" = none)
    (hi : PI X tg iter (liftI N xm W mi)) (ok : BlkOk X.N X.env.scope scope own)
    (hg : ∀ (s : Shared) (H : Hp) (C : Addr) (cl : List (Str × Addr)) (fp : List Addr), PG (X.blk s H scope (compEnvC scope cl C X.env) fp) tg gt) (ht : ∀ N' : En, N'.n = N.n → N'.K = N.K → TgF N' ts gt t) (hts : ∀ i ∈ ts, i ∈ own.map (·.2))
    (htt : ∀ (s : Shared) (H : Hp) (C : Addr) (cl : List (Str × Addr)) (fp : List Addr) (N' : En), N'.n = N.n → MC (X.blk s H scope (compEnvC scope cl C X.env) fp) N' WF → PTs (X.blk s H scope (compEnvC scope cl C X.env) fp) ifs (liftB N' xm WF tt))
    (he : ∀ (s : Shared) (H : Hp) (C : Addr) (cl : List (Str × Addr)) (fp : List Addr) (N' : En), N'.n = N.n → MC (X.blk s H scope (compEnvC scope cl C X.env) fp) N' WF → PE (X.blk s H scope (compEnvC scope cl C X.env) fp) elt (lift N' xm WF me)) (hs : ∀ x, foldedSetIterable iter X.env x = pure x := by intro _; rfl)
    (hs2 : starEach [.SetComp elt [⟨tg, iter, ifs, 0⟩] scope pos] X.env = [(false, eval (.SetComp elt [⟨tg, iter, ifs, 0⟩] scope pos) X.env)] := by rfl) :
    PE X (.Call (.Name "sorted" p) [.SetComp elt [⟨tg, iter, ifs, 0⟩] scope pos] [] pos2) (lift N xm W (mSortC mi (own.map (·.2)) t tt me)) :=
  imp (pe_callB (cr_sortI c.calm) hg1 hm1 bo_sorted (pa_cons (pe_si c.calm c.nd hi ok hg (fun s H C cl fp => any_t fun N' h1 h2 => htt s H C cl fp N' h2 (c.blk h1)) (fun s H C cl fp => any_e fun N' h1 h2 => he s H C cl fp N' h2 (c.blk h1)) hs) pa_nil hs2)) fun σ H Q h => compS_ok c ht hts h

end
/-! ### sorted(set(list of keys)) -/
mutual
def dOf : Nk → D
  | .num i => .int i
  | .tup ks => .tup (dOfs ks)
  | _ => .non
def dOfs : List Nk → List D
  | [] => []
  | k :: ks => dOf k :: dOfs ks
end
theorem nkOfs_cons {x : D} {xs : List D} {ks : List Nk} (h : nkOfs (x :: xs) = some ks) : ∃ k r, nkOf x = some k ∧ nkOfs xs = some r ∧ ks = k :: r := by
  simp only [nkOfs] at h
  split at h
  · rename_i a b h1 h2
    cases h
    exact ⟨_, _, h1, h2, rfl⟩
  · cases h
mutual
theorem nkOf_eq : ∀ (d : D) (k : Nk), nkOf d = some k → d = dOf k
  | .int i, k, h => by simp only [nkOf, Option.some.injEq] at h; subst h; rfl
  | .tup xs, k, h => by
    simp only [nkOf, Option.map_eq_some_iff] at h
    obtain ⟨ks, h1, rfl⟩ := h
    rw [nkOfs_eq xs ks h1]
    rfl
  | .non, _, h => by simp [nkOf] at h
  | .bl _, _, h => by simp [nkOf] at h
  | .str _, _, h => by simp [nkOf] at h
  | .ty _, _, h => by simp [nkOf] at h
  | .fn _, _, h => by simp [nkOf] at h
  | .obj _, _, h => by simp [nkOf] at h
  | .lst _, _, h => by simp [nkOf] at h
  | .dct _, _, h => by simp [nkOf] at h
  | .scr _, _, h => by simp [nkOf] at h
  | .tdc _, _, h => by simp [nkOf] at h
theorem nkOfs_eq : ∀ (ds : List D) (ks : List Nk), nkOfs ds = some ks → ds = dOfs ks
  | [], ks, h => by simp only [nkOfs, Option.some.injEq] at h; subst h; rfl
  | x :: xs, ks, h => by
    obtain ⟨k, r, h1, h2, rfl⟩ := nkOfs_cons h
    rw [nkOf_eq x k h1, nkOfs_eq xs r h2]
    rfl
end
mutual
theorem vkey_of {K : PySem.W.Frag} {is : List Addr} {fz : Addr → Prop} {H : Hp} : ∀ (d : D) (k : Nk) (v : V), nkOf d = some k → Rep K is fz H v d → VKey K H k v
  | .int i, k, v, h, r => by
    simp only [nkOf, Option.some.injEq] at h
    subst h
    cases r
    exact .int i
  | .tup xs, k, v, h, r => by
    simp only [nkOf, Option.map_eq_some_iff] at h
    obtain ⟨ks, h1, rfl⟩ := h
    cases r with
    | tup ha ra => exact .tup (sqT_of ha) (vkeys_of xs ks _ h1 ra)
  | .non, _, _, h, _ => by simp [nkOf] at h
  | .bl _, _, _, h, _ => by simp [nkOf] at h
  | .str _, _, _, h, _ => by simp [nkOf] at h
  | .ty _, _, _, h, _ => by simp [nkOf] at h
  | .fn _, _, _, h, _ => by simp [nkOf] at h
  | .obj _, _, _, h, _ => by simp [nkOf] at h
  | .lst _, _, _, h, _ => by simp [nkOf] at h
  | .dct _, _, _, h, _ => by simp [nkOf] at h
  | .scr _, _, _, h, _ => by simp [nkOf] at h
  | .tdc _, _, _, h, _ => by simp [nkOf] at h
theorem vkeys_of {K : PySem.W.Frag} {is : List Addr} {fz : Addr → Prop} {H : Hp} : ∀ (ds : List D) (ks : List Nk) (vs : List V), nkOfs ds = some ks → RepA K is fz H vs ds → VKeys K H ks vs
  | [], ks, vs, h, r => by
    simp only [nkOfs, Option.some.injEq] at h
    subst h
    cases r
    exact .nil
  | x :: xs, ks, vs, h, r => by
    obtain ⟨k, q, h1, h2, rfl⟩ := nkOfs_cons h
    cases r with
    | cons r1 r2 => exact .cons (vkey_of x k _ h1 r1) (vkeys_of xs q _ h2 r2)
end
def dedupN : List Nk → List Nk
  | [] => []
  | k :: ks => if k ∈ ks then dedupN ks else k :: dedupN ks
def sortN (l : List Nk) : List Nk := (dedupN l).mergeSort leN
theorem mem_dedup {k : Nk} : ∀ {l : List Nk}, k ∈ dedupN l ↔ k ∈ l
  | [] => Iff.rfl
  | x :: l => by
    unfold dedupN
    by_cases h : x ∈ l
    · rw [if_pos h, mem_dedup]
      constructor
      · exact List.mem_cons_of_mem _
      · intro q
        rcases List.mem_cons.mp q with e | q
        · rw [e]; exact h
        · exact q
    · rw [if_neg h]
      simp [mem_dedup]
theorem nodup_dedup : ∀ l : List Nk, (dedupN l).Nodup
  | [] => List.nodup_nil
  | x :: l => by
    unfold dedupN
    by_cases h : x ∈ l
    · rw [if_pos h]; exact nodup_dedup l
    · rw [if_neg h]
      exact List.nodup_cons.mpr ⟨fun q => h (mem_dedup.mp q), nodup_dedup l⟩
theorem sortN_pw (l : List Nk) : (sortN l).Pairwise (fun a b => leN a b = true) := List.pairwise_mergeSort leN_trans leN_total _
theorem mem_sortN {k : Nk} {l : List Nk} : k ∈ sortN l ↔ k ∈ l := (List.mergeSort_perm _ _).mem_iff.trans mem_dedup
theorem sortN_unique {ms l : List Nk} (good : ∀ k ∈ l, ∀ k' ∈ l, likeN k k' = true) (nd : ms.Nodup) (pw : ms.Pairwise fun a b => leN a b = true) (m : ∀ k, k ∈ ms ↔ k ∈ l) : ms = sortN l := by
  have pm : ms.Perm (sortN l) := ((List.perm_ext_iff_of_nodup nd (nodup_dedup l)).mpr fun k => (m k).trans mem_dedup.symm).trans (List.mergeSort_perm _ _).symm
  exact pm.eq_of_pairwise (fun a b ha hb h1 h2 => leN_anti (good a ((m a).mp ha) b (mem_sortN.mp hb)) h1 h2) pw (sortN_pw l)
def isTupNE : Nk → Bool
  | .tup (_ :: _) => true
  | _ => false
def goodB (ks : List Nk) : Bool := ks.all isTupNE && ks.all (fun k => ks.all fun k' => likeN k k')
theorem good_of {ks : List Nk} (h : goodB ks = true) : Good ks := by
  simp only [goodB, Bool.and_eq_true, List.all_eq_true] at h
  refine ⟨fun k hk => ?_, fun k hk k' hk' => h.2 k hk k' hk'⟩
  have := h.1 k hk
  unfold isTupNE at this
  split at this
  · exact ⟨_, _, rfl⟩
  · cases this
theorem Good.sub {ks ms : List Nk} (g : Good ks) (h : ∀ k ∈ ms, k ∈ ks) : Good ms := ⟨fun k hk => g.1 k (h k hk), fun k hk k' hk' => g.2 k (h k hk) k' (h k' hk')⟩
def sortSetN (xs : List D) : Option (List D) := match nkOfs xs with
  | some ks => if ks.length < 4096 ∧ goodB ks = true ∧ (ks.all fun k => decide (k.depth ≤ 8)) = true then some ((sortN ks).map dOf) else none
  | none => none
theorem refs_of {K : PySem.W.Frag} {is : List Addr} {fz : Addr → Prop} {H : Hp} : ∀ {vs : List V} {xs : List D} {ks : List Nk}, RepA K is fz H vs xs → nkOfs xs = some ks → ks.all isTupNE = true →
    ∃ L : KL, vs = L.map (fun p => V.ref p.1) ∧ L.map (·.2) = ks ∧ ∀ p ∈ L, VKey K H p.2 (.ref p.1) ∧ Rep K is fz H (.ref p.1) (dOf p.2)
  | _, [], ks, .nil, h, _ => by
    simp only [nkOfs, Option.some.injEq] at h
    subst h
    exact ⟨[], rfl, rfl, fun p h => by cases h⟩
  | _, x :: xs, ks, .cons r t, h, ne => by
    obtain ⟨k, q, h1, h2, rfl⟩ := nkOfs_cons h
    simp only [List.all_cons, Bool.and_eq_true] at ne
    obtain ⟨L, rfl, e2, h3⟩ := refs_of t h2 ne.2
    have vk := vkey_of x k _ h1 r
    have ed := nkOf_eq x k h1
    subst ed
    have n1 := ne.1
    unfold isTupNE at n1
    split at n1
    · cases vk with
      | tup ha ra =>
        rename_i a vs
        refine ⟨(a, _) :: L, rfl, by rw [List.map_cons, e2], fun p hp => ?_⟩
        rcases List.mem_cons.mp hp with z | z
        · rw [z]; exact ⟨.tup ha ra, r⟩
        · exact h3 p z
    · cases n1
theorem nkOf_dOf : ∀ (ks : List Nk) (k : Nk) {xs : List D}, nkOfs xs = some ks → k ∈ ks → nkOf (dOf k) = some k
  | [], k, xs, _, m => by cases m
  | k0 :: ks, k, xs, h, m => by
    cases xs with
    | nil => simp [nkOfs] at h
    | cons x xs =>
      obtain ⟨a, q, h1, h2, e⟩ := nkOfs_cons h
      cases e
      rcases List.mem_cons.mp m with z | z
      · subst z
        rw [← nkOf_eq x k h1]
        exact h1
      · exact nkOf_dOf ks k h2 z
end Mx

set_option Elab.async false
set_option linter.all false
set_option maxRecDepth 100000
set_option maxHeartbeats 2000000
/-! dicts whose keys are nested tuples of numbers: made, read, changed -/
namespace NSet
open PySem PySem.Spec PyProof.Rows L2
abbrev DL : Type := List (Nk × Addr × V)
def toX (L : DL) (us : List Value) : List (Nk × Addr × Value) := (L.zip us).map fun x => (x.1.1, x.1.2.1, x.2)
def findN (k : Nk) : DL → Option V
  | [] => none
  | p :: L => if p.1 = k then some p.2.2 else findN k L
def anyN (k : Nk) (L : DL) : Bool := L.any fun p => decide (p.1 = k)
def putN (k : Nk) (b : Addr) (v : V) (L : DL) : DL := if anyN k L = true then L.map (fun p => if p.1 = k then (p.1, p.2.1, v) else p) else L ++ [(k, b, v)]
theorem vals_len {L : DL} {us : List Value} (r : Vals (L.map (·.2.2)) us) : us.length = L.length := by
  have := r.length
  simpa using this.symm
theorem toX_keys : ∀ {L : DL} {us : List Value}, us.length = L.length → (toX L us).map (·.1) = L.map (·.1)
  | [], [], _ => rfl
  | p :: L, t :: us, h => by
    have := toX_keys (L := L) (us := us) (by simpa using h)
    simp only [toX, List.zip_cons_cons, List.map_cons] at this ⊢
    rw [this]
  | [], _ :: _, h => by simp at h
  | _ :: _, [], h => by simp at h
theorem toX_mem {L : DL} {us : List Value} {x : Nk × Addr × Value} (h : x ∈ toX L us) : ∃ p ∈ L, x.1 = p.1 ∧ x.2.1 = p.2.1 := by
  obtain ⟨z, hz, rfl⟩ := List.mem_map.mp h
  exact ⟨z.1, (List.of_mem_zip hz).1, rfl, rfl⟩
theorem toX_ent {P : Program} {w : World} (L : DL) (us : List Value) (nm : ∀ p ∈ L, num p.1 = true) : (toX L us).map (entryOfKey (nestedKind P w)) = (L.zip us).map ent0 := by
  rw [toX, List.map_map]
  refine List.map_congr_left fun x hx => ?_
  show (⟨x.1.1.hash w, _, _⟩ : DictEntry) = _
  rw [hash_num w _ (nm _ (List.of_mem_zip hx).1)]
  rfl
theorem toX_snoc {L : DL} {us : List Value} (h : us.length = L.length) (k : Nk) (b : Addr) (v : V) (u : Value) : toX (L ++ [(k, b, v)]) (us ++ [u]) = toX L us ++ [(k, b, u)] := by
  unfold toX
  rw [List.zip_append h.symm]
  simp
theorem TD.full {P : Program} {w : World} {h : Heap} {a : Addr} {L : DL} (R : TD h a L) (ki : ∀ p ∈ L, KIs h p.1 (.ref p.2.1)) : ∃ us : List Value, Vals (L.map (·.2.2)) us ∧ h.DictOfH (nestedKind P w) a (toX L us) := by
  obtain ⟨o, es, ep, us, g, ex, d, e, r⟩ := R.ex
  refine ⟨us, r, o, es, ep, g, ex, d, by rw [e, toX_ent _ _ fun p hp => (R.nm p hp).1], fun x hx => ?_, ?_⟩
  · obtain ⟨p, hp, e1, e2⟩ := toX_mem hx
    rw [e1, e2]
    exact ((ki p hp).isN (R.nm p hp).2).kd
  · rw [toX_keys (vals_len r)]
    exact R.nd
theorem at_look {k : Nk} : ∀ {L : DL} {us : List Value}, Vals (L.map (·.2.2)) us → (findN k L = none ∧ atKey (toX L us) k = none ∧ anyN k L = false) ∨ ∃ v q, findN k L = some v ∧ atKey (toX L us) k = some q ∧ RelV v q.2 ∧ anyN k L = true
  | [], _, .nil => .inl ⟨rfl, rfl, rfl⟩
  | p :: L, _, .cons (b := u) (l₂ := us) r t => by
    by_cases e : p.1 = k
    · exact .inr ⟨p.2.2, (p.2.1, u), by simp [findN, e], by simp [toX, atKey, e], r, by simp [anyN, e]⟩
    · have e1 : findN k (p :: L) = findN k L := by simp [findN, e]
      have e2 : atKey (toX (p :: L) (u :: us)) k = atKey (toX L us) k := by simp [toX, atKey, e]
      have e3 : anyN k (p :: L) = anyN k L := by simp [anyN, e]
      rw [e1, e2, e3]
      exact at_look t
theorem old_put {k : Nk} {v : V} {u : Value} (r : RelV v u) : ∀ {L : DL} {us : List Value}, Vals (L.map (·.2.2)) us →
    ∃ us', (toX L us).map (putAt k u) = toX (L.map fun p => if p.1 = k then (p.1, p.2.1, v) else p) us' ∧ Vals ((L.map fun p => if p.1 = k then (p.1, p.2.1, v) else p).map (·.2.2)) us'
  | [], _, .nil => ⟨[], rfl, .nil⟩
  | p :: L, _, .cons (b := w) (l₂ := us) q t => by
    obtain ⟨us', e, h⟩ := old_put (k := k) r t
    by_cases c : p.1 = k
    · refine ⟨u :: us', ?_, ?_⟩
      · simp only [toX, List.zip_cons_cons, List.map_cons, if_pos c] at e ⊢
        rw [e]
        simp [putAt, c]
      · simp only [List.map_cons, if_pos c]
        exact .cons r h
    · refine ⟨w :: us', ?_, ?_⟩
      · simp only [toX, List.zip_cons_cons, List.map_cons, if_neg c] at e ⊢
        rw [e]
        simp [putAt, c]
      · simp only [List.map_cons, if_neg c]
        exact .cons q h
theorem put_toX {k : Nk} {b : Addr} {v : V} {u : Value} (r : RelV v u) {L : DL} {us : List Value} (h : Vals (L.map (·.2.2)) us) : ∃ us', storedH (toX L us) k b u = toX (putN k b v L) us' ∧ Vals ((putN k b v L).map (·.2.2)) us' := by
  unfold putN
  rcases at_look (k := k) h with ⟨_, h2, h3⟩ | ⟨v0, q, _, h2, _, h3⟩
  · rw [storedH_new h2, h3]
    refine ⟨us ++ [u], by rw [if_neg (by decide), toX_snoc (vals_len h)], ?_⟩
    rw [if_neg (by decide), List.map_append]
    exact h.append (.cons r .nil)
  · rw [storedH_old h2, h3, if_pos rfl]
    exact old_put r h
theorem putN_keys (k : Nk) (b : Addr) (v : V) (L : DL) : (putN k b v L).map (·.1) = if anyN k L = true then L.map (·.1) else L.map (·.1) ++ [k] := by
  unfold putN
  split
  · rw [List.map_map]
    refine List.map_congr_left fun p _ => ?_
    show (if p.1 = k then (p.1, p.2.1, v) else p).1 = p.1
    split <;> rfl
  · simp
theorem putN_len (k : Nk) (b : Addr) (v : V) (L : DL) : (putN k b v L).length ≤ L.length + 1 := by
  unfold putN
  split <;> simp
theorem putN_mem {k : Nk} {b : Addr} {v : V} {L : DL} {p : Nk × Addr × V} (h : p ∈ putN k b v L) : (∃ q ∈ L, p.1 = q.1 ∧ p.2.1 = q.2.1) ∨ (p.1 = k ∧ p.2.1 = b) := by
  unfold putN at h
  split at h
  · obtain ⟨q, hq, e⟩ := List.mem_map.mp h
    split at e <;> subst e <;> exact .inl ⟨q, hq, rfl, rfl⟩
  · rcases List.mem_append.mp h with z | z
    · exact .inl ⟨p, z, rfl, rfl⟩
    · rw [List.mem_singleton.mp z]; exact .inr ⟨rfl, rfl⟩
theorem putN_nd {k : Nk} {b : Addr} {v : V} {L : DL} (h : (L.map (·.1)).Nodup) : ((putN k b v L).map (·.1)).Nodup := by
  rw [putN_keys]
  split
  · exact h
  · rename_i c
    refine List.nodup_append.mpr ⟨h, by simp, ?_⟩
    intro x hx y hy z
    rw [List.mem_singleton] at hy
    subst hy; subst z
    obtain ⟨p, hp, e⟩ := List.mem_map.mp hx
    exact c (by simp only [anyN, List.any_eq_true, decide_eq_true_eq]; exact ⟨p, hp, e⟩)
section
variable {X : Cx}
theorem td_written {D : Addr} {L : DL} {k : Nk} {b : Addr} {v : V} {P : Program} {w : World} {h h' : Heap} {us' : List Value} (R : TD h D L) (kn : num k = true) (kd : k.depth ≤ 8) (room : L.length < sizeLine) (full' : h'.DictOfH (nestedKind P w) D (toX (putN k b v L) us')) (r' : Vals ((putN k b v L).map (·.2.2)) us') : TD h' D (putN k b v L) := by
  obtain ⟨o, es, ep, g, ex, d, e, _, _⟩ := full'
  have nm : ∀ p ∈ putN k b v L, num p.1 = true ∧ p.1.depth ≤ 8 := fun p hp => by
    rcases putN_mem hp with ⟨q, hq, e1, _⟩ | ⟨e1, _⟩
    · rw [e1]; exact R.nm q hq
    · rw [e1]; exact ⟨kn, kd⟩
  rw [toX_ent _ _ fun p hp => (nm p hp).1] at e
  have := putN_len k b v L
  exact ⟨⟨o, es, ep, us', g, ex, d, e, r'⟩, putN_nd R.nd, by omega, nm, R.sys⟩
/-- what is known of a dict at hand and of a key -/
structure DKey (K : PySem.W.Frag) (H : Hp) (a : Addr) (L : DL) (k : Nk) (b : Addr) : Prop where
  at_ : H a = some (TDO a L)
  ki : ∀ p ∈ L, VKey K H p.1 (.ref p.2.1)
  vk : VKey K H k (.ref b)
  dp : k.depth ≤ 8
theorem DKey.full {pins : List (Addr × Obj)} {σ : L2.St} {H : Hp} {s : Shared} {a b : Addr} {L : DL} {k : Nk} (d : DKey X.K H a L k b) (I : Inv X pins σ H s) : TD s.heap a L ∧ (∃ us, Vals (L.map (·.2.2)) us ∧ s.heap.DictOfH (nestedKind X.prog X.w) a (toX L us)) ∧ KIs s.heap k (.ref b) := by
  have R : TD s.heap a L := (I.hok a _ d.at_).1
  exact ⟨R, TD.full R fun p hp => (d.ki p hp).at I rfl, d.vk.at I rfl⟩
def rTGet (K : PySem.W.Frag) : R2 := fun x y H Q => ∃ a L k b v, x = .ref a ∧ y = .ref b ∧ DKey K H a L k b ∧ findN k L = some v ∧ Q v H
def rTNotIn (K : PySem.W.Frag) : R2 := fun y x H Q => ∃ a L k b, x = .ref a ∧ y = .ref b ∧ DKey K H a L k b ∧ Q (.bl (!(findN k L).isSome)) H
def rTPut (K : PySem.W.Frag) : TSet := fun o i v H Q => ∃ a L k b, o = .ref a ∧ i = .ref b ∧ DKey K H a L k b ∧ L.length < sizeLine ∧ Q (upd H a (TDO a (putN k b v L)))
theorem ix_tct (hu : X.A.units + 65 < cLine) : IxR X (rTGet X.K) := by
  intro value slice pins s σ H x y v u Q I rx ry h hs
  obtain ⟨a, L, k, b, w, rfl, rfl, d, hf, q⟩ := h
  obtain rfl : v = Value.ref a := rx
  obtain rfl : u = Value.ref b := ry
  obtain ⟨R, ⟨us, r, full⟩, ki⟩ := d.full I
  rcases at_look (k := k) r with ⟨z, _⟩ | ⟨v0, p, z, e1, e2, _⟩
  · rw [hf] at z; cases z
  · rw [hf] at z; cases z
    exact tail_any full.typeIs slot_dict_getitem.lookup (wpAny_getItem_heap (knd := nestedKind X.prog X.w) (show X.A.units + 1 + 8 < cLine by omega) (ki.isN d.dp).kd full e1 ⟨w, H, I.tok _, e2, q⟩) hs
theorem some_same {L : DL} {us : List Value} {k : Nk} (r : Vals (L.map (·.2.2)) us) : (atKey (toX L us) k).isSome = (findN k L).isSome := by
  rcases at_look (k := k) r with ⟨z1, z2, _⟩ | ⟨v0, p, z1, z2, _⟩ <;> rw [z1, z2] <;> rfl
theorem op_tnotin (hu : X.A.units + 65 < cLine) : OpR X (compareOp .NotIn) (rTNotIn X.K) := by
  intro pins s σ H x y v u Q I rx ry h
  obtain ⟨a, L, k, b, rfl, rfl, d, q⟩ := h
  obtain rfl : u = Value.ref a := ry
  obtain rfl : v = Value.ref b := rx
  obtain ⟨R, ⟨us, r, full⟩, ki⟩ := d.full I
  show wpAny _ _ (do return Value.bool (!(← contains (Value.ref a) (Value.ref b)))) _ _ s
  exact wpAny_bind (wpAny_contains_heap (knd := nestedKind X.prog X.w) (show X.A.units + 1 + 8 < cLine by omega) (ki.isN d.dp).kd R.sys full (by rw [some_same r]; exact wpAny_pure ⟨.bl _, H, I.tok _, rfl, q⟩))
theorem set_tct (hu : X.A.units + 65 < cLine) : PSet X (rTPut X.K) := by
  intro pins s σ H o i v ov iv u Q I ro ri rv h
  obtain ⟨a, L, k, b, rfl, rfl, d, room, q⟩ := h
  obtain rfl : ov = Value.ref a := ro
  obtain rfl : iv = Value.ref b := ri
  obtain ⟨R, ⟨us, r, full⟩, ki⟩ := d.full I
  have xl : (toX L us).length ≤ sizeLine := by
    simp only [toX, List.length_map, List.length_zip]
    omega
  refine wpAny_setItem_heap (knd := nestedKind X.prog X.w) (show X.A.units + 1 + 8 < cLine by omega) (ki.isN d.dp).kd full (fun h' full' sb => ?_) xl
  obtain ⟨us', e, r'⟩ := put_toX (k := k) (b := b) rv r
  rw [e] at full'
  have R' := td_written R ki.num d.dp room full' r'
  have ⟨o, _, _, _, g, _⟩ := R'.ex
  exact ⟨_, I.write (x := a) (e := a) (by rw [d.at_]; trivial) (.inl rfl) (fun c u hc z => (sb.2 c hc).trans z) ⟨o, g⟩ (tdo_new R'), q⟩
theorem putT_ok {pins : List (Addr × Obj)} {σ : L2.St} {H : Hp} {s : Shared} {E : Value → Shared → Prop} {D b : Addr} {L : DL} {k : Nk} {v : V} {u : Value} {Q : Unit → Shared → Prop} (hu : X.A.units + 65 < cLine) (I : Inv X pins σ H s) (d : DKey X.K H D L k b) (rv : RelV v u) (len : L.length < sizeLine)
    (h : ∀ s', Inv X pins σ (upd H D (TDO D (putN k b v L))) s' → Q () s') : wpAny (model X.prog X.w) X.A (dictSet D (.ref b) u) Q E s := by
  obtain ⟨R, ⟨us, r, full⟩, ki⟩ := d.full I
  have xl : (toX L us).length ≤ sizeLine := by
    simp only [toX, List.length_map, List.length_zip]
    omega
  refine wpAny_dictSet_heap (knd := nestedKind X.prog X.w) (show X.A.units + 8 < cLine by omega) (ki.isN d.dp).kd full (fun h' full' sb => h _ ?_) xl
  obtain ⟨us', e, r'⟩ := put_toX (k := k) (b := b) rv r
  rw [e] at full'
  have R' := td_written R ki.num d.dp len full' r'
  have ⟨o, _, _, _, g, _⟩ := R'.ex
  exact I.write (x := D) (e := D) (by rw [d.at_]; trivial) (.inl rfl) (fun c u hc z => (sb.2 c hc).trans z) ⟨o, g⟩ (tdo_new R')
theorem td_new {h : Heap} (hb : sysModules < h.objs.size) : TD (h.push { cls := .type "dict", data := .dict #[] }) h.objs.size [] :=
  ⟨⟨_, #[], 0, [], Heap.get?_push_size _ rfl, ⟨rfl, rfl, rfl⟩, rfl, rfl, .nil⟩, List.nodup_nil, Nat.zero_le _, fun p hp => (by cases hp), beq_eq_false_iff_ne.mpr (Ne.symm (Nat.ne_of_lt hb))⟩
/-! ### {key: v for target in iter if ..} -/
def tD2 (K : PySem.W.Frag) (wi : TI) (g : TG) (tt : TT) (tk tv : TE) (vs : List Nat) : TE := fun σ H Q => wi σ H fun J H1 => ∀ D, H1 D = none → ∃ W : Nat → Nat → Hp → Prop, (∃ m, W 0 m (upd H1 D (TDO D []))) ∧ ∀ i m H, W i m H →
  (J.stop i H ∧ Q (.ref D) H) ∨ (J.go i H ∧ ∃ Nx : Hp → Prop, (∀ H', Nx H' → ∃ m', m' < m ∧ W (i + 1) m' H') ∧ ∀ x H', J.yld i H x H' → g x (wipe σ vs) H' fun σ2 H2 => wipe σ2 vs = wipe σ vs ∧ tt σ2 H2 fun b H3 =>
    if b = true then tk σ2 H3 fun y H4 => tv σ2 H4 fun z H5 => ∃ (L : DL) (k : Nk) (b : Addr), y = .ref b ∧ DKey K H5 D L k b ∧ L.length < sizeLine ∧ Nx (upd H5 D (TDO D (putN k b z L))) else Nx H3)
theorem pe_d2 {kx vx tg iter : Expr} {ifs : List Expr} {scope : Scope} {own : List (PySem.Str × Nat)} {pos : Pos} {wi : TI} {g : TG} {tt : TT} {tk tv : TE} (hu : X.A.units + 65 < cLine) (hc : X.calm = true) (hN : X.N.Nodup) (hi : PI X tg iter wi) (ok : BlkOk X.N X.env.scope scope own)
    (hg : ∀ (s : Shared) (H : Hp) (C : Addr) (cl : List (PySem.Str × Addr)) (fp : List Addr), PG (X.blk s H scope (compEnvC scope cl C X.env) fp) tg g) (ht : ∀ (s : Shared) (H : Hp) (C : Addr) (cl : List (PySem.Str × Addr)) (fp : List Addr), PTs (X.blk s H scope (compEnvC scope cl C X.env) fp) ifs tt)
    (hk : ∀ (s : Shared) (H : Hp) (C : Addr) (cl : List (PySem.Str × Addr)) (fp : List Addr), PE (X.blk s H scope (compEnvC scope cl C X.env) fp) kx tk)
    (he : ∀ (s : Shared) (H : Hp) (C : Addr) (cl : List (PySem.Str × Addr)) (fp : List Addr), PE (X.blk s H scope (compEnvC scope cl C X.env) fp) vx tv) (hs : ∀ x, foldedSetIterable iter X.env x = pure x := by intro _; rfl) :
    PE X (.DictComp kx vx [⟨tg, iter, ifs, 0⟩] scope pos) (tD2 X.K wi g tt tk tv (own.map (·.2))) := by
  refine ⟨fun pins s σ H Q I h => ?_⟩
  rw [arm_eval_DictComp]
  have free : ∀ y ∈ scope.names, y.2 = .free → ∃ c, X.env.cells.lookup y.1 = some c := fun y hy e => by
    rcases ok.free y hy e with k | k
    · exact I.ok.has _ (.inl k)
    · exact I.ok.has _ (.inr k)
  refine wpAny_comprehension_free (use := none) rfl hs (closure_ok free) ok.kind (fun y hy e => by rw [ok.uniq y hy, e])
    (thn (hi.run pins s σ H _ I h) fun xv s1 hx => thn hx fun itv s2 h2 => ?_)
  obtain ⟨it, fp, tn, J, H2, rfl, I2, T, st2, f2, q⟩ := h2
  refine wpAny_newObj_type (newEnv_comp ?_)
  generalize eD : s2.heap.objs.size = D
  have dn : H2 D = none := I2.hok.fresh (Nat.le_of_eq eD)
  obtain ⟨W, ⟨m0, w0⟩, turn⟩ := q D dn
  generalize e3 : ({ s2 with heap := s2.heap.push { cls := .type "dict", data := .dict #[] } } : Shared) = s3
  have I3 : Inv X pins σ (upd H2 D (TDO D [])) s3 := by
    rw [← e3]
    refine I2.laid (t' := s2.toks) (fun b o e => Heap.get?_push_of_some _ e) (Nat.le_of_eq eD) ?_
    rw [← eD]
    exact tdo_new (td_new I2.big)
  have h3 : s3.heap = s2.heap.push { cls := .type "dict", data := .dict #[] } := by rw [← e3]
  have f3 : ∀ b ∈ fp, FpOk X pins (upd H2 D (TDO D [])) b ∧ b < s3.heap.objs.size := fun b hb => by
    obtain ⟨o, e, _⟩ := T.obj _ _ st2 b hb
    have lt := Heap.lt_size e
    refine ⟨⟨?_, (f2 b hb).2⟩, by rw [h3, Heap.size_push]; exact Nat.lt_succ_of_lt lt⟩
    rw [upd_ne (by rw [← eD]; exact Nat.ne_of_lt lt)]
    exact (f2 b hb).1
  have st3 : tn 0 s3.heap := T.keep _ _ _ st2 fun b _ o e => by rw [h3]; exact Heap.get?_push_of_some _ e
  have I4 := block_start I3 ok hN f3
  have pg := hg s3 (upd H2 D (TDO D [])) s3.heap.objs.size (cellsFrom (s3.heap.objs.size + 1) scope.names (cloFrom X.env.cells scope.names [])) fp
  have pt := ht s3 (upd H2 D (TDO D [])) s3.heap.objs.size (cellsFrom (s3.heap.objs.size + 1) scope.names (cloFrom X.env.cells scope.names [])) fp
  have pk := hk s3 (upd H2 D (TDO D [])) s3.heap.objs.size (cellsFrom (s3.heap.objs.size + 1) scope.names (cloFrom X.env.cells scope.names [])) fp
  have pe := he s3 (upd H2 D (TDO D [])) s3.heap.objs.size (cellsFrom (s3.heap.objs.size + 1) scope.names (cloFrom X.env.cells scope.names [])) fp
  show codeAny _ _ (.compStart (.DictComp kx vx [⟨tg, iter, ifs, 0⟩] scope pos) 0 (.ref it) (.ref D) (compEnvC scope (cellsFrom (s3.heap.objs.size + 1) scope.names (cloFrom X.env.cells scope.names [])) s3.heap.objs.size X.env)) (compPost (model X.prog X.w) X.A X.xe none (EP X pins σ Q) (.ref D) s3.heap.objs.size) { s3 with heap := pushCells (s3.heap.push { cls := .type "dict", data := .dict #[] }) scope.names }
  have nfp : ∀ b ∈ fp, (upd H2 D (TDO D [])) b = none := fun b hb => (f3 b hb).1.1
  generalize ec : compEnvC scope (cellsFrom (s3.heap.objs.size + 1) scope.names (cloFrom X.env.cells scope.names [])) s3.heap.objs.size X.env = ce at I4 pg pt pk pe ⊢
  have loc : ce.locals = s3.heap.objs.size := by subst ec; rfl
  generalize eH : upd H2 D (TDO D []) = H3 at I3 I4 pg pt pk pe w0 nfp f3
  generalize e4 : ({ s3 with heap := pushCells (s3.heap.push { cls := .type "dict", data := .dict #[] }) scope.names } : Shared) = s4 at I4 ⊢
  have st4 : tn 0 s4.heap := T.keep _ _ _ st3 fun b _ o e => by rw [← e4]; exact pushCells_keeps _ _ _ _ (Heap.get?_push_of_some _ e)
  have stat : ∀ {σ' : L2.St} {H' : Hp} {s' : Shared}, Inv (X.blk s3 H3 scope ce fp) [] σ' H' s' → (∀ b ∈ fp, H' b = none) → ∀ b ∈ fp, FpOk (X.blk s3 H3 scope ce fp) [] H' b := fun {σ' H' s'} I' hn b hb =>
    ⟨hn b hb, (I'.ok.exf b hb).1, I'.ok.exfs b hb, .inl hb, fun x c e => (I'.ok.exf b hb).2 x c e, fun p hp => absurd (show p ∈ ([] : List (Addr × Obj)) ++ [] from hp) (by simp)⟩
  have loop : codeAny (model X.prog X.w) X.A (.compLoop (.DictComp kx vx [⟨tg, iter, ifs, 0⟩] scope pos) 0 (.ref it) (.ref D) ce) (compPost (model X.prog X.w) X.A X.xe none (EP X pins σ Q) (.ref D) s3.heap.objs.size) s4 := by
    refine compLoop_anyD (fun n s' => ∃ i H', Inv (X.blk s3 H3 scope ce fp) [] (wipe σ (own.map (·.2))) H' s' ∧ tn i s'.heap ∧ (∀ b ∈ fp, H' b = none) ∧ W i n H') ?_ m0 ⟨0, H3, I4, st4, nfp, w0⟩
    rintro n s5 ⟨i, H5, I5, st5, n5, w5⟩
    rcases turn i n H5 w5 with ⟨stop, fin⟩ | ⟨go, Nx, hNx, step⟩
    · refine thnF (T.done (X.blk s3 H3 scope ce fp) rfl rfl rfl hc i [] s5 _ H5 (fun _ _ => False) I5 (stat I5 n5) st5 stop) fun r s6 ⟨hr, I6⟩ => ?_
      subst hr
      have I7 : Inv X pins σ H5 s6 := I3.call' (ch := fp) I6.os I6.base I6.hok I6.bare fun b hb => ⟨(f3 b hb).1.2.2.2.1, (f3 b hb).1.2.1, (f3 b hb).1.2.2.2.2.1, (f3 b hb).1.2.2.2.2.2⟩
      have nC : H5 s3.heap.objs.size = none := by
        have z : H5 ce.locals = none := I6.free
        rwa [loc] at z
      obtain ⟨m, hn, _⟩ := I6.loc
      have hn : s6.heap.Ns ce.locals m := hn
      rw [loc] at hn
      refine ⟨m, hn, fun h'' sb => ?_⟩
      obtain ⟨a0, a1, a2, a3, a4, a5⟩ := I3.fpOk (Nat.le_refl _) nC
      exact ⟨.ref D, H5, I7.turned (t' := s6.toks) (fun b o hb e => (sb.2 b hb).trans e) a0 a1 a3 a4 a5, rfl, fin⟩
    · refine thnF (T.item (X.blk s3 H3 scope ce fp) rfl rfl rfl hc i [] s5 _ H5 (fun _ _ => False) I5 (stat I5 n5) st5 go) fun r s6 ⟨u, hr, h6⟩ => ?_
      subst hr
      refine thnF h6 fun _ s7 ⟨x, H7, I7, r7, y7, st7, n7⟩ => ?_
      have I7' := I7.pinned (stat I7 n7) (T.obj _ _ st7)
      refine thnF (pg.run _ s7 _ H7 x u _ I7' r7 (step x H7 y7)) fun _ s8 ⟨σ8, H8, I8, hw8, q8⟩ => ?_
      refine thnF (pt.run _ s8 σ8 H8 _ I8 q8) fun b s9 ⟨H9, I9, q9⟩ => ?_
      have fin : ∀ {s' : Shared} {H' : Hp}, Inv (X.blk s3 H3 scope ce fp) ([] ++ pinsAt fp s7.heap) σ8 H' s' → Nx H' → ∃ m, m < n ∧ ∃ i H', Inv (X.blk s3 H3 scope ce fp) [] (wipe σ (own.map (·.2))) H' s' ∧ tn i s'.heap ∧ (∀ b ∈ fp, H' b = none) ∧ W i m H' := fun {s' H'} I' nx => by
        obtain ⟨m', hm, w'⟩ := hNx H' nx
        have pin : ∀ b ∈ fp, ∀ o, s7.heap.get? b = some o → s'.heap.get? b = some o ∧ H' b = none := fun b hb o e =>
          let z := I'.pin (b, o) (List.mem_append_right _ (List.mem_append_right _ (mem_pinsAt hb e)))
          ⟨z.1, z.2.1⟩
        have len : (wipe σ (own.map (·.2))).length = σ8.length := by rw [← hw8, wipe_length]
        refine ⟨m', hm, i + 1, H', (I'.unpinned (pins := [])).weak len (fun j v e => ?_), T.keep _ _ _ st7 fun b hb o e => (pin b hb o e).1, fun b hb => ?_, w'⟩
        · rw [← hw8] at e
          exact (wipe_some e).1
        · obtain ⟨o, e, _⟩ := T.obj _ _ st7 b hb
          exact (pin b hb o e).2
      cases b with
      | false =>
        simp only [Bool.false_eq_true, if_false] at q9 ⊢
        exact fin I9 q9
      | true =>
        simp only [if_true] at q9 ⊢
        refine thnF (pk.run _ s9 σ8 H9 _ I9 q9) fun z s10 ⟨yk, H10, I10, r10, q10⟩ => ?_
        refine thnF (pe.run _ s10 σ8 H10 _ I10 q10) fun z2 s11 ⟨yv, H11, I11, r11, L, k, b, ek, dk, len, nx⟩ => ?_
        subst ek
        obtain rfl : z = Value.ref b := r10
        exact putT_ok (X := X.blk s3 H3 scope ce fp) hu I11 dk r11 len fun s12 I12 => fin I12 nx
  exact codeAny_compStart_dict loop (T.self X.A 0 _ _ _ st4 loop)
end
end NSet

set_option Elab.async false
set_option linter.all false
set_option maxRecDepth 100000
set_option maxHeartbeats 1000000
/-! mirrors: dicts with keys that are tuples of numbers -/
namespace Mx
open PySem PySem.Spec PyProof.Rows L2 NSet
/-- a key of such a dict -/
def keyT : D → Option Nk
  | .tup xs => (nkOf (.tup xs)).bind fun k => if k.depth ≤ 8 then some k else none
  | _ => none
def lookT (k : Nk) : List (D × D) → Option D
  | [] => none
  | p :: r => if nkOf p.1 = some k then some p.2 else lookT k r
def putT (k : Nk) (d v : D) (kvs : List (D × D)) : List (D × D) :=
  if kvs.any (fun p => decide (nkOf p.1 = some k)) = true then kvs.map (fun p => if nkOf p.1 = some k then (p.1, v) else p) else kvs ++ [(d, v)]
theorem keyT_eq {d : D} {k : Nk} (h : keyT d = some k) : nkOf d = some k ∧ k.depth ≤ 8 := by
  unfold keyT at h
  split at h
  · obtain ⟨k', h1, h2⟩ := Option.bind_eq_some_iff.mp h
    split at h2
    · cases h2
      exact ⟨h1, by assumption⟩
    · cases h2
  · cases h
/-- the data of a dict with tuples for keys -/
structure RepT (K : PySem.W.Frag) (is : List Addr) (fz : Addr → Prop) (H : Hp) (L : DL) (kvs : List (D × D)) : Prop where
  ks : RepA K is fz H (L.map fun p => V.ref p.2.1) (kvs.map (·.1))
  vs : RepA K is fz H (L.map (·.2.2)) (kvs.map (·.2))
  nk : nkOfs (kvs.map (·.1)) = some (L.map (·.1))
section
variable {K : PySem.W.Frag} {is : List Addr} {fz : Addr → Prop} {H : Hp}
theorem RepT.nil : RepT K is fz H [] [] := ⟨.nil, .nil, rfl⟩
theorem RepT.mono {is' : List Addr} {fz' : Addr → Prop} {H' : Hp} {L : DL} {kvs : List (D × D)} (r : RepT K is fz H L kvs) (l : Le fz H is fz' H' is') : RepT K is' fz' H' L kvs := ⟨r.ks.mono l, r.vs.mono l, r.nk⟩
theorem RepT.length {L : DL} {kvs : List (D × D)} (r : RepT K is fz H L kvs) : kvs.length = L.length := by
  have := r.ks.length
  simpa using this.symm
theorem RepT.uncons {L : DL} {p : D × D} {kvs : List (D × D)} (r : RepT K is fz H L (p :: kvs)) : ∃ k b v L', L = (k, b, v) :: L' ∧ Rep K is fz H (.ref b) p.1 ∧ Rep K is fz H v p.2 ∧ nkOf p.1 = some k ∧ RepT K is fz H L' kvs := by
  obtain ⟨h1, h2, h3⟩ := r
  cases L with
  | nil => cases h1
  | cons q L =>
    obtain ⟨k, b, v⟩ := q
    cases h1 with
    | cons a1 t1 =>
      cases h2 with
      | cons a2 t2 =>
        obtain ⟨k', ks, e1, e2, e3⟩ := nkOfs_cons h3
        cases e3
        exact ⟨k, b, v, L, rfl, a1, a2, e1, t1, t2, e2⟩
theorem RepT.cons {L : DL} {kvs : List (D × D)} {k : Nk} {b : Addr} {v : V} {x y : D} (r : RepT K is fz H L kvs) (h1 : Rep K is fz H (.ref b) x) (h2 : Rep K is fz H v y) (h3 : nkOf x = some k) : RepT K is fz H ((k, b, v) :: L) ((x, y) :: kvs) :=
  ⟨.cons h1 r.ks, .cons h2 r.vs, by simp only [List.map_cons, nkOfs, h3, r.nk]⟩
theorem RepT.look {k : Nk} : ∀ {L : DL} {kvs : List (D × D)}, RepT K is fz H L kvs → (findN k L = none ∧ lookT k kvs = none) ∨ ∃ v d, findN k L = some v ∧ lookT k kvs = some d ∧ Rep K is fz H v d
  | L, [], r => by
    have := r.length
    cases L with
    | nil => exact .inl ⟨rfl, rfl⟩
    | cons => simp at this
  | L, p :: kvs, r => by
    obtain ⟨k', b, v, L', rfl, h1, h2, h3, r'⟩ := r.uncons
    by_cases e : k' = k
    · subst e
      exact .inr ⟨v, p.2, by simp [findN], by simp [lookT, h3], h2⟩
    · have e1 : findN k ((k', b, v) :: L') = findN k L' := by simp [findN, e]
      have e2 : lookT k (p :: kvs) = lookT k kvs := by simp [lookT, h3, e]
      rw [e1, e2]
      exact r'.look
theorem RepT.any {k : Nk} : ∀ {L : DL} {kvs : List (D × D)}, RepT K is fz H L kvs → (kvs.any fun p => decide (nkOf p.1 = some k)) = anyN k L
  | L, [], r => by
    have := r.length
    cases L with
    | nil => rfl
    | cons => simp at this
  | L, p :: kvs, r => by
    obtain ⟨k', b, v, L', rfl, h1, h2, h3, r'⟩ := r.uncons
    simp only [List.any_cons, anyN, h3, Option.some.injEq]
    rw [r'.any]
    rfl
theorem RepT.repl {k : Nk} {v : V} {d : D} (q : Rep K is fz H v d) : ∀ {L : DL} {kvs : List (D × D)}, RepT K is fz H L kvs →
    RepT K is fz H (L.map fun p => if p.1 = k then (p.1, p.2.1, v) else p) (kvs.map fun p => if nkOf p.1 = some k then (p.1, d) else p)
  | L, [], r => by
    have := r.length
    cases L with
    | nil => exact .nil
    | cons => simp at this
  | L, p :: kvs, r => by
    obtain ⟨k', b, v', L', rfl, h1, h2, h3, r'⟩ := r.uncons
    have t := r'.repl (k := k) q
    by_cases e : k' = k
    · simp only [List.map_cons, h3, e, if_true]
      exact t.cons h1 q (by rw [h3, e])
    · have e' : ¬ some k' = some k := fun z => e (Option.some.inj z)
      simp only [List.map_cons, h3, if_neg e, if_neg e']
      exact t.cons h1 h2 h3
theorem RepT.snoc {k : Nk} {b : Addr} {v : V} {x d : D} (q1 : Rep K is fz H (.ref b) x) (q2 : Rep K is fz H v d) (q3 : nkOf x = some k) : ∀ {L : DL} {kvs : List (D × D)}, RepT K is fz H L kvs → RepT K is fz H (L ++ [(k, b, v)]) (kvs ++ [(x, d)])
  | L, [], r => by
    have := r.length
    cases L with
    | nil => exact RepT.nil.cons q1 q2 q3
    | cons => simp at this
  | L, p :: kvs, r => by
    obtain ⟨k', b', v', L', rfl, h1, h2, h3, r'⟩ := r.uncons
    exact (r'.snoc q1 q2 q3).cons h1 h2 h3
theorem RepT.put {k : Nk} {b : Addr} {v : V} {x d : D} (q1 : Rep K is fz H (.ref b) x) (q2 : Rep K is fz H v d) (q3 : nkOf x = some k) {L : DL} {kvs : List (D × D)} (r : RepT K is fz H L kvs) : RepT K is fz H (putN k b v L) (putT k x d kvs) := by
  unfold putN putT
  rw [r.any]
  split
  · exact r.repl q2
  · exact r.snoc q1 q2 q3
theorem RepT.keys : ∀ {L : DL} {kvs : List (D × D)}, RepT K is fz H L kvs → ∀ p ∈ L, VKey K H p.1 (.ref p.2.1)
  | L, [], r, p, hp => by
    have := r.length
    cases L with
    | nil => cases hp
    | cons => simp at this
  | L, q :: kvs, r, p, hp => by
    obtain ⟨k', b, v, L', rfl, h1, h2, h3, r'⟩ := r.uncons
    rcases List.mem_cons.mp hp with z | z
    · rw [z]; exact vkey_of _ _ _ h3 h1
    · exact r'.keys p z
theorem RepT.dkey {L : DL} {kvs : List (D × D)} {a : Addr} {k : Nk} {x : D} {w : V} (r : RepT K is fz H L kvs) (ha : H a = some (TDO a L)) (hx : Rep K is fz H w x) (hk : keyT x = some k) : ∃ b, w = .ref b ∧ DKey K H a L k b := by
  obtain ⟨e1, e2⟩ := keyT_eq hk
  have vk := vkey_of _ _ _ e1 hx
  have : ∃ b, w = .ref b := by
    unfold keyT at hk
    split at hk
    · cases hx with
      | tup => exact ⟨_, rfl⟩
    · cases hk
  obtain ⟨b, rfl⟩ := this
  exact ⟨b, rfl, ha, r.keys, vk, e2⟩
end
theorem PRep.tct {K : PySem.W.Frag} {is : List Addr} {fz : Addr → Prop} {H : Hp} {v : V} {xs : List (D × D)} (h : PRep K is fz H v (.tdc xs)) : ∃ (a : Addr) (L : DL), v = .ref a ∧ H a = some (TDO a L) ∧ RepT K is fz H L xs := by
  obtain ⟨a, L, h1, h2, h3, h4, h5⟩ := h.tdc
  exact ⟨a, L, h1, h2, h3, h4, h5⟩
theorem PRep.tk {K : PySem.W.Frag} {is : List Addr} {fz : Addr → Prop} {H : Hp} {v : V} {x : D} {k : Nk} (h : PRep K is fz H v x) (e : keyT x = some k) : Rep K is fz H v x := by
  rcases h with h | ⟨p, c, _, ex, _⟩
  · exact h
  · subst ex
    cases c <;> cases e
/-! ### {}, d[k], k in d, d[k] = v -/
def mDictT : ST RV := ret (.tmp (.tct []))
section
variable {X : Cx} {N : En} {xm : XM} {W : WX}
end
def fIxT : D → D → Option RN
  | .tdc kvs, y => (keyT y).bind fun k => (lookT k kvs).map .d
  | _, _ => none
def fInT (neg : Bool) : D → D → Option RN
  | x, .tdc kvs => (keyT x).map fun k => .d (.bl (if neg then !(lookT k kvs).isSome else (lookT k kvs).isSome))
  | _, _ => none
def fSetT : SF
  | .tct kvs, x, v => (keyT x).bind fun k => if kvs.length < sizeLine then some (.tct (putT k x v kvs)) else none
  | _, _, _ => none
section
variable {K : PySem.W.Frag}
theorem f_ixT : OpF K (rTGet K) fIxT := by
  intro is fz H v w x y rn Q dm hx hy e fin
  cases x with
  | tdc kvs =>
    simp only [fIxT, Option.bind_eq_some_iff, Option.map_eq_some_iff] at e
    obtain ⟨k, hk, d, hd, rfl⟩ := e
    obtain ⟨a, L, rfl, ha, r⟩ := hx.tct
    obtain ⟨b, rfl, dk⟩ := r.dkey ha (hy.tk hk) hk
    rcases r.look (k := k) with ⟨_, z⟩ | ⟨u, d', z1, z2, z3⟩
    · rw [hd] at z; cases z
    · rw [hd] at z2; cases z2
      exact ⟨a, L, k, b, u, rfl, rfl, dk, z1, fin.sc z3⟩
  | _ => cases e
theorem in_same {is : List Addr} {fz : Addr → Prop} {H : Hp} {L : DL} {kvs : List (D × D)} (r : RepT K is fz H L kvs) (k : Nk) : (findN k L).isSome = (lookT k kvs).isSome := by
  rcases r.look (k := k) with ⟨z1, z2⟩ | ⟨u, d, z1, z2, _⟩ <;> rw [z1, z2] <;> rfl
theorem f_notInT : OpF K (rTNotIn K) (fInT true) := by
  intro is fz H v w x y rn Q dm hx hy e fin
  cases y with
  | tdc kvs =>
    simp only [fInT, Option.map_eq_some_iff] at e
    obtain ⟨k, hk, rfl⟩ := e
    obtain ⟨a, L, rfl, ha, r⟩ := hy.tct
    obtain ⟨b, rfl, dk⟩ := r.dkey ha (hx.tk hk) hk
    exact ⟨a, L, k, b, rfl, rfl, dk, by rw [in_same r]; exact fin.sc (.bl _)⟩
  | _ => cases e
theorem s_setT : SetF K (rTPut K) fSetT := by
  intro is fz H p c i x v y c' Q hc nf ri rv e k
  cases c with
  | tct kvs =>
    simp only [fSetT, Option.bind_eq_some_iff] at e
    obtain ⟨n, hk, e⟩ := e
    split at e
    · rename_i room
      cases e
      obtain ⟨L, h1, h2, h3, h4⟩ := hc
      have r : RepT K is fz H L kvs := ⟨h2, h3, h4⟩
      obtain ⟨b, rfl, dk⟩ := r.dkey h1 ri hk
      have l : Le fz H is fz (upd H p (TDO p (putN n b v L))) is := Le.alloc nf
      have r2 := (r.mono l).put (ri.mono l) (rv.mono l) (keyT_eq hk).1
      exact ⟨p, L, n, b, rfl, rfl, dk, by rw [← r.length]; exact room, k _ ⟨_, upd_same, r2.ks, r2.vs, r2.nk⟩⟩
    · cases e
  | _ => cases e
end
/-! ### {key: value for ..} -/
def compD (vs : List Nat) (t : TgM) (tt : ST Bool) (mk mv : ST RV) : List D → List (D × D) → Sg → R (List (D × D))
  | [], acc, g => .ok acc g
  | x :: xs, acc, g => match t x { g with env := wipeE g.env vs } with
    | none => .stuck
    | some g => match tt g with
      | .ok false g => compD vs t tt mk mv xs acc g
      | .ok true g => match mk g with
        | .ok r g => match toD r g with
          | .ok k g => match mv g with
            | .ok r' g => match toD r' g with
              | .ok v g => match keyT k with
                | some n => if acc.length < sizeLine then compD vs t tt mk mv xs (putT n k v acc) g else .stuck
                | none => .stuck
              | _ => .stuck
            | _ => .stuck
          | _ => .stuck
        | _ => .stuck
      | _ => .stuck
def endD (g0 : Sg) (vs : List Nat) : R (List (D × D)) → R RV
  | .ok l g => .ok (.tmp (.tct l)) { g with env := backE g0.env g.env vs }
  | _ => .stuck
def mDictC (mi : ST (List D)) (vs : List Nat) (t : TgM) (tt : ST Bool) (mk mv : ST RV) : ST RV := bnd mi fun xs g => endD g vs (compD vs t tt mk mv xs [] g)
section
variable {J : It} {n : Nat} {G : Hp → Prop} {Y : Nat → Hp → V → Hp → Prop}
abbrev stepD2 (K : PySem.W.Frag) (tk tv : TE) (D : Addr) (σ2 : L2.St) (b : Bool) (H3 : Hp) (Nx : Hp → Prop) : Prop :=
  if b = true then tk σ2 H3 fun y H4 => tv σ2 H4 fun z H5 => ∃ (L : DL) (k : Nk) (b : Addr), y = .ref b ∧ DKey K H5 D L k b ∧ L.length < sizeLine ∧ Nx (upd H5 D (TDO D (putN k b z L))) else Nx H3
theorem d2_it {K : PySem.W.Frag} (wk : Walk J n G Y) {g : TG} {tt : TT} {tk tv : TE} {vs : List Nat} {σ : L2.St} {H1 : Hp} {D : Addr} {Qd : Hp → Prop} (I : Nat → Hp → Prop) (h0 : I 0 (upd H1 D (TDO D []))) (hG : ∀ i H, i ≤ n → I i H → G H)
    (hs : ∀ i x H H', i < n → I i H → Y i H x H' → g x (wipe σ vs) H' fun σ2 H2 => wipe σ2 vs = wipe σ vs ∧ tt σ2 H2 fun b H3 => stepD2 K tk tv D σ2 b H3 (I (i + 1))) (hd : ∀ H, I n H → Qd H) :
    ∃ W : Nat → Nat → Hp → Prop, (∃ m, W 0 m (upd H1 D (TDO D []))) ∧ ∀ i m H, W i m H →
      (J.stop i H ∧ Qd H) ∨ (J.go i H ∧ ∃ Nx : Hp → Prop, (∀ H', Nx H' → ∃ m', m' < m ∧ W (i + 1) m' H') ∧ ∀ x H', J.yld i H x H' → g x (wipe σ vs) H' fun σ2 H2 => wipe σ2 vs = wipe σ vs ∧ tt σ2 H2 fun b H3 => stepD2 K tk tv D σ2 b H3 Nx) := by
  refine ⟨fun i m H => m + i = n ∧ I i H, ⟨n, rfl, h0⟩, ?_⟩
  rintro i m H ⟨e, p⟩
  have q := hG i H (by omega) p
  by_cases z : m = 0
  · have : i = n := by omega
    subst this
    exact .inl ⟨wk.stops H q, hd H p⟩
  · have lt : i < n := by omega
    exact .inr ⟨wk.goes i H lt q, I (i + 1), fun H' p' => ⟨m - 1, by omega, by omega, p'⟩, fun x H' y => hs i x H H' lt p (wk.yields i H x H' lt q y)⟩
end
section
variable {X : Cx} {N : En} {xm : XM} {W : WX} {tg iter : Expr}
theorem compD_ok {mi : ST (List D)} {vs ts : List Nat} {gt : TG} {t : TgM} {tt : ST Bool} {mk mv : ST RV} (c : MC X N W) (ht : ∀ N' : En, N'.n = N.n → N'.K = N.K → TgF N' ts gt t) (hts : ∀ i ∈ ts, i ∈ vs) {σ : L2.St} {H : Hp} {Q : VK} (h : lift N xm W (mDictC mi vs t tt mk mv) σ H Q) :
    tD2 N.K (liftI N xm W mi) gt (anyT N xm tt) (anyE N xm mk) (anyE N xm mv) vs σ H Q := by
  obtain ⟨g, fz, is, sr, h⟩ := h
  refine ⟨g, fz, is, sr, ?_⟩
  simp only [mDictC, bnd] at h
  cases e : mi g with
  | stuck => rw [e] at h; exact h
  | exc x g' => rw [e] at h; exact h
  | ok xs g1 =>
    rw [e, bind_ok] at h
    intro J H1 fz1 is1 l1 sr1 ⟨G, Y, wk, hG, hY⟩
    have h := postE.later l1 h
    intro P hP
    have fP := sr1.free hP
    have lP : Le fz1 H1 is1 fz1 (upd H1 P (TDO P [])) is1 := Le.alloc fP.own.nf
    have sr1' := sr1.alter fP (TDO P [])
    have h := h.later lP
    refine d2_it wk (fun i H => ∃ g fz is ks kvs, SR N (L2.wipe σ vs) H { g with env := wipeE g.env vs } fz is ∧ Le fz1 H1 is1 fz H is ∧ Free N (L2.wipe σ vs) { g with env := wipeE g.env vs } fz is P ∧ H P = some (TDO P ks) ∧ RepT N.K is fz H ks kvs ∧
      postE N xm W σ H fz is Q (endD g1 vs (compD vs t tt mk mv (xs.drop i) kvs g))) ?_ (fun i H _ ⟨g, fz, is, ks, kvs, _, l, _⟩ => hG fz H is l) ?_ ?_
    · refine ⟨g1, fz1, is1, [], [], sr1'.wipe vs, lP, ?_, upd_same, .nil, h⟩
      refine ⟨fP.own, fun i ⟨c, hc⟩ z => ?_⟩
      obtain ⟨h1, h2⟩ := wipeE_some hc
      rw [wipe_keep h2] at z
      exact fP.ns i ⟨c, h1⟩ z
    · rintro i v H2 H2' hlt ⟨g2, fz2, is2, ks, kvs, sr2, l2, f2, hP2, nd, h2⟩ y
      have hx : xs[i]? = some xs[i] := by simp [hlt]
      obtain ⟨fz3, gr, rep⟩ := hY i xs[i] fz2 H2 is2 v H2' hx l2 y
      have l3 := gr.le sr2
      have sr3 := gr.sr sr2
      have hP3 : H2' P = some (TDO P ks) := by
        cases gr with
        | same => exact hP2
        | new p o hp => rw [upd_ne (fun z => by subst z; rw [hP2] at hp; cases hp)]; exact hP2
      have f3 : Free N (L2.wipe σ vs) { g2 with env := wipeE g2.env vs } fz3 is2 P := by
        refine ⟨⟨fun z => ?_, f2.own.ni, f2.own.new⟩, f2.ns⟩
        cases gr with
        | same => exact f2.own.nf z
        | new p o hp =>
          rcases z with z | z
          · exact f2.own.nf z
          · subst z; rw [hP2] at hp; cases hp
      have nz : ¬ N.fz P := fun z => f3.own.nf (sr3.fz0 P z)
      have ni : P ∉ N.is := fun z => f3.own.ni (sr3.isx.subset z)
      have nn := f3.own.new
      have sg := sr3.guard f3 hP3
      rw [List.drop_eq_getElem_cons hlt] at h2
      simp only [compD] at h2
      cases e2 : t xs[i] { g2 with env := wipeE g2.env vs } with
      | none => rw [e2] at h2; exact h2.elim
      | some g3 =>
        rw [e2] at h2
        dsimp only at h2
        have h2 := h2.later l3
        refine ht (N.with P (TDO P ks)) rfl rfl (L2.wipe σ vs) H2' _ fz3 is2 v xs[i] g3 _ sg rep e2 fun σ3 sr3' hw => ?_
        have hw := hw vs hts
        have hww : ∀ vs, L2.wipe (L2.wipe σ vs) vs = L2.wipe σ vs := fun vs => by
          apply List.ext_getElem?
          intro j
          rw [wipe_get, wipe_get, wipe_length]
          by_cases hj : j ∈ vs ∧ j < σ.length
          · rw [if_pos hj, if_pos hj]
          · rw [if_neg hj, if_neg hj]
        rw [hww] at hw
        refine ⟨hw, N.with P (TDO P ks), rfl, rfl, g3, fz3, is2, sr3', ?_⟩
        have fin : ∀ {g4 : Sg} {H4 : Hp} {fz4 : Addr → Prop} {is4 : List Addr} {ks' : DL} {kvs' : List (D × D)}, Le fz3 H2' is2 fz4 H4 is4 → SR (N.with P (TDO P ks)) σ3 H4 g4 fz4 is4 → RepT N.K is4 fz4 H4 ks' kvs' →
            postE N xm W σ H2' fz3 is2 Q (endD g1 vs (compD vs t tt mk mv (xs.drop (i + 1)) kvs' g4)) → ∃ g fz is ks kvs, SR N (L2.wipe σ vs) (upd H4 P (TDO P ks')) { g with env := wipeE g.env vs } fz is ∧ Le fz1 H1 is1 fz (upd H4 P (TDO P ks')) is ∧ Free N (L2.wipe σ vs) { g with env := wipeE g.env vs } fz is P ∧ (upd H4 P (TDO P ks')) P = some (TDO P ks) ∧ RepT N.K is fz (upd H4 P (TDO P ks')) ks kvs ∧
              postE N xm W σ (upd H4 P (TDO P ks')) fz is Q (endD g1 vs (compD vs t tt mk mv (xs.drop (i + 1)) kvs g)) := by
          intro g4 H4 fz4 is4 ks' kvs' l4 sr4 ra4 h4
          obtain ⟨s5, f5, _⟩ := (sr4.wipe vs).unguard nz ni nn
          rw [hw] at s5 f5
          have la : Le fz4 H4 is4 fz4 (upd H4 P (TDO P ks')) is4 := Le.alloc f5.own.nf
          exact ⟨g4, fz4, is4, ks', kvs', s5.alter f5 _, ((l2.trans l3).trans l4).trans la, f5, upd_same, ra4.mono la, (h4.later l4).later la⟩
        cases e3 : tt g3 with
        | stuck => rw [e3] at h2; exact h2.elim
        | exc x g' => rw [e3] at h2; exact h2.elim
        | ok b g4 =>
          rw [e3] at h2
          intro H4 fz4 is4 l4 sr4
          cases b with
          | false =>
            refine iteF ?_
            obtain ⟨g5, fz5, is5, ks5, kvs5, q1, q2, q3, q4, q5, q6⟩ := fin l4 sr4 ((nd.mono l3).mono l4) h2
            have hP4 : H4 P = some (TDO P ks) := ((sr4.frame P _ upd_same ni).resolve_right fun z => nz z.1)
            have : upd H4 P (TDO P ks) = H4 := by
              funext b
              by_cases e : b = P
              · subst e; rw [upd_same, hP4]
              · rw [upd_ne e]
            rw [this] at q1 q2 q4 q5 q6
            exact ⟨g5, fz5, is5, ks5, kvs5, q1, q2, q3, q4, q5, q6⟩
          | true =>
            refine iteT ⟨N.with P (TDO P ks), rfl, rfl, g4, fz4, is4, sr4, ?_⟩
            dsimp only at h2
            cases e4 : mk g4 with
            | stuck => rw [e4] at h2; exact h2.elim
            | exc x g' => rw [e4] at h2; exact h2.elim
            | ok r g5 =>
              rw [e4] at h2
              dsimp only at h2
              intro v5 H5 fz5 is5 l5 sr5 rep5
              cases e5 : toD r g5 with
              | stuck => rw [e5] at h2; exact h2.elim
              | exc x g' => rw [e5] at h2; exact h2.elim
              | ok k g6 =>
                rw [e5] at h2
                dsimp only at h2
                obtain ⟨fz6, l6, sr6, rep6⟩ := toD_ok sr5 rep5 e5
                refine ⟨N.with P (TDO P ks), rfl, rfl, g6, fz6, is5, sr6, ?_⟩
                cases e7 : mv g6 with
                | stuck => rw [e7] at h2; exact h2.elim
                | exc x g' => rw [e7] at h2; exact h2.elim
                | ok r7 g7 =>
                  rw [e7] at h2
                  dsimp only at h2
                  intro v7 H7 fz7 is7 l7 sr7 rep7
                  cases e8 : toD r7 g7 with
                  | stuck => rw [e8] at h2; exact h2.elim
                  | exc x g' => rw [e8] at h2; exact h2.elim
                  | ok v g8 =>
                    rw [e8] at h2
                    dsimp only at h2
                    obtain ⟨fz8, l8, sr8, rep8⟩ := toD_ok sr7 rep7 e8
                    cases ek : keyT k with
                    | none => rw [ek] at h2; exact h2.elim
                    | some n =>
                      rw [ek] at h2
                      dsimp only at h2
                      split at h2
                      · rename_i cond
                        have hP7 : H7 P = some (TDO P ks) := ((sr8.frame P _ upd_same ni).resolve_right fun z => nz z.1)
                        have all := (((((nd.mono l3).mono l4).mono l5).mono l6).mono l7).mono l8
                        have rk := (rep6.mono l7).mono l8
                        obtain ⟨b7, e9, dk⟩ := all.dkey hP7 rk ek
                        subst e9
                        refine ⟨ks, n, b7, rfl, ?_, by rw [← all.length]; exact cond, ?_⟩
                        · have hP8 : H7 P = some (TDO P ks) := hP7
                          exact dk
                        · exact fin (ks' := putN n b7 v7 ks) ((((l4.trans l5).trans l6).trans l7).trans l8) sr8 (all.put rk rep8 (keyT_eq ek).1) h2
                      · exact h2.elim
    · rintro H2 ⟨g2, fz2, is2, ks, kvs, sr2, l2, f2, hP2, ra, h2⟩
      rw [List.drop_length] at h2
      simp only [compD, endD] at h2
      have sb := SR.back sr1 l2 sr2
      have f : Free N σ { g2 with env := backE g1.env g2.env vs } fz2 is2 P := by
        refine ⟨f2.own, fun i ⟨c, hc⟩ z => ?_⟩
        rcases backE_some hc with ⟨_, _, d, e⟩ | ⟨n1, h3⟩
        · cases e
        · have : ∀ ws, i ∉ ws → (wipeE g2.env ws)[i]? = some (some (.own c)) := by
            intro ws
            induction ws with
            | nil => exact fun _ => h3
            | cons w ws ih2 =>
              intro hw
              simp only [List.mem_cons, not_or] at hw
              unfold wipeE
              rw [List.getElem?_set_ne (Ne.symm hw.1)]
              exact ih2 hw.2
          exact f2.ns i ⟨c, this vs n1⟩ (by rw [wipe_keep n1]; exact z)
      exact h2 (.ref P) H2 fz2 is2 .refl sb ⟨P, rfl, f.own, ⟨ks, hP2, ra.ks, ra.vs, ra.nk⟩, f.ns⟩
theorem e_dictC {kx vx : Expr} {ifs : List Expr} {scope : Scope} {own : List (Str × Nat)} {pos : Pos} {mi : ST (List D)} {ts : List Nat} {gt : TG} {t : TgM} {tt : ST Bool} {mk mv : ST RV} (c : MC X N W)
    (hi : PI X tg iter (liftI N xm W mi)) (ok : BlkOk X.N X.env.scope scope own)
    (hg : ∀ (s : Shared) (H : Hp) (C : Addr) (cl : List (Str × Addr)) (fp : List Addr), PG (X.blk s H scope (compEnvC scope cl C X.env) fp) tg gt) (ht : ∀ N' : En, N'.n = N.n → N'.K = N.K → TgF N' ts gt t) (hts : ∀ i ∈ ts, i ∈ own.map (·.2))
    (htt : ∀ (s : Shared) (H : Hp) (C : Addr) (cl : List (Str × Addr)) (fp : List Addr) (N' : En), N'.n = N.n → MC (X.blk s H scope (compEnvC scope cl C X.env) fp) N' WF → PTs (X.blk s H scope (compEnvC scope cl C X.env) fp) ifs (liftB N' xm WF tt))
    (hk : ∀ (s : Shared) (H : Hp) (C : Addr) (cl : List (Str × Addr)) (fp : List Addr) (N' : En), N'.n = N.n → MC (X.blk s H scope (compEnvC scope cl C X.env) fp) N' WF → PE (X.blk s H scope (compEnvC scope cl C X.env) fp) kx (lift N' xm WF mk))
    (he : ∀ (s : Shared) (H : Hp) (C : Addr) (cl : List (Str × Addr)) (fp : List Addr) (N' : En), N'.n = N.n → MC (X.blk s H scope (compEnvC scope cl C X.env) fp) N' WF → PE (X.blk s H scope (compEnvC scope cl C X.env) fp) vx (lift N' xm WF mv)) (hs : ∀ x, foldedSetIterable iter X.env x = pure x := by intro _; rfl) :
    PE X (.DictComp kx vx [⟨tg, iter, ifs, 0⟩] scope pos) (lift N xm W (mDictC mi (own.map (·.2)) t tt mk mv)) :=
  imp (pe_d2 c.un c.calm c.nd hi ok hg (fun s H C cl fp => any_t fun N' h1 h2 => htt s H C cl fp N' h2 (c.blk h1)) (fun s H C cl fp => any_e fun N' h1 h2 => hk s H C cl fp N' h2 (c.blk h1)) (fun s H C cl fp => any_e fun N' h1 h2 => he s H C cl fp N' h2 (c.blk h1)) hs) fun σ H Q h => by
    have := compD_ok c ht hts h
    rwa [c.hK] at this
end
end Mx

set_option Elab.async false
set_option linter.all false
set_option maxRecDepth 100000
set_option maxHeartbeats 4000000
/-! set(list of numbers), sorted -/
namespace NSet
open PySem PySem.Spec PyProof.Rows L2
def insAll (ns : List Int) : List Int := ns.foldl ins []
theorem insAll_snoc (ns : List Int) (k : Int) : insAll (ns ++ [k]) = ins (insAll ns) k := by simp [insAll]
theorem ins_len (l : List Int) (k : Int) : (ins l k).length ≤ l.length + 1 := by
  unfold ins
  split <;> simp
theorem foldl_ins_len : ∀ (ns acc : List Int), (ns.foldl ins acc).length ≤ acc.length + ns.length
  | [], acc => by simp
  | k :: ns, acc => by
    have h1 := foldl_ins_len ns (ins acc k)
    have h2 := ins_len acc k
    simp only [List.foldl_cons, List.length_cons]
    omega
theorem insAll_len (ns : List Int) : (insAll ns).length ≤ ns.length := by
  have := foldl_ins_len ns []
  simpa [insAll] using this
theorem ins_setR {w : World} {h : Heap} {a : Addr} {l : List Int} {k : Int} (N : SetR w h a (fun j => decide (j ∈ l) || decide (j = k)) (if decide (k ∈ l) = true then l.length else l.length + 1)) : SetR w h a (fun j => decide (j ∈ ins l k)) (ins l k).length := by
  have e1 : (fun j => decide (j ∈ l) || decide (j = k)) = fun j => decide (j ∈ ins l k) := by
    funext j
    unfold ins
    by_cases m : k ∈ l
    · rw [if_pos m]
      by_cases e : j = k
      · simp [e, m]
      · simp [e]
    · rw [if_neg m]
      simp
  have e2 : (if decide (k ∈ l) = true then l.length else l.length + 1) = (ins l k).length := by
    unfold ins
    by_cases m : k ∈ l <;> simp [m]
  rw [e1, e2] at N
  exact N
theorem ints_at : ∀ {us : List Value} {ns : List Int} {i : Nat} {v : Value}, IntsAre us ns → us[i]? = some v → ∃ (k : Int) (t : Tok), ns[i]? = some k ∧ v = .int k t
  | _, _, 0, _, .cons k t _, e => by
    simp only [List.getElem?_cons_zero, Option.some.injEq] at e
    exact ⟨k, t, rfl, e.symm⟩
  | _, _, i + 1, _, .cons _ _ r, e => by
    simp only [List.getElem?_cons_succ] at e ⊢
    exact ints_at r e
  | _, _, _, _, .nil, e => by simp at e
section
variable {P : Program} {w : World} {A : Around} {E : Value → Shared → Prop} {s : Shared}
/-- the loop of update -/
theorem loopI_ok {I : Addr} {fp wr : List Addr} {G : Array GenState → Array GenState → Prop} {n : Nat} {Pv : Nat → Value → Prop} {St : Nat → Shared → Prop} {R : Result → Shared → Prop}
    (W : WalksS P w A.in1 I fp wr G n Pv St) (S : Addr) (sf : S ∉ fp) (ns : List Int) (hn : n = ns.length) (few : ns.length < 4096) (val : ∀ i v, Pv i v → ∃ (k : Int) (t : Tok), ns[i]? = some k ∧ v = .int k t)
    (h0 : Heap) (s0 : h0.get? S = none) (w0 : ∀ b ∈ wr, h0.get? b = none) :
    ∀ (k i : Nat) (s : Shared), n - i = k → i ≤ n → St i s → (∀ b o, h0.get? b = some o → s.heap.get? b = some o) → SetR w s.heap S (fun k => decide (k ∈ insAll (ns.take i))) (insAll (ns.take i)).length →
      (∀ s', Moved (S :: wr) G s s' → SetR w s'.heap S (fun k => decide (k ∈ insAll ns)) (insAll ns).length → (∀ b o, h0.get? b = some o → s'.heap.get? b = some o) → R (.ok (.ret .none)) s') →
      codeAny (model P w) A (.builtin "set.update.loop" ⟨[.ref S, .ref I], []⟩) R s := by
  have sw : S ∉ wr := fun h => sf (W.sub _ h)
  have more : ∀ b ∈ wr, b ∈ S :: wr := fun b hb => List.mem_cons_of_mem _ hb
  have old : ∀ {s s' : Shared}, Moved wr G s s' → (∀ b o, h0.get? b = some o → s.heap.get? b = some o) → ∀ b o, h0.get? b = some o → s'.heap.get? b = some o := fun mv up b o e =>
    mv.heap b o (fun hb => by rw [w0 b hb] at e; cases e) (up b o e)
  intro k
  induction k with
  | zero =>
    intro i s ek hi st up N fin
    have : i = n := by omega
    subst this
    refine codeAny_builtin F.entry_set_update_loop ?_
    rw [Around.under_plainId F.plain_set_update_loop _]
    show wpAny _ A.in1 (pyNext (.ref I) >>= _) _ _ s
    refine wpAny_bind (W.done s _ _ st fun s' mv => ?_)
    show wpAny _ A.in1 (ret Value.none) _ _ s'
    have up' := old mv up
    have N' : SetR w s'.heap S _ _ := N.at fun o e => mv.heap S o sw e
    rw [hn, List.take_length] at N'
    exact wpAny_pure (fin s' (mv.mono more) N' up')
  | succ k ih =>
    intro i s ek hi st up N fin
    have lt : i < n := by omega
    refine codeAny_builtin F.entry_set_update_loop ?_
    rw [Around.under_plainId F.plain_set_update_loop _]
    show wpAny _ A.in1 (pyNext (.ref I) >>= _) _ _ s
    refine wpAny_bind (W.item i s _ _ lt st fun v s' pv st' mv => ?_)
    obtain ⟨k0, t0, hp, rfl⟩ := val i v pv
    have up' := old mv up
    have N' : SetR w s'.heap S _ _ := N.at fun o e => mv.heap S o sw e
    show wpAny _ A.in1 (holding [Value.int k0 t0] (setAdd S (.int k0 t0)) >>= _) _ _ s'
    refine wpAny_bind (wpAny_holding ?_)
    unfold setAdd
    refine wpAny_holding ?_
    refine wpAny_bind ((intKind P w).pyHash (intKind_is P w k0 t0) ?_)
    have li := insAll_len (ns.take i)
    have lt2 : (ns.take i).length ≤ i := by rw [List.length_take]; omega
    refine setR_add_hashed (s := { s' with toks := s'.toks + 1 }) N' (by unfold scanBound; omega) fun h' sb N2 => ?_
    have N3 : SetR w h' S (fun k => decide (k ∈ insAll (ns.take (i + 1)))) (insAll (ns.take (i + 1))).length := by
      have e := take_snoc hp
      rw [e, insAll_snoc]
      exact ins_setR N2
    have up2 : ∀ b o, h0.get? b = some o → h'.get? b = some o := fun b o e => (sb.2 b (fun z => by rw [z, s0] at e; cases e)).trans (up' b o e)
    refine wpAny_pure ⟨plainId_quiet F.plain_set_update_loop _, ih (i + 1) _ (by omega) lt (W.frame _ s' _ _ st' (Nat.le_add_right _ _) fun b hb o e => ?_) up2 N3 fun s2 mv2 N4 up3 => ?_⟩
    · rw [sb.2 b (fun h : b = S => sf (by rw [← h]; exact hb))]; exact e
    · refine fin s2 (Moved.trans W.gtrans ((mv.mono more).then_heap (Nat.le_add_right _ _) fun b o hb e => ?_) mv2) N4 up3
      rw [sb.2 b (fun h : b = S => hb (by rw [h]; exact List.mem_cons_self))]; exact e

set_option maxHeartbeats 8000000 in
/-- set(xs) -/
theorem setI_ok {l : Addr} {items : Array Value} (ns : List Int) {Q : Value → Shared → Prop} (hh : A.handled = none) (hl : s.heap.IsList l items) (hit : IntsAre items.toList ns) (few : ns.length < 4096)
    (h : ∀ (h' : Heap) (tk : Nat), SetR w h' s.heap.objs.size (fun k => decide (k ∈ insAll ns)) (insAll ns).length → (∀ b o, s.heap.get? b = some o → h'.get? b = some o) → Q (.ref s.heap.objs.size) { s with heap := h', toks := tk }) :
    wpAny (model P w) A (call (.type "set") [.ref l]) Q E s := by
  have isz : items.size = ns.length := by
    have q := IntsAre.length hit
    rwa [Array.length_toList] at q
  obtain ⟨c, tl, hmro⟩ := F.called_set.mro
  have hmade := F.called_set.made
  have hsub := F.called_set.sub
  refine wpAny_call (codeAny_of_tree ?_)
  show wpAny _ _ (callAny (.type "set") _) _ _ _
  refine wpAny_pure ⟨Code.quiet_builtin _ (by decide +kernel), codeAny_builtin F.entry_type_call ?_⟩
  rw [Around.under_plain (weight_type_call_type "set" [.ref l] []) rfl]
  have h1 := F.called_set.notType
  have h2 := F.called_set.canCreate
  have hct := F.typeCall_set_1 (.ref l)
  repeat (any_goals (first | assumption | wp_step))
  refine codeAny_mono (code_set_led1 (.ref l) (E := E) (Q₁ := fun obj s₁ => obj = .ref s.heap.objs.size ∧ s₁ = { s with heap := s.heap.push (newSet w) }) ⟨rfl, rfl⟩) fun r s₁ hr => ?_
  cases r with
  | error e => exact hr
  | ok fl =>
    cases fl with
    | ret obj =>
      obtain ⟨rfl, rfl⟩ := hr
      have gS : (s.heap.push (newSet w)).get? s.heap.objs.size = some (newSet w) := Heap.get?_push_size _ rfl
      have hT : Shared.TypeIs { s with heap := s.heap.push (newSet w) } (.ref s.heap.objs.size) "set" := ⟨_, gS, rfl⟩
      have hli := F.called_set.init.lookup
      have hbi := F.called_set.init.bind (.ref s.heap.objs.size)
      repeat (any_goals (first | assumption | wp_step))
      refine codeAny_mono (codeAny_call_builtin (R := wants (fun r s₂ => r = .none ∧ ∃ h' tk, s₂ = { s with heap := h', toks := tk } ∧ SetR w h' s.heap.objs.size (fun k => decide (k ∈ insAll ns)) (insAll ns).length ∧
          (∀ b o, s.heap.get? b = some o → h'.get? b = some o)) E) F.called_set.init.plain F.entry_set_init (check_set_init_1 hT ?_)) fun r₂ s₂ hr₂ => ?_
      · obtain ⟨ol, hol, hcl, nl, hdl⟩ := hl
        obtain ⟨ocls, odict, odata, oslots⟩ := ol
        simp only at hcl hdl
        subst hcl; subst hdl
        have hol' : (s.heap.push (newSet w)).get? l = some { cls := .type "list", dict := odict, data := .seq items nl, slots := oslots } := Heap.get?_push_of_some _ hol
        have hsls := F.sub_list_set
        have hslf := F.sub_list_frozenset
        have hne : (Value.type "list" == Value.type "dict") = false := by decide
        have hl1 : (s.heap.push (newSet w)).IsList l items := ⟨_, hol', rfl, nl, rfl⟩
        unfold Builtin.«set.__init__» noKeywords Builtin.Frozenset.updateFrom
        generalize hPI : pyIter = PI
        wp_walk
        subst hPI
        refine wpAny_pyIter_list hl1 ?_
        refine wpAny_bind (wpAny_runValue ?_)
        have lS : l < s.heap.objs.size := Heap.lt_size hol
        have hh3 : A.in1.in1.in1.handled = none := by simp [hh]
        have nI : l ≠ (s.heap.push (newSet w)).objs.size := by
          rw [Heap.size_push]; exact Nat.ne_of_lt (Nat.lt_succ_of_lt lS)
        have sf : s.heap.objs.size ∉ [(s.heap.push (newSet w)).objs.size, l] := by
          rw [Heap.size_push]; simp only [List.mem_cons, List.mem_singleton, List.not_mem_nil, or_false, not_or]
          exact ⟨Nat.ne_of_lt (Nat.lt_succ_self _), Nat.ne_of_gt lS⟩
        have val : ∀ (i : Nat) (v : Value), items[i]? = some v → ∃ (k : Int) (t : Tok), ns[i]? = some k ∧ v = .int k t := fun i v hv => by
          have q : items.toList[i]? = some v := by rw [Array.getElem?_toList]; exact hv
          exact ints_at hit q
        have beyond : ∀ b, s.heap.objs.size ≤ b → s.heap.get? b = none := fun b hb => by
          cases q : s.heap.get? b with
          | none => rfl
          | some o => exact absurd (Nat.lt_of_lt_of_le (Heap.lt_size q) hb) (Nat.lt_irrefl _)
        refine loopI_ok ((Walks.list hh3 _ l nI items).toS) s.heap.objs.size
          sf ns isz few val s.heap (beyond _ (Nat.le_refl _)) (fun b hb => beyond b (by
            rw [List.mem_singleton.mp hb, Heap.size_push]
            exact Nat.le_succ _)) (items.size - 0) 0 _ (by omega) (Nat.zero_le _)
          ⟨⟨_, Heap.get?_push_size _ rfl, rfl, rfl⟩, (hl1.push _)⟩ (fun b o e => Heap.get?_push_of_some _ (Heap.get?_push_of_some _ e)) ?first ?last
        case first =>
          have g2 : ((s.heap.push (newSet w)).push { cls := .type "list_iterator", data := .fields #[.ref l, .int 0 0] }).get? s.heap.objs.size = some (newSet w) := Heap.get?_push_of_some _ gS
          have q := setR_new_at (w := w) (ns := ([] : List Int)) g2
          simpa [insAll] using q
        case last =>
          intro s' mv N up
          obtain ⟨h', g2, d', tk', os'⟩ := s'
          have eg : g2 = s.gens := mv.gens
          have ed : d' = s.drawn := mv.drawn
          have eo : os' = s.os := mv.os
          subst eg; subst ed; subst eo
          show wpAny _ _ _ _ _ _
          refine wpAny_pure ?_
          show wpAny _ _ (ret Value.none) _ _ _
          exact wpAny_pure ⟨rfl, h', tk', rfl, N, up⟩
      · cases r₂ with
        | error e => exact hr₂
        | ok fl₂ =>
          cases fl₂ with
          | ret r =>
            obtain ⟨rfl, h', tk, rfl, N, up⟩ := hr₂
            repeat (any_goals (first | assumption | wp_step))
            exact h _ _ N up
          | _ => exact hr₂.elim
    | _ => exact hr.elim
end
end NSet

set_option Elab.async false
set_option linter.all false
set_option maxRecDepth 100000
set_option maxHeartbeats 4000000
/-! set(tuple of numbers) -/
namespace NSet
open PySem PySem.Spec PyProof.Rows L2
section
variable {P : Program} {w : World} {A : Around} {E : Value → Shared → Prop} {s : Shared}
set_option maxHeartbeats 8000000 in
/-- set(tuple of numbers) -/
theorem setIT_ok {l : Addr} {items : Array Value} (ns : List Int) {Q : Value → Shared → Prop} (hh : A.handled = none) (hl : s.heap.IsTuple l items) (hit : IntsAre items.toList ns) (few : ns.length < 4096)
    (h : ∀ (h' : Heap) (tk : Nat), SetR w h' s.heap.objs.size (fun k => decide (k ∈ insAll ns)) (insAll ns).length → (∀ b o, s.heap.get? b = some o → h'.get? b = some o) → Q (.ref s.heap.objs.size) { s with heap := h', toks := tk }) :
    wpAny (model P w) A (call (.type "set") [.ref l]) Q E s := by
  have isz : items.size = ns.length := by
    have q := IntsAre.length hit
    rwa [Array.length_toList] at q
  obtain ⟨c, tl, hmro⟩ := F.called_set.mro
  have hmade := F.called_set.made
  have hsub := F.called_set.sub
  refine wpAny_call (codeAny_of_tree ?_)
  show wpAny _ _ (callAny (.type "set") _) _ _ _
  refine wpAny_pure ⟨Code.quiet_builtin _ (by decide +kernel), codeAny_builtin F.entry_type_call ?_⟩
  rw [Around.under_plain (weight_type_call_type "set" [.ref l] []) rfl]
  have h1 := F.called_set.notType
  have h2 := F.called_set.canCreate
  have hct := F.typeCall_set_1 (.ref l)
  repeat (any_goals (first | assumption | wp_step))
  refine codeAny_mono (code_set_led1 (.ref l) (E := E) (Q₁ := fun obj s₁ => obj = .ref s.heap.objs.size ∧ s₁ = { s with heap := s.heap.push (newSet w) }) ⟨rfl, rfl⟩) fun r s₁ hr => ?_
  cases r with
  | error e => exact hr
  | ok fl =>
    cases fl with
    | ret obj =>
      obtain ⟨rfl, rfl⟩ := hr
      have gS : (s.heap.push (newSet w)).get? s.heap.objs.size = some (newSet w) := Heap.get?_push_size _ rfl
      have hT : Shared.TypeIs { s with heap := s.heap.push (newSet w) } (.ref s.heap.objs.size) "set" := ⟨_, gS, rfl⟩
      have hli := F.called_set.init.lookup
      have hbi := F.called_set.init.bind (.ref s.heap.objs.size)
      repeat (any_goals (first | assumption | wp_step))
      refine codeAny_mono (codeAny_call_builtin (R := wants (fun r s₂ => r = .none ∧ ∃ h' tk, s₂ = { s with heap := h', toks := tk } ∧ SetR w h' s.heap.objs.size (fun k => decide (k ∈ insAll ns)) (insAll ns).length ∧
          (∀ b o, s.heap.get? b = some o → h'.get? b = some o)) E) F.called_set.init.plain F.entry_set_init (check_set_init_1 hT ?_)) fun r₂ s₂ hr₂ => ?_
      · obtain ⟨ol, hol, hcl, nl, hdl⟩ := hl
        obtain ⟨ocls, odict, odata, oslots⟩ := ol
        simp only at hcl hdl
        subst hcl; subst hdl
        have hol' : (s.heap.push (newSet w)).get? l = some { cls := .type "tuple", dict := odict, data := .seq items nl, slots := oslots } := Heap.get?_push_of_some _ hol
        have hsls := F.sub_tuple_set
        have hslf := F.sub_tuple_frozenset
        have hne : (Value.type "tuple" == Value.type "dict") = false := by decide
        have hl1 : (s.heap.push (newSet w)).IsTuple l items := ⟨_, hol', rfl, nl, rfl⟩
        unfold Builtin.«set.__init__» noKeywords Builtin.Frozenset.updateFrom
        generalize hPI : pyIter = PI
        wp_walk
        subst hPI
        refine wpAny_pyIter_tuple hl1 ?_
        refine wpAny_bind (wpAny_runValue ?_)
        have lS : l < s.heap.objs.size := Heap.lt_size hol
        have hh3 : A.in1.in1.in1.handled = none := by simp [hh]
        have nI : l ≠ (s.heap.push (newSet w)).objs.size := by
          rw [Heap.size_push]; exact Nat.ne_of_lt (Nat.lt_succ_of_lt lS)
        have sf : s.heap.objs.size ∉ [(s.heap.push (newSet w)).objs.size, l] := by
          rw [Heap.size_push]; simp only [List.mem_cons, List.mem_singleton, List.not_mem_nil, or_false, not_or]
          exact ⟨Nat.ne_of_lt (Nat.lt_succ_self _), Nat.ne_of_gt lS⟩
        have val : ∀ (i : Nat) (v : Value), items[i]? = some v → ∃ (k : Int) (t : Tok), ns[i]? = some k ∧ v = .int k t := fun i v hv => by
          have q : items.toList[i]? = some v := by rw [Array.getElem?_toList]; exact hv
          exact ints_at hit q
        have beyond : ∀ b, s.heap.objs.size ≤ b → s.heap.get? b = none := fun b hb => by
          cases q : s.heap.get? b with
          | none => rfl
          | some o => exact absurd (Nat.lt_of_lt_of_le (Heap.lt_size q) hb) (Nat.lt_irrefl _)
        refine loopI_ok ((Walks.tuple hh3 _ l nI items).toS) s.heap.objs.size
          sf ns isz few val s.heap (beyond _ (Nat.le_refl _)) (fun b hb => beyond b (by
            rw [List.mem_singleton.mp hb, Heap.size_push]
            exact Nat.le_succ _)) (items.size - 0) 0 _ (by omega) (Nat.zero_le _)
          ⟨⟨_, Heap.get?_push_size _ rfl, rfl, rfl⟩, (hl1.push _)⟩ (fun b o e => Heap.get?_push_of_some _ (Heap.get?_push_of_some _ e)) ?first ?last
        case first =>
          have g2 : ((s.heap.push (newSet w)).push { cls := .type "tuple_iterator", data := .fields #[.ref l, .int 0 0] }).get? s.heap.objs.size = some (newSet w) := Heap.get?_push_of_some _ gS
          have q := setR_new_at (w := w) (ns := ([] : List Int)) g2
          simpa [insAll] using q
        case last =>
          intro s' mv N up
          obtain ⟨h', g2, d', tk', os'⟩ := s'
          have eg : g2 = s.gens := mv.gens
          have ed : d' = s.drawn := mv.drawn
          have eo : os' = s.os := mv.os
          subst eg; subst ed; subst eo
          show wpAny _ _ _ _ _ _
          refine wpAny_pure ?_
          show wpAny _ _ (ret Value.none) _ _ _
          exact wpAny_pure ⟨rfl, h', tk', rfl, N, up⟩
      · cases r₂ with
        | error e => exact hr₂
        | ok fl₂ =>
          cases fl₂ with
          | ret r =>
            obtain ⟨rfl, h', tk, rfl, N, up⟩ := hr₂
            repeat (any_goals (first | assumption | wp_step))
            exact h _ _ N up
          | _ => exact hr₂.elim
    | _ => exact hr.elim
end
section
variable {X : Cx}
theorem ints_of_V : ∀ {us : List Value} {ns : List Int}, Vals (ns.map V.int) us → IntsAre us ns
  | _, [], .nil => .nil
  | _, n :: ns, .cons r t => by
    obtain ⟨tk, rfl⟩ := r
    exact .cons n tk (ints_of_V t)
def rSetIT (K : PySem.W.Frag) (w : World) : List V → Hp → VK → Prop := fun xs H Q => ∃ (l : Addr) (ns : List Int), xs = [V.ref l] ∧ SqT K H l (ns.map V.int) ∧ ns.length < 4096 ∧ ∀ a, H a = none → Q (.ref a) (upd H a (SIO w a (insAll ns)))
theorem cr_setIT (hc : X.calm = true) : CallR X (.type "set") (rSetIT X.K X.w) := by
  intro pins s σ H xs us Q I r h
  obtain ⟨l, ns, rfl, hl, few, q⟩ := h
  rw [Vals.ref1 r]
  obtain ⟨its, rv, pl, _⟩ := I.tuple hl
  refine setIT_ok (P := X.prog) (w := X.w) ns (I.ok.hd hc) pl (by simpa using ints_of_V rv) few fun h' tk R up => ?_
  exact ⟨.ref s.heap.objs.size, upd H s.heap.objs.size (SIO X.w s.heap.objs.size (insAll ns)), I.laid (t' := tk) up (Nat.le_refl _) (sio_new R), rfl, q _ (I.hok.fresh (Nat.le_refl _))⟩
end
end NSet

set_option Elab.async false
set_option linter.all false
set_option maxRecDepth 100000
/-! mirrors: sorted(set(list of numbers)) -/
namespace NSet
open PySem PySem.Spec PyProof.Rows L2
section
variable {X : Cx}
/-- set(list of numbers) -/
def rSetI (K : PySem.W.Frag) (w : World) : List V → Hp → VK → Prop := fun xs H Q => ∃ (l : Addr) (ns : List Int), xs = [V.ref l] ∧ SqL K H l (ns.map V.int) ∧ ns.length < 4096 ∧ ∀ a, H a = none → Q (.ref a) (upd H a (SIO w a (insAll ns)))
theorem cr_setI (hc : X.calm = true) : CallR X (.type "set") (rSetI X.K X.w) := by
  intro pins s σ H xs us Q I r h
  obtain ⟨l, ns, rfl, hl, few, q⟩ := h
  rw [Vals.ref1 r]
  obtain ⟨its, rv, pl, _⟩ := I.list hl
  refine setI_ok (P := X.prog) (w := X.w) ns (I.ok.hd hc) pl.isList (by simpa using ints_of_V rv) few fun h' tk R up => ?_
  exact ⟨.ref s.heap.objs.size, upd H s.heap.objs.size (SIO X.w s.heap.objs.size (insAll ns)), I.laid (t' := tk) up (Nat.le_refl _) (sio_new R), rfl, q _ (I.hok.fresh (Nat.le_refl _))⟩
end
end NSet
namespace Mx
open PySem PySem.Spec PyProof.Rows L2 NSet
theorem insAll_nodup (ns : List Int) : (insAll ns).Nodup := by
  have go : ∀ (ns acc : List Int), acc.Nodup → (ns.foldl ins acc).Nodup := by
    intro ns
    induction ns with
    | nil => intro acc h; exact h
    | cons k ns ih => intro acc h; exact ih _ (ins_nodup h k)
  exact go ns [] List.nodup_nil
theorem ints_back {K : PySem.W.Frag} {is : List Addr} {fz : Addr → Prop} {H : Hp} {vs : List V} {xs : List D} {ns : List Int} (r : RepA K is fz H vs xs) (e : intsD xs = some ns) : vs = ns.map V.int := ints_rep r e
/-- sorted(set(xs)): numbers, or tuples of numbers -/
def sortSetA (xs : List D) : Option (List D) := match intsD xs with
  | some ns => if ns.length < 4096 then some ((sortI (insAll ns)).map D.int) else none
  | none => sortSetN xs
def mSortSetA (m : ST RV) : ST RV := bnd m fun r g => match peek (frz r) g with
  | some (.lst xs) => match sortSetA xs with
    | some ys => .ok (.tmp (.lst ys)) g
    | none => .stuck
  | some (.tup xs) => match intsD xs with
    | some ns => if ns.length < 4096 then .ok (.tmp (.lst ((sortI (insAll ns)).map D.int))) g else .stuck
    | none => .stuck
  | _ => .stuck
section
variable {X : Cx} {N : En} {xm : XM} {W : WX}
theorem e_sortSetA {e : Expr} {m : ST RV} {p p2 pos pos2 : Pos} (c : MC X N W) (hg1 : Gl X "sorted") (hm1 : X.mg "sorted" = none) (hg2 : Gl X "set") (hm2 : X.mg "set" = none) (he : PE X e (lift N xm W m))
    (hs : starEach [e] X.env = [(false, eval e X.env)] := by rfl) (hs2 : starEach [.Call (.Name "set" p) [e] [] pos] X.env = [(false, eval (.Call (.Name "set" p) [e] [] pos) X.env)] := by rfl) :
    PE X (.Call (.Name "sorted" p2) [.Call (.Name "set" p) [e] [] pos] [] pos2) (lift N xm W (mSortSetA m)) := by
  have hK := c.hK
  refine imp (pe_callB ((cr_sortN c.calm c.un).or (cr_sortI c.calm)) hg1 hm1 bo_sorted (pa_cons (pe_callTy (CallR.or (CallR.or (cr_setN c.calm c.un) (cr_setI c.calm)) (cr_setIT c.calm)) hg2 hm2 bo_set (pa_cons he pa_nil hs) (he := hs)) pa_nil hs2)) fun σ H Q ⟨g, fz, is, sr, h⟩ => step sr h fun r g1 v H1 fz1 is1 l1 sr1 rep h1 => ?_
  obtain ⟨fz2, l2, sr2, rep2, nt⟩ := frz_ok sr1 rep
  have h1 := h1.later l2
  split at h1
  · rename_i xs hx
    have pr := (RVw.of rep2 nt).at sr2 hx
    obtain ⟨a, vs, rfl, ha, ra⟩ := pr.lst
    split at h1
    · rename_i ys hy
      unfold sortSetA at hy
      split at hy
      · rename_i ns hk
        split at hy
        · rename_i few
          cases hy
          have ev := ints_back ra hk
          subst ev
          refine .inl (.inr ⟨a, ns, rfl, .inl (.inl ha), few, fun a1 n1 => ?_⟩)
          have f1 := sr2.free n1
          have sr3 := sr2.alter f1 (SIO X.w a1 (insAll ns))
          have l3 : Le fz2 H1 is1 fz2 (upd H1 a1 (SIO X.w a1 (insAll ns))) is1 := Le.alloc f1.own.nf
          refine .inr ⟨a1, insAll ns, rfl, upd_same, by have := insAll_len ns; omega, fun ms p pw mem hp => ?_⟩
          rw [lt_unique pw mem (insAll_nodup ns)]
          have f2 := sr3.free hp
          exact (h1.later l3) (.ref p) _ fz2 is1 (Le.alloc f2.own.nf) (sr3.alter f2 _) ⟨p, rfl, f2.own, ⟨_, upd_same, rep_ints _⟩, f2.ns⟩
        · cases hy
      unfold sortSetN at hy
      split at hy
      · rename_i ks hk
        split at hy
        · rename_i cond
          cases hy
          obtain ⟨few, gb, dep⟩ := cond
          have gd := good_of gb
          have ne : ks.all isTupNE = true := by
            simp only [goodB, Bool.and_eq_true] at gb
            exact gb.1
          obtain ⟨L, rfl, e2, h2⟩ := refs_of ra hk ne
          rw [hK] at h2
          have dp : ∀ p ∈ L, p.2.depth ≤ 8 := fun p hp => by
            rw [List.all_eq_true] at dep
            exact of_decide_eq_true (dep p.2 (by rw [← e2]; exact List.mem_map.mpr ⟨p, hp, rfl⟩))
          refine .inl (.inl ⟨a, L, rfl, .inl (.inl ha), fun p hp => ⟨(h2 p hp).1, dp p hp⟩, by rw [← e2, List.length_map] at few; exact few, fun a1 L1 n1 sub all => ?_⟩)
          have f1 := sr2.free n1
          have sr3 := sr2.alter f1 (NSO X.w a1 L1)
          have l3 : Le fz2 H1 is1 fz2 (upd H1 a1 (NSO X.w a1 L1)) is1 := Le.alloc f1.own.nf
          have later : ∀ q ∈ L1, Rep N.K is1 fz2 (upd H1 a1 (NSO X.w a1 L1)) (.ref q.1) (dOf q.2) := fun q hq => ((hK ▸ (h2 q (sub q hq)).2 : Rep N.K is1 fz2 H1 (.ref q.1) (dOf q.2))).mono l3
          have inks : ∀ q ∈ L1, q.2 ∈ ks := fun q hq => by rw [← e2]; exact List.mem_map.mpr ⟨q, sub q hq, rfl⟩
          refine .inl ⟨a1, L1, rfl, upd_same, fun q hq => ⟨?_, dp q (sub q hq)⟩, Good.sub gd fun k hk' => ?_, fun L' p pm nd pw hp => ?_⟩
          · have back : nkOf (dOf q.2) = some q.2 := nkOf_dOf ks q.2 hk (inks q hq)
            rw [← hK]
            exact vkey_of _ _ _ back (later q hq)
          · obtain ⟨q, hq, rfl⟩ := List.mem_map.mp hk'
            exact inks q hq
          · have f2 := sr3.free hp
            have e4 : L'.map (·.2) = sortN ks := by
              refine sortN_unique gd.2 nd (List.pairwise_map.mpr pw) fun k => ?_
              rw [(pm.map (·.2)).mem_iff, ← e2]
              constructor
              · intro q
                obtain ⟨r, hr, e⟩ := List.mem_map.mp q
                exact List.mem_map.mpr ⟨r, sub r hr, e⟩
              · intro q
                obtain ⟨r, hr, e⟩ := List.mem_map.mp q
                rw [← e]
                exact all r hr
            have l4 : Le fz2 (upd H1 a1 (NSO X.w a1 L1)) is1 fz2 (upd (upd H1 a1 (NSO X.w a1 L1)) p (.lst (L'.map fun q => V.ref q.1))) is1 := Le.alloc f2.own.nf
            refine (h1.later l3) (.ref p) _ fz2 is1 l4 (sr3.alter f2 _) ⟨p, rfl, f2.own, ⟨_, upd_same, ?_⟩, f2.ns⟩
            rw [← e4, List.map_map]
            have all2 : ∀ l : KL, (∀ q ∈ l, q ∈ L1) → RepA N.K is1 fz2 (upd H1 a1 (NSO X.w a1 L1)) (l.map fun q => V.ref q.1) (l.map (dOf ∘ fun x => x.2)) := by
              intro l
              induction l with
              | nil => intro _; exact .nil
              | cons q l ih => intro hl; exact .cons (later q (hl q List.mem_cons_self)) (ih fun r hr => hl r (List.mem_cons_of_mem _ hr))
            exact (all2 L' fun q hq => pm.mem_iff.mp hq).mono l4
        · cases hy
      · cases hy
    · exact h1.elim
  · rename_i xs hx
    have pr := (RVw.of rep2 nt).at sr2 hx
    obtain ⟨a, vs, rfl, ha, ra⟩ := pr.tup
    split at h1
    · rename_i ns hk
      split at h1
      · rename_i few
        have ev := ints_back ra hk
        subst ev
        refine .inr ⟨a, ns, rfl, (by first | (rw [hK]; exact sqT_of ha) | (rw [← hK]; exact sqT_of ha)), few, fun a1 n1 => ?_⟩
        have f1 := sr2.free n1
        have sr3 := sr2.alter f1 (SIO X.w a1 (insAll ns))
        have l3 : Le fz2 H1 is1 fz2 (upd H1 a1 (SIO X.w a1 (insAll ns))) is1 := Le.alloc f1.own.nf
        refine .inr ⟨a1, insAll ns, rfl, upd_same, by have := insAll_len ns; omega, fun ms p pw mem hp => ?_⟩
        rw [lt_unique pw mem (insAll_nodup ns)]
        have f2 := sr3.free hp
        exact (h1.later l3) (.ref p) _ fz2 is1 (Le.alloc f2.own.nf) (sr3.alter f2 _) ⟨p, rfl, f2.own, ⟨_, upd_same, rep_ints _⟩, f2.ns⟩
      · exact h1.elim
    · exact h1.elim
  · exact h1.elim
end
end Mx

set_option Elab.async false
set_option linter.all false
set_option maxRecDepth 100000
set_option maxHeartbeats 4000000
/-! enumerate(list) as a thing that is walked; code that is never reached -/
namespace Mx
open PySem PySem.Spec PyProof.Rows L2
def enumD : Nat → List D → List D
  | _, [] => []
  | n, x :: xs => .tup [.int n, x] :: enumD (n + 1) xs
theorem enumD_len : ∀ (n : Nat) (xs : List D), (enumD n xs).length = xs.length
  | _, [] => rfl
  | n, _ :: xs => by simp [enumD, enumD_len (n + 1) xs]
theorem enumD_get : ∀ (n : Nat) (xs : List D) (i : Nat) (y : D), (enumD n xs)[i]? = some y → ∃ x, xs[i]? = some x ∧ y = .tup [.int ((n + i : Nat) : Int), x]
  | _, [], i, y, h => by simp [enumD] at h
  | n, x :: xs, 0, y, h => by
    simp only [enumD, List.getElem?_cons_zero, Option.some.injEq] at h
    exact ⟨x, rfl, h.symm⟩
  | n, x :: xs, i + 1, y, h => by
    simp only [enumD, List.getElem?_cons_succ] at h
    obtain ⟨z, h1, h2⟩ := enumD_get (n + 1) xs i y h
    refine ⟨z, by simpa using h1, ?_⟩
    rw [h2, show n + 1 + i = n + (i + 1) by omega]
theorem serves_enum {K : PySem.W.Frag} {a : Addr} {vs : List V} {xs : List D} {fz : Addr → Prop} {H : Hp} {is : List Addr} (dom : ∀ b, fz b → ∃ o, H b = some o) (hz : fz a) (h : H a = some (.lst vs)) (r : RepA K is fz H vs xs) : Serves K (Ite K a) (enumD 0 xs) fz H is := by
  have el : vs.length = (enumD 0 xs).length := by rw [enumD_len, r.length]
  refine ⟨⟨_, _, el ▸ walk_enum (K := K) (a := a) (xs := vs), fun fz' H' is' l => .of (l.at hz h), ?_⟩⟩
  rintro i x fz' H' is' v _ hx l ⟨T, x1, y1, rfl, hT, rfl, e1, e2⟩
  cases e1
  obtain ⟨z, hz1, rfl⟩ := enumD_get 0 xs i x hx
  refine ⟨_, .new T _ hT, ?_⟩
  have l2 : Le fz H is (fun b => fz' b ∨ b = T) (upd H' T (.tup [.int (i : Nat), y1])) is' := by
    refine ⟨fun b hb => .inl (l.up b hb), fun b hb => ?_, l.ix⟩
    obtain ⟨o, ho⟩ := dom b hb
    rw [upd_ne (fun z => ?_)]
    · exact l.hp b hb
    subst z
    obtain ⟨u, hu⟩ := (l.hp b hb).some ho
    rw [hu] at hT
    cases hT
  rw [Nat.zero_add]
  exact .tup (.inl ⟨.inr rfl, upd_same⟩) (.cons (.int _) (.cons (Rep.at l2 r hz1 e2) .nil))
section
variable {X : Cx} {N : En} {xm : XM} {W : WX}
end
end Mx

set_option Elab.async false
set_option linter.all false
set_option maxRecDepth 100000
set_option maxHeartbeats 4000000
/-! enumerate(tuple) -/
namespace NSet
open PySem PySem.Spec PyProof.Rows L2
theorem enum_new {v : Value} {o : Obj} {H : Heap → Prop} (B : Begins v o H) :
    Meets (Builtin.«enumerate.__new__» ⟨[.type "enumerate", v], []⟩) (fun _ R s => H s.heap ∧
      R (.ok (.ret (.ref (s.heap.push o).objs.size))) { s with heap := (s.heap.push o).push { cls := .type "enumerate", data := .fields #[.none, .bool false, .ref s.heap.objs.size, rawInt 0, .none, .none] } }) :=
  .of_wp fun prog w A R s h => by
    obtain ⟨hp, g, d, tk, os⟩ := s
    obtain ⟨h1, h⟩ := h
    have sub := sub_enumerate
    have begin_ : ∀ {A' : Around} {E : Value → Shared → Prop} {Q : Value → Shared → Prop}, Q (.ref hp.objs.size) ⟨hp.push o, g, d, tk, os⟩ → wpAny (model prog w) A' (pyIter v) Q E ⟨hp, g, d, tk, os⟩ :=
      fun q => B.iter prog w _ _ ⟨hp, g, d, tk, os⟩ _ h1 q
    wp_walk using begin_
    refine wpAny_stack_any fun st => wpAny_pure ?_
    split
    · rename_i c _ _ _ _ _
      cases (c == Value.type "enumerate")
      · wp_walk using begin_
        exact ⟨_, rfl, h⟩
      · wp_walk using begin_
        exact ⟨_, rfl, h⟩
    · wp_walk using begin_
      exact ⟨_, rfl, h⟩
section
variable {prog : Program} {w : World} {A : Around} {E : Value → Shared → Prop} {s : Shared}
theorem enum_call {v : Value} {o : Obj} {H : Heap → Prop} {Q : Value → Shared → Prop} (B : Begins v o H) (h1 : H s.heap)
    (h : ∀ h', IsEnum h' (s.heap.objs.size + 1) s.heap.objs.size 0 .none → h'.get? s.heap.objs.size = some o → h'.objs.size = s.heap.objs.size + 2 →
      (∀ b o, s.heap.get? b = some o → h'.get? b = some o) → Q (.ref (s.heap.objs.size + 1)) { s with heap := h' }) :
    wpAny (model prog w) A (call (.type "enumerate") [v]) Q E s := by
  refine callType_new F.called_enumerate (by decide) (F.typeCall_enumerate_1 _) (F.newCall_enumerate_1 _) (fun obj => F.args_object_init_2 obj _) F.entry_enumerate_new (enum_new B) ⟨h1, ?_⟩
  have sz : (s.heap.push o).objs.size = s.heap.objs.size + 1 := Heap.size_push ..
  show _ ∧ _
  rw [sz]
  have he : IsEnum ((s.heap.push o).push { cls := .type "enumerate", data := .fields #[.none, .bool false, .ref s.heap.objs.size, rawInt 0, .none, .none] }) (s.heap.objs.size + 1) s.heap.objs.size 0 .none := by
    have g := Heap.get?_push_size (s.heap.push o) (o := { cls := .type "enumerate", data := .fields #[.none, .bool false, .ref s.heap.objs.size, rawInt 0, .none, .none] }) rfl
    rw [sz] at g
    exact g
  exact ⟨⟨_, he, rfl⟩, h _ he (Heap.get?_push_of_some _ (Heap.get?_push_size _ B.free)) (by rw [Heap.size_push, sz]) fun b o x => Heap.get?_push_of_some _ (Heap.get?_push_of_some _ x)⟩
end
/-- the tuple at a, each item in a new pair -/
def Itn (K : PySem.W.Frag) (a : Addr) : It :=
  ⟨fun i H => ∃ (xs : List V) (x : V), SqT K H a xs ∧ xs[i]? = some x, fun i H v H' => ∃ T x, v = .ref T ∧ H T = none ∧ H' = upd H T (.tup [.int (i : Nat), x]) ∧ ∀ xs, SqT K H a xs → xs[i]? = some x, fun i H => ∃ xs : List V, SqT K H a xs ∧ xs.length ≤ i⟩
theorem turn_enumT {P : Program} {w : World} {K : PySem.W.Frag} {elts : List Expr} {kk : Nat} {tpos : Pos} (a e it : Addr) :
    Turn P w K (.Tuple elts kk tpos) (Itn K a) [e, it] e (fun i h => (∃ old, IsEnum h e it ((i : Nat) : Int) old) ∧ h.IsTupleIter it a i ∧ e ≠ it) where
  mem := by simp
  obj := fun i h st b hb => by
    obtain ⟨⟨old, he⟩, ⟨o, ho, hc, hd⟩, _⟩ := st
    rcases (by simpa using hb : b = e ∨ b = it) with z | z
    · rw [z]; exact ⟨_, he, fun v q => nomatch q⟩
    · rw [z]; exact ⟨o, ho, fun v q => by rw [hd] at q; cases q⟩
  keep := fun i h h' st k => let ⟨⟨old, he⟩, hi, hne⟩ := st; ⟨⟨old, k e (by simp) _ he⟩, hi.at fun o q => k it (by simp) o q, hne⟩
  item := by
    intro X hP hw hK hc i pins s σ H E I hf st hg
    subst hP hw hK
    obtain ⟨⟨old, he⟩, hit, hne⟩ := st
    obtain ⟨xs, x, hq, hx⟩ := hg
    obtain ⟨its, rv, p, hz⟩ := I.tuple hq
    obtain ⟨u, hu, ru⟩ := rv.get hx
    have pt : s.heap.IsTuple a its.toArray := p
    have hel : e < s.heap.objs.size := Heap.lt_size he
    have hil : it < s.heap.objs.size := by obtain ⟨_, q, _⟩ := hit; exact Heap.lt_size q
    have ai : a ≠ it := fun z => by
      obtain ⟨o, g, c, n, d⟩ := p
      obtain ⟨o2, g2, c2, d2⟩ := hit
      subst z
      rw [g] at g2; cases g2
      rw [c] at c2
      injection c2 with c3
      exact absurd c3 (by decide)
    have ae : e ≠ a := fun z => by
      obtain ⟨o, g, c, n, d⟩ := p
      subst z
      have q : s.heap.get? e = _ := he
      rw [g] at q; cases q
      injection c with c3
      exact absurd c3 (by decide)
    have il : i < its.toArray.size := by
      have := (List.getElem?_eq_some_iff.mp hu).1
      simpa using this
    have D := Draws.tuple (prog := X.prog) (w := X.w) (A := X.A.in1) (by show X.A.in1.handled = none; simp [I.ok.hd hc]) it a ai its.toArray
    refine wpAny_pyNext_enum_itemD D he ⟨hit, pt⟩ il hne (by simp [hne, ae]) fun x1 h' tk px ho st' hT hsz hk => ?_
    have ex : x1 = u := by
      have q : its.toArray[i]? = some x1 := px
      rw [List.getElem?_toArray, hu] at q
      exact (Option.some.inj q).symm
    subst ex
    refine ⟨_, rfl, wpAny_letOwnedTupleGo_enum (s := { s with heap := h', toks := tk + 1 }) ho fun h'' he' sb => ?_⟩
    have hT2 : h''.get? s.heap.objs.size = some { cls := .type "tuple", data := .seq #[.int i tk, x1] } := (sb.2 _ (Nat.ne_of_gt hel)).trans hT
    have new : ObjOk X.prog X.w (upd H s.heap.objs.size (.tup [.int (i : Nat), x])) h'' s.heap.objs.size (.tup [.int (i : Nat), x]) :=
      ⟨by show 2 ≤ sizeLine; decide, [.int i tk, x1], .cons ⟨_, rfl⟩ (.cons ru .nil), ⟨_, hT2, rfl, _, rfl⟩⟩
    have I1 : Inv X pins σ (upd H s.heap.objs.size (.tup [.int (i : Nat), x])) { s with heap := h'', toks := tk + 1 } :=
      I.turnedNew (ch := [e, it]) (fun b ob hb q => (sb.2 b (fun z => hb (by simp [z]))).trans (hk b ob (fun z => hb (by simp [z])) (fun z => hb (by simp [z])) q)) hf (Nat.le_refl _) new
    refine ⟨.ref s.heap.objs.size, _, I1, rfl, ⟨_, x, rfl, I.hok.fresh (Nat.le_refl _), rfl, fun ys hy => by rw [I.tuple_inj hy hq]; exact hx⟩, ⟨⟨x1, ?_⟩, st'.1.at fun o q => (sb.2 it (Ne.symm hne)).trans q, hne⟩, fun b hb => ?_⟩
    · have e1 : ((i + 1 : Nat) : Int) = (i : Int) + 1 := by omega
      rw [e1]; exact he'
    · have hb' : b < s.heap.objs.size := by
        rcases (by simpa using hb : b = e ∨ b = it) with z | z
        · rw [z]; exact hel
        · rw [z]; exact hil
      rw [upd_ne (Nat.ne_of_lt hb')]
      exact (hf b hb).1
  done := by
    intro X hP hw hK hc i pins s σ H E I hf st hg
    subst hP hw hK
    obtain ⟨⟨old, he⟩, hit, hne⟩ := st
    obtain ⟨xs, hq, hx⟩ := hg
    obtain ⟨its, rv, p, hz⟩ := I.tuple hq
    obtain ⟨f0, f1, f2, f3, f4, f5⟩ := hf it (by simp)
    have hl := rv.length
    have hT : s.TypeIs (.ref e) "enumerate" := ⟨_, he, rfl⟩
    unfold pyNext
    refine wpAny_bind (wpAny_attempt (wpAny_callSpecial?_slot (name := Str.ofString "__next__") hT F.slot_enumerate_next
      (wpAny_call_entry F.slot_enumerate_next hT F.entry_enumerate_next ?_ (F.args_enumerate_next_1 _))))
    show wpAny _ _ (field (.ref e) 2 >>= _) _ _ _
    refine wpAny_bind (wpAny_field he rfl (x := .ref it) rfl ?_)
    refine wpAny_bind (wpAny_nextOf_tuple_end (by show X.A.in1.handled = none; simp [I.ok.hd hc]) hit (show s.heap.IsTuple a its.toArray from p) (by simp; omega) fun h' x he' hx' => ?_)
    obtain ⟨o, ho, hc2⟩ := hx'
    refine wpAny_bind (wpAny_isInstance (T := "StopIteration") (b := true) ⟨o, ho, hc2⟩ isSubtype_stop ?_)
    exact wpAny_pure ⟨rfl, I.turned (t' := s.toks) (fun b o hb q => he' b o hb q) f0 f1 f3 f4 f5⟩
  self := fun A i s Q E st h => let ⟨⟨_, he⟩, _⟩ := st; wpAny_pyIter_enum he h
def iEnumT (K : PySem.W.Frag) (ta : TA) : TI := fun σ H R => ta σ H fun vs H1 => ∃ a xs, vs = [.ref a] ∧ SqT K H1 a xs ∧ R (Itn K a) H1
theorem pi_enumT {X : Cx} {e : Expr} {ta : TA} {p pos tpos : Pos} {elts : List Expr} {kk : Nat} (hg : Gl X "enumerate") (hm : X.mg "enumerate" = none) (ha : PA X [e] ta) (hs : starEach [e] X.env = [(false, eval e X.env)] := by rfl) :
    PI X (.Tuple elts kk tpos) (.Call (.Name "enumerate" p) [e] [] pos) (iEnumT X.K ta) := by
  refine ⟨fun pins s σ H R I h => ?_⟩
  refine Call_ (ld_blt I hg hm boot_enumerate (PyProof.Rows.callWith_type1 (thn (ha.run pos pins s σ H _ I h) fun us s1 ⟨vs, H1, I1, r1, q1⟩ => ?_) hs rfl))
  obtain ⟨a, xs, rfl, hq, q⟩ := q1
  cases r1 with
  | cons r rr =>
    cases rr
    cases r
    obtain ⟨its, rv, p', hz⟩ := I1.tuple hq
    refine enum_call (begins_tuple a its.toArray) p' fun h' he hit hsz hk => wpAny_pyIter_enum he ?_
    have I2 : Inv X pins σ H1 { s1 with heap := h' } := I1.kept (t' := s1.toks) hk
    refine ⟨s1.heap.objs.size + 1, [s1.heap.objs.size + 1, s1.heap.objs.size], _, _, H1, rfl, I2, turn_enumT a (s1.heap.objs.size + 1) s1.heap.objs.size, ⟨⟨.none, he⟩, ⟨_, hit, rfl, rfl⟩, Nat.succ_ne_self _⟩, fun b hb => ?_, q⟩
    have hle : s1.heap.objs.size ≤ b := by
      rcases (by simpa using hb : b = s1.heap.objs.size + 1 ∨ b = s1.heap.objs.size) with z | z
      · rw [z]; exact Nat.le_add_right _ _
      · rw [z]; exact Nat.le_refl _
    exact I1.fpOk hle (I1.hok.fresh hle)
theorem walk_enumT {K : PySem.W.Frag} {a : Addr} {xs : List V} : Walk (Itn K a) xs.length (fun H => SqT K H a xs) (YPair (fun i => some (.int (i : Nat))) (fun i => xs[i]?)) := by
  refine ⟨fun i _ hi q => ⟨xs, xs[i], q, by simp [hi]⟩, fun _ q => ⟨xs, q, Nat.le_refl _⟩, fun i H v H' _ q y => ?_⟩
  obtain ⟨T, x, g1, g2, g3, g4⟩ := y
  exact ⟨T, .int (i : Nat), x, g1, g2, g3, rfl, g4 xs q⟩
end NSet
namespace Mx
open PySem PySem.Spec PyProof.Rows L2 NSet
theorem serves_enumT {K : PySem.W.Frag} {a : Addr} {vs : List V} {xs : List D} {fz : Addr → Prop} {H : Hp} {is : List Addr} (dom : ∀ b, fz b → ∃ o, H b = some o) (h : (fz a ∧ H a = some (.tup vs)) ∨ StT K a vs) (r : RepA K is fz H vs xs) : Serves K (Itn K a) (enumD 0 xs) fz H is := by
  have el : vs.length = (enumD 0 xs).length := by rw [enumD_len, r.length]
  refine ⟨⟨_, _, el ▸ walk_enumT (K := K) (a := a) (xs := vs), fun fz' H' is' l => ?_, ?_⟩⟩
  · rcases h with ⟨hz, h⟩ | h
    · exact .inl (.of (l.at hz h))
    · exact .inr h
  rintro i x fz' H' is' v _ hx l ⟨T, x1, y1, rfl, hT, rfl, e1, e2⟩
  cases e1
  obtain ⟨z, hz1, rfl⟩ := enumD_get 0 xs i x hx
  refine ⟨_, .new T _ hT, ?_⟩
  have l2 : Le fz H is (fun b => fz' b ∨ b = T) (upd H' T (.tup [.int (i : Nat), y1])) is' := by
    refine ⟨fun b hb => .inl (l.up b hb), fun b hb => ?_, l.ix⟩
    obtain ⟨o, ho⟩ := dom b hb
    rw [upd_ne (fun z => ?_)]
    · exact l.hp b hb
    subst z
    obtain ⟨u, hu⟩ := (l.hp b hb).some ho
    rw [hu] at hT
    cases hT
  rw [Nat.zero_add]
  exact .tup (.inl ⟨.inr rfl, upd_same⟩) (.cons (.int _) (.cons (Rep.at l2 r hz1 e2) .nil))
/-- enumerate of a list or a tuple -/
def fEnumA : List D → Option (List D)
  | [.lst xs] => some (enumD 0 xs)
  | [.tup xs] => some (enumD 0 xs)
  | _ => none
section
variable {X : Cx} {N : En} {xm : XM} {W : WX}
theorem i_enumA {elts : List Expr} {kk : Nat} {tpos : Pos} {e : Expr} {m : ST RV} {p pos : Pos} (c : MC X N W) (hg : Gl X "enumerate") (hm : X.mg "enumerate" = none) (ha : PA X [e] (liftD N xm W [m])) (hs : starEach [e] X.env = [(false, eval e X.env)] := by rfl) :
    PI X (.Tuple elts kk tpos) (.Call (.Name "enumerate" p) [e] [] pos) (liftI N xm W (mRange fEnumA [m])) := by
  have hK := c.hK
  refine impI (PI.or (pi_enum hg hm ha hs) (pi_enumT hg hm ha hs)) fun σ H Q h => ?_
  have h0 := h
  obtain ⟨g, fz, is, sr, h⟩ := h
  -- which of the two it is, the mirror knows
  simp only [mRange, bnd] at h
  cases e1 : argsD [m] g with
  | stuck => rw [e1] at h; exact h.elim
  | exc x g' =>
    rw [e1] at h
    refine .inl ⟨g, fz, is, sr, ?_⟩
    rw [e1]
    exact h
  | ok xs g1 =>
    rw [e1, bind_ok] at h
    split at h
    · rename_i ys hys
      unfold fEnumA at hys
      split at hys
      · rename_i zs
        cases hys
        refine .inl ⟨g, fz, is, sr, ?_⟩
        rw [e1]
        intro vs H1 fz1 is1 l1 sr1 rep
        have h1 := postI.later l1 h
        cases rep with
        | cons r t =>
          cases t
          cases r with
          | lst hz ha r =>
            refine ⟨_, _, rfl, .inl (.of ha), ?_⟩
            rw [← hK]
            exact h1 _ H1 fz1 is1 .refl sr1 (serves_enum sr1.dom hz ha r)
      · rename_i zs
        cases hys
        refine .inr ⟨g, fz, is, sr, ?_⟩
        rw [e1]
        intro vs H1 fz1 is1 l1 sr1 rep
        have h1 := postI.later l1 h
        cases rep with
        | cons r t =>
          cases t
          cases r with
          | tup ha r =>
            refine ⟨_, _, rfl, hK ▸ sqT_of ha, ?_⟩
            rw [← hK]
            exact h1 _ H1 fz1 is1 .refl sr1 (serves_enumT sr1.dom ha r)
      · cases hys
    · exact h.elim
end
end Mx

set_option Elab.async false
set_option linter.all false
set_option maxRecDepth 100000
/-! list(range(..)) -/
namespace Mx
open PySem PySem.Spec PyProof.Rows L2
section
variable {X : Cx} {N : En} {xm : XM} {W : WX}
end
end Mx

set_option Elab.async false
set_option linter.all false
set_option maxRecDepth 100000
/-! sum(list of numbers) -/
namespace Mx
open PySem PySem.Spec PyProof.Rows L2
end Mx

set_option Elab.async false
set_option linter.all false
set_option maxRecDepth 100000
set_option maxHeartbeats 1000000
/-! dicts with keys numbers and texts; list.index -/
namespace Mx
open PySem PySem.Spec PyProof.Rows L2

def kEq : D → D → Bool
  | .int i, .int j => decide (i = j)
  | .str s, .str t => decide (s = t)
  | _, _ => false
def isKey : D → Bool
  | .int _ => true
  | .str _ => true
  | _ => false
def lookD (k : D) : List (D × D) → Option D
  | [] => none
  | p :: r => if kEq p.1 k = true then some p.2 else lookD k r
def putD (kvs : List (D × D)) (k v : D) : List (D × D) :=
  if kvs.any (fun p => kEq p.1 k) = true then kvs.map (fun p => if kEq p.1 k = true then (p.1, v) else p) else kvs ++ [(k, v)]
def mergeD (kvs more : List (D × D)) : List (D × D) := more.foldl (fun acc p => putD acc p.1 p.2) kvs
theorem kEq_key (a b : Key) : kEq (dKey a) (dKey b) = decide (a = b) := by
  cases a <;> cases b <;> simp [dKey, kEq]
theorem key_of_isKey {K : PySem.W.Frag} {is : List Addr} {fz : Addr → Prop} {H : Hp} {v : V} {x : D} (h : Rep K is fz H v x) (e : isKey x = true) : ∃ k : Key, v = kV k ∧ x = dKey k ∧ KOk k := by
  cases h <;> simp only [isKey, Bool.false_eq_true] at e
  · exact ⟨.inl _, rfl, rfl, trivial⟩
  · rename_i s ok
    exact ⟨.inr s, rfl, rfl, ok⟩
section
variable {K : PySem.W.Frag} {is : List Addr} {fz : Addr → Prop} {H : Hp}
theorem RepK.look {k : Key} : ∀ {ks : List (Key × V)} {kvs : List (D × D)}, RepK K is fz H ks kvs →
    (valV ks k = none ∧ lookD (dKey k) kvs = none) ∨ ∃ v d, valV ks k = some v ∧ lookD (dKey k) kvs = some d ∧ Rep K is fz H v d
  | _, _, .nil => .inl ⟨rfl, rfl⟩
  | _, _, .cons (k := k') (d := d0) (ks := ks) (ds := ds) ok r t => by
    by_cases e : k' = k
    · subst e
      exact .inr ⟨_, _, valV_pos rfl, by simp [lookD, kEq_key], r⟩
    · have e1 : lookD (dKey k) ((dKey k', d0) :: ds) = lookD (dKey k) ds := by simp [lookD, kEq_key, e]
      rcases RepK.look t with ⟨h1, h2⟩ | ⟨v, d, h1, h2, h3⟩
      · exact .inl ⟨by rw [valV_neg e]; exact h1, by rw [e1]; exact h2⟩
      · exact .inr ⟨v, d, by rw [valV_neg e]; exact h1, by rw [e1]; exact h2, h3⟩
theorem RepK.any {k : Key} : ∀ {ks : List (Key × V)} {kvs : List (D × D)}, RepK K is fz H ks kvs → (kvs.any fun p => kEq p.1 (dKey k)) = (ks.any fun p => decide (p.1 = k))
  | _, _, .nil => rfl
  | _, _, .cons ok r t => by simp [kEq_key, RepK.any t]
theorem RepK.snoc {k : Key} {v : V} {d : D} (ok : KOk k) (r : Rep K is fz H v d) : ∀ {ks : List (Key × V)} {kvs : List (D × D)}, RepK K is fz H ks kvs → RepK K is fz H (ks ++ [(k, v)]) (kvs ++ [(dKey k, d)])
  | _, _, .nil => .cons ok r .nil
  | _, _, .cons ok' r' t => .cons ok' r' (RepK.snoc ok r t)
theorem RepK.repl {k : Key} {v : V} {d : D} (r : Rep K is fz H v d) : ∀ {ks : List (Key × V)} {kvs : List (D × D)}, RepK K is fz H ks kvs →
    RepK K is fz H (ks.map fun p => if p.1 = k then (p.1, v) else p) (kvs.map fun p => if kEq p.1 (dKey k) = true then (p.1, d) else p)
  | _, _, .nil => .nil
  | _, _, .cons (k := k') ok r' t => by
    simp only [List.map_cons, kEq_key, decide_eq_true_eq]
    by_cases e : k' = k
    · rw [if_pos e, if_pos e]; exact .cons ok r (RepK.repl r t)
    · rw [if_neg e, if_neg e]; exact .cons ok r' (RepK.repl r t)
theorem RepK.put {k : Key} {v : V} {d : D} (ok : KOk k) (r : Rep K is fz H v d) {ks : List (Key × V)} {kvs : List (D × D)} (h : RepK K is fz H ks kvs) : RepK K is fz H (putK ks k v) (putD kvs (dKey k) d) := by
  unfold putK putD
  rw [h.any]
  split
  · exact h.repl r
  · exact h.snoc ok r
theorem RepK.merge {more : List (Key × V)} {md : List (D × D)} (r : RepK K is fz H more md) : ∀ {ks : List (Key × V)} {kvs : List (D × D)}, RepK K is fz H ks kvs → RepK K is fz H (mergeK ks more) (mergeD kvs md) := by
  induction more generalizing md with
  | nil => intro ks kvs h; cases r; exact h
  | cons p more ih =>
    intro ks kvs h
    cases r with
    | cons ok r t => exact ih t (h.put ok r)
end
/-! ### d[k], k in d, d[k] = v, len(d) -/
def rDGet : R2 := fun x y H Q => ∃ a v, x = .ref a ∧ DGet H a y (some v) ∧ Q v H
def rDNotIn : R2 := fun y x H Q => ∃ a o, x = .ref a ∧ DGet H a y o ∧ Q (.bl (!o.isSome)) H
def rDPut : TSet := fun o i v H Q => ∃ a H', o = .ref a ∧ DPut H a i v H' ∧ Q H'
section
variable {X : Cx}
theorem ix_dct (hu : X.A.units + 65 < cLine) : IxR X rDGet := by
  intro value slice pins s σ H x y v u Q I rx ry h hs
  obtain ⟨a, w, rfl, g, q⟩ := h
  obtain rfl : v = Value.ref a := rx
  exact tail_any (dict_typeIs I g) slot_dict_getitem.lookup (d_getItem (by omega) I g ry fun w' s' I' r' => ⟨w, H, I', r', q⟩) hs
theorem op_dnotin (hu : X.A.units + 65 < cLine) : OpR X (compareOp .NotIn) rDNotIn := by
  intro pins s σ H x y v u Q I rx ry h
  obtain ⟨a, o, rfl, g, q⟩ := h
  obtain rfl : u = Value.ref a := ry
  exact d_notIn (by omega) I g rx fun s' I' => ⟨.bl (!o.isSome), H, I', rfl, q⟩
theorem set_dct (hu : X.A.units + 65 < cLine) : PSet X rDPut := by
  intro pins s σ H o i v ov iv u Q I ro ri rv h
  obtain ⟨a, H', rfl, g, q⟩ := h
  obtain rfl : ov = Value.ref a := ro
  exact d_setItem (by omega) I g ri rv fun s' I' => ⟨H', I', q⟩
theorem PSet.or {t t' : TSet} (h : PSet X t) (h' : PSet X t') : PSet X (fun o i v H Q => t o i v H Q ∨ t' o i v H Q) := by
  intro pins s σ H o i v ov iv u Q I ro ri rv q
  rcases q with q | q
  · exact h pins s σ H o i v ov iv u Q I ro ri rv q
  · exact h' pins s σ H o i v ov iv u Q I ro ri rv q
end
def fIxA : D → D → Option RN := fun x y => match x with
  | .dct kvs => if isKey y = true then (lookD y kvs).map .d else none
  | .tdc kvs => fIxT (.tdc kvs) y
  | x => fIx x y
def fInA (neg : Bool) : D → D → Option RN := fun x y => match y with
  | .dct kvs => if isKey x = true then some (.d (.bl (if neg then !(lookD x kvs).isSome else (lookD x kvs).isSome))) else none
  | .tdc kvs => fInT neg x (.tdc kvs)
  | y => fIn neg x y
def fSetA : SF := fun c k v => match c with
  | .dct kvs => if isKey k = true ∧ kvs.length < sizeLine then some (.dct (putD kvs k v)) else none
  | .tct kvs => fSetT (.tct kvs) k v
  | c => fSetL c k v
def rIxB (K : PySem.W.Frag) : R2 := fun x y H Q => (rIxAll K x y H Q ∨ rDGet x y H Q) ∨ NSet.rTGet K x y H Q
theorem ix_B {X : Cx} (hu : X.A.units + 65 < cLine) : IxR X (rIxB X.K) := (ix_all.or (ix_dct hu)).or (NSet.ix_tct hu)
section
variable {K : PySem.W.Frag}
theorem PRep.key {is : List Addr} {fz : Addr → Prop} {H : Hp} {v : V} {x : D} (h : PRep K is fz H v x) (e : isKey x = true) : ∃ k : Key, v = kV k ∧ x = dKey k ∧ KOk k := by
  rcases h with h | ⟨p, c, _, ex, _⟩
  · exact key_of_isKey h e
  · subst ex; cases c <;> cases e
theorem f_ixA : OpF K (rIxB K) fIxA := by
  intro is fz H v w x y rn Q dm hx hy e fin
  unfold fIxA at e
  split at e
  · rename_i kvs
    split at e
    · rename_i hk
      obtain ⟨d, h1, rfl⟩ := Option.map_eq_some_iff.mp e
      obtain ⟨a, vs, rfl, ha, r⟩ := hx.dct
      obtain ⟨k, rfl, rfl, ok⟩ := hy.key hk
      rcases r.look (k := k) with ⟨_, z⟩ | ⟨u, d', z1, z2, z3⟩
      · rw [h1] at z; cases z
      · rw [h1] at z2; cases z2
        exact .inl (.inr ⟨a, u, rfl, .inl ⟨vs, k, ha, rfl, z1.symm⟩, fin.sc z3⟩)
    · cases e
  · exact .inr (f_ixT is fz H v w _ y rn Q dm hx hy e fin)
  · exact .inl (.inl (f_ix is fz H v w _ y rn Q dm hx hy e fin))
def rNotInB (K : PySem.W.Frag) : R2 := fun x y H Q => (rNotInAll K x y H Q ∨ rDNotIn x y H Q) ∨ NSet.rTNotIn K x y H Q
theorem op_notInB {X : Cx} (hu : X.A.units + 65 < cLine) : OpR X (compareOp .NotIn) (rNotInB X.K) := ((op_notInAll hu).or (op_dnotin hu)).or (NSet.op_tnotin hu)
theorem in_dct {is : List Addr} {fz : Addr → Prop} {H : Hp} {v w : V} {x : D} {kvs : List (D × D)} (hx : PRep K is fz H v x) (hy : PRep K is fz H w (.dct kvs)) (hk : isKey x = true) : ∃ a o, w = .ref a ∧ DGet H a v o ∧ o.isSome = (lookD x kvs).isSome := by
  obtain ⟨a, vs, rfl, ha, r⟩ := hy.dct
  obtain ⟨k, rfl, rfl, ok⟩ := hx.key hk
  refine ⟨a, valV vs k, rfl, .inl ⟨vs, k, ha, rfl, rfl⟩, ?_⟩
  rcases r.look (k := k) with ⟨z1, z2⟩ | ⟨u, d', z1, z2, z3⟩ <;> rw [z1, z2] <;> rfl
theorem f_notInA : OpF K (rNotInB K) (fInA true) := by
  intro is fz H v w x y rn Q dm hx hy e fin
  unfold fInA at e
  split at e
  · split at e
    · rename_i hk
      cases e
      obtain ⟨a, o, rfl, g, e⟩ := in_dct hx hy hk
      exact .inl (.inr ⟨a, o, rfl, g, by rw [e]; exact fin.sc (.bl _)⟩)
    · cases e
  · exact .inr (f_notInT is fz H v w x _ rn Q dm hx hy e fin)
  · exact .inl (.inl (f_notIn is fz H v w x _ rn Q dm hx hy e fin))
def rSetB (K : PySem.W.Frag) : TSet := fun o i v H Q => (rSetL o i v H Q ∨ rDPut o i v H Q) ∨ NSet.rTPut K o i v H Q
theorem set_B {X : Cx} (hu : X.A.units + 65 < cLine) : PSet X (rSetB X.K) := PSet.or (PSet.or set_list (set_dct hu)) (NSet.set_tct hu)
theorem s_setA : SetF K (rSetB K) fSetA := by
  intro is fz H p c i x v y c' Q hc nf ri rv e k
  unfold fSetA at e
  split at e
  · rename_i kvs
    split at e
    · rename_i hk
      cases e
      obtain ⟨ks, h1, h2⟩ := hc
      obtain ⟨k0, rfl, rfl, ok⟩ := key_of_isKey ri hk.1
      have l : Le fz H is fz (upd H p (.dK (putK ks k0 v))) is := Le.alloc nf
      exact .inl (.inr ⟨p, _, rfl, DPut.k h1 (by rw [h2.length]; exact hk.2), k _ ⟨_, upd_same, (h2.mono l).put ok (rv.mono l)⟩⟩)
    · cases e
  · exact .inr (s_setT is fz H p _ i x v y c' Q hc nf ri rv e k)
  · exact .inl (.inl (s_setL is fz H p _ i x v y c' Q hc nf ri rv e k))
end
/-! ### {k: v, ..} -/
def dispM : List (ST RV × ST RV) → ST (List (D × D))
  | [] => ret []
  | m :: ms => bnd m.1 fun r => bnd (toD r) fun k => bnd m.2 fun r' => bnd (toD r') fun v => bnd (dispM ms) fun kvs => ret ((k, v) :: kvs)
def mDisp (ms : List (ST RV × ST RV)) : ST RV := bnd (dispM ms) fun kvs g => if kvs.all (fun p => isKey p.1) = true ∧ kvs.length ≤ 15 then .ok (.tmp (.dct (mergeD [] kvs))) g else .stuck
section
variable {X : Cx} {N : En} {xm : XM} {W : WX}
theorem toD_exc {r : RV} {g g' : Sg} {e : Ex} (h : toD r g = .exc e g') : False := toD_noexc h
inductive RepP (K : PySem.W.Frag) (is : List Addr) (fz : Addr → Prop) (H : Hp) : List (V × V) → List (D × D) → Prop
  | nil : RepP K is fz H [] []
  | cons {k v : V} {x y : D} {ps : List (V × V)} {kvs : List (D × D)} : Rep K is fz H k x → Rep K is fz H v y → RepP K is fz H ps kvs → RepP K is fz H ((k, v) :: ps) ((x, y) :: kvs)
theorem disp_ok {f : List (D × D) → ST RV} {σ : L2.St} {Q : VK} : ∀ {ms : List (ST RV × ST RV)} {H : Hp} {g : Sg} {fz : Addr → Prop} {is : List Addr} {Q' : List (V × V) → Hp → Prop}, SR N σ H g fz is → postE N xm W σ H fz is Q ((dispM ms g).bind f) →
    (∀ kvs g1 ps H1 fz1 is1, Le fz H is fz1 H1 is1 → SR N σ H1 g1 fz1 is1 → RepP N.K is1 fz1 H1 ps kvs → postE N xm W σ H1 fz1 is1 Q (f kvs g1) → Q' ps H1) → tPairs (ms.map fun m => (lift N xm W m.1, lift N xm W m.2)) σ H Q'
  | [], H, g, fz, is, Q', sr, h, k => k [] g [] H fz is .refl sr .nil h
  | m :: ms, H, g, fz, is, Q', sr, h, k => by
    simp only [dispM, bnd] at h
    refine ⟨g, fz, is, sr, ?_⟩
    cases e1 : m.1 g with
    | stuck => rw [e1] at h; exact h
    | exc x g' => rw [e1] at h; exact h
    | ok r g1 =>
      rw [e1, bind_ok] at h
      simp only [bnd] at h
      intro kv H1 fz1 is1 l1 sr1 rep1
      cases e2 : toD r g1 with
      | stuck => rw [e2] at h; exact h.elim
      | exc x g' => exact (toD_exc e2).elim
      | ok x g2 =>
        rw [e2, bind_ok] at h
        simp only [bnd] at h
        obtain ⟨fz2, l2, sr2, rx⟩ := toD_ok sr1 rep1 e2
        refine ⟨g2, fz2, is1, sr2, ?_⟩
        have h := (h.later l1).later l2
        cases e3 : m.2 g2 with
        | stuck => rw [e3] at h; exact h
        | exc x g' => rw [e3] at h; exact h
        | ok r' g3 =>
          rw [e3, bind_ok] at h
          simp only [bnd] at h
          intro vv H3 fz3 is3 l3 sr3 rep3
          cases e4 : toD r' g3 with
          | stuck => rw [e4] at h; exact h.elim
          | exc x g' => exact (toD_exc e4).elim
          | ok y g4 =>
            rw [e4, bind_ok] at h
            simp only [bnd] at h
            obtain ⟨fz4, l4, sr4, ry⟩ := toD_ok sr3 rep3 e4
            have h := (h.later l3).later l4
            cases e5 : dispM ms g4 with
            | stuck => rw [e5] at h; exact disp_ok (f := fun _ _ => .stuck) sr4 (by rw [e5]; exact h) fun _ _ _ _ _ _ _ _ _ z => z.elim
            | exc x g' => rw [e5] at h; exact disp_ok (f := fun _ _ => .stuck) sr4 (by rw [e5]; exact h) fun _ _ _ _ _ _ _ _ _ z => z.elim
            | ok kvs g5 =>
              rw [e5, bind_ok] at h
              refine disp_ok (f := fun kvs g => f ((x, y) :: kvs) g) sr4 (by rw [e5]; exact h) fun kvs' g6 ps H6 fz6 is6 l6 sr6 rp h6 => ?_
              exact k ((x, y) :: kvs') g6 ((kv, vv) :: ps) H6 fz6 is6 ((((l1.trans l2).trans l3).trans l4).trans l6) sr6 (.cons ((((rx.mono l3).mono l4).mono l6)) (ry.mono l6) rp) h6
theorem RepP.keys {K : PySem.W.Frag} {is : List Addr} {fz : Addr → Prop} {H : Hp} : ∀ {ps : List (V × V)} {kvs : List (D × D)}, RepP K is fz H ps kvs → kvs.all (fun p => isKey p.1) = true → ∃ ks : List (Key × V), ps = ks.map (fun kv => (kV kv.1, kv.2)) ∧ RepK K is fz H ks kvs
  | _, _, .nil, _ => ⟨[], rfl, .nil⟩
  | _, _, .cons r1 r2 t, e => by
    simp only [List.all_cons, Bool.and_eq_true] at e
    obtain ⟨ks, rfl, h⟩ := RepP.keys t e.2
    obtain ⟨k, rfl, rfl, ok⟩ := key_of_isKey r1 e.1
    exact ⟨(k, _) :: ks, rfl, .cons ok r2 h⟩
/-- a reading for every entry of that kind, exceptions as told -/
def anyW (N : En) (xm : XM) (W : WX) (m : ST RV) : TE := fun σ H Q => ∃ N' : En, N'.K = N.K ∧ N'.n = N.n ∧ lift N' xm W m σ H Q
theorem any_w {e : Expr} {m : ST RV} (c : MC X N W) (h : ∀ N' : En, N'.n = N.n → MC X N' W → PE X e (lift N' xm W m)) : PE X e (anyW N xm W m) :=
  ⟨fun pins s σ H Q I ⟨N', h1, h2, q⟩ => (h N' h2 ⟨h1.trans c.hK, c.nd, c.calm, c.un, c.tk⟩).run pins s σ H Q I q⟩
theorem pairs_any {N' : En} (h1 : N'.K = N.K) (h2 : N'.n = N.n) {σ : L2.St} : ∀ {ms : List (ST RV × ST RV)} {H : Hp} {Q : List (V × V) → Hp → Prop}, tPairs (ms.map fun m => (lift N' xm W m.1, lift N' xm W m.2)) σ H Q → tPairs (ms.map fun m => (anyW N xm W m.1, anyW N xm W m.2)) σ H Q
  | [], H, Q, h => h
  | m :: ms, H, Q, ⟨g, fz, is, sr, h⟩ => by
    refine ⟨N', h1, h2, g, fz, is, sr, ?_⟩
    revert h
    cases m.1 g with
    | stuck => exact id
    | exc x g' => exact id
    | ok r g1 =>
      intro h v H1 fz1 is1 l1 sr1 r1
      obtain ⟨g2, fz2, is2, sr2, h2'⟩ := h v H1 fz1 is1 l1 sr1 r1
      refine ⟨N', h1, h2, g2, fz2, is2, sr2, ?_⟩
      revert h2'
      cases m.2 g2 with
      | stuck => exact id
      | exc x g' => exact id
      | ok r' g3 => exact fun h v' H3 fz3 is3 l3 sr3 r3 => pairs_any h1 h2 (h v' H3 fz3 is3 l3 sr3 r3)
theorem e_disp {ks : List (Option Expr)} {vs : List Expr} {pos : Pos} {ms : List (ST RV × ST RV)} (h : PPs X pos ks vs (ms.map fun m => (anyW N xm W m.1, anyW N xm W m.2)))
    (hall : ks.all (·.isSome) = true := by rfl) (hl : ks.length = vs.length := by rfl) (h0 : ks ≠ [] := by (intro z; cases z)) (h15 : ks.length ≤ 15 := by decide) : PE X (.Dict ks vs pos) (lift N xm W (mDisp ms)) := by
  refine imp (pe_disp h hall hl h0 h15) fun σ H Q ⟨g, fz, is, sr, q⟩ p hp => ?_
  have f := sr.free hp
  have nz : ¬ N.fz p := fun z => f.own.nf (sr.fz0 p z)
  have ni : p ∉ N.is := fun z => f.own.ni (sr.isx.subset z)
  have sr1 := (sr.alter f (.dK [])).guard f (upd_same (H := H) (a := p) (o := HO.dK []))
  have l1 : Le fz H is fz (upd H p (.dK [])) is := Le.alloc f.own.nf
  have q1 := q.later l1
  refine pairs_any (N' := N.with p (.dK [])) rfl rfl ?_
  cases e : dispM ms g with
  | stuck => simp only [mDisp, bnd, e] at q1; exact q1.elim
  | exc x g1 =>
    simp only [mDisp, bnd, e, bind_exc] at q1
    refine disp_ok (f := fun _ _ => .stuck) (Q := fun _ _ => True) sr1 ?_ fun _ _ _ _ _ _ _ _ _ z => z.elim
    rw [e, bind_exc]
    intro cls od H' fz' is' l sr' rx
    exact q1 cls od H' fz' is' l (sr'.unguard nz ni f.own.new).1 rx
  | ok kvs g1 =>
    simp only [mDisp, bnd, e, bind_ok] at q1
    refine disp_ok (f := fun kvs' g' => @ite _ (kvs' = kvs ∧ g'.env = g1.env ∧ g'.st = g1.st) (Classical.propDecidable _) (ret (.d .non) g') .stuck) (Q := fun _ _ => True) sr1 ?_ fun kvs' g6 ps H6 fz6 is6 l6 sr6 rp z => ?_
    · rw [e, bind_ok, if_pos ⟨rfl, rfl, rfl⟩]; intro v H' fz' is' l sr' r; trivial
    · split at z
      · rename_i ee
        obtain ⟨rfl, e1, e2⟩ := ee
        have eg : g6 = g1 := by cases g6; cases g1; simp only at e1 e2; subst e1 e2; rfl
        subst eg
        obtain ⟨s7, f7, h7⟩ := sr6.unguard nz ni f.own.new
        refine ⟨h7, ?_⟩
        split at q1
        · rename_i good
          obtain ⟨ks', rfl, rk⟩ := rp.keys good.1
          refine ⟨ks', rfl, by rw [rk.length]; exact good.2, ?_⟩
          have l7 : Le fz6 H6 is6 fz6 (upd H6 p (.dK (mergeK [] ks'))) is6 := Le.alloc f7.own.nf
          exact q1 (.ref p) _ fz6 is6 (l6.trans l7) (s7.alter f7 _) ⟨p, rfl, f7.own, ⟨_, upd_same, (RepK.merge rk .nil).mono l7⟩, f7.ns⟩
        · exact q1.elim
      · exact z.elim
end
/-! ### list.index -/
/-- a list's method that only looks -/
def isL (o : Option D) : Bool := match o with
  | some (.lst _) => true
  | _ => false
def mL1 (f : D → D → Option RN) (mo me : ST RV) : ST RV := bnd mo fun a g => if isL (peek (frz a) g) = true then bnd me (fun b => fun g => opt (pk2 f (frz a) (frz b) g) g) g else .stuck
section
variable {X : Cx} {N : En} {xm : XM} {W : WX}
end
end Mx

set_option Elab.async false
set_option linter.all false
set_option maxRecDepth 100000
set_option maxHeartbeats 1000000
/-! {key: value for ..}, keys numbers and texts -/
namespace Mx
open PySem PySem.Spec PyProof.Rows L2
def compK (vs : List Nat) (t : TgM) (tt : ST Bool) (mk mv : ST RV) : List D → List (D × D) → Sg → R (List (D × D))
  | [], acc, g => .ok acc g
  | x :: xs, acc, g => match t x { g with env := wipeE g.env vs } with
    | none => .stuck
    | some g => match tt g with
      | .ok false g => compK vs t tt mk mv xs acc g
      | .ok true g => match mk g with
        | .ok r g => match toD r g with
          | .ok k g => match mv g with
            | .ok r' g => match toD r' g with
              | .ok v g => if isKey k = true ∧ acc.length < sizeLine then compK vs t tt mk mv xs (putD acc k v) g else .stuck
              | _ => .stuck
            | _ => .stuck
          | _ => .stuck
        | _ => .stuck
      | _ => .stuck
def endK (g0 : Sg) (vs : List Nat) : R (List (D × D)) → R RV
  | .ok l g => .ok (.tmp (.dct l)) { g with env := backE g0.env g.env vs }
  | _ => .stuck
def mDictK (mi : ST (List D)) (vs : List Nat) (t : TgM) (tt : ST Bool) (mk mv : ST RV) : ST RV := bnd mi fun xs g => endK g vs (compK vs t tt mk mv xs [] g)
section
variable {J : It} {n : Nat} {G : Hp → Prop} {Y : Nat → Hp → V → Hp → Prop}
abbrev stepDk (tk tv : TE) (D : Addr) (σ2 : L2.St) (b : Bool) (H3 : Hp) (Nx : Hp → Prop) : Prop :=
  if b = true then tk σ2 H3 fun y H4 => tv σ2 H4 fun z H5 => ∃ kvs k, y = kV k ∧ H5 D = some (.dK kvs) ∧ kvs.length < sizeLine ∧ Nx (upd H5 D (.dK (putK kvs k z))) else Nx H3
theorem dk_it (wk : Walk J n G Y) {g : TG} {tt : TT} {tk tv : TE} {vs : List Nat} {σ : L2.St} {H1 : Hp} {D : Addr} {Qd : Hp → Prop} (I : Nat → Hp → Prop) (h0 : I 0 (upd H1 D (.dK []))) (hG : ∀ i H, i ≤ n → I i H → G H)
    (hs : ∀ i x H H', i < n → I i H → Y i H x H' → g x (wipe σ vs) H' fun σ2 H2 => wipe σ2 vs = wipe σ vs ∧ tt σ2 H2 fun b H3 => stepDk tk tv D σ2 b H3 (I (i + 1))) (hd : ∀ H, I n H → Qd H) :
    ∃ W : Nat → Nat → Hp → Prop, (∃ m, W 0 m (upd H1 D (.dK []))) ∧ ∀ i m H, W i m H →
      (J.stop i H ∧ Qd H) ∨ (J.go i H ∧ ∃ Nx : Hp → Prop, (∀ H', Nx H' → ∃ m', m' < m ∧ W (i + 1) m' H') ∧ ∀ x H', J.yld i H x H' → g x (wipe σ vs) H' fun σ2 H2 => wipe σ2 vs = wipe σ vs ∧ tt σ2 H2 fun b H3 => stepDk tk tv D σ2 b H3 Nx) := by
  refine ⟨fun i m H => m + i = n ∧ I i H, ⟨n, rfl, h0⟩, ?_⟩
  rintro i m H ⟨e, p⟩
  have q := hG i H (by omega) p
  by_cases z : m = 0
  · have : i = n := by omega
    subst this
    exact .inl ⟨wk.stops H q, hd H p⟩
  · have lt : i < n := by omega
    exact .inr ⟨wk.goes i H lt q, I (i + 1), fun H' p' => ⟨m - 1, by omega, by omega, p'⟩, fun x H' y => hs i x H H' lt p (wk.yields i H x H' lt q y)⟩
end
section
variable {X : Cx} {N : En} {xm : XM} {W : WX} {tg iter : Expr}
theorem compK_ok {mi : ST (List D)} {vs ts : List Nat} {gt : TG} {t : TgM} {tt : ST Bool} {mk mv : ST RV} (c : MC X N W) (ht : ∀ N' : En, N'.n = N.n → N'.K = N.K → TgF N' ts gt t) (hts : ∀ i ∈ ts, i ∈ vs) {σ : L2.St} {H : Hp} {Q : VK} (h : lift N xm W (mDictK mi vs t tt mk mv) σ H Q) :
    tDc (liftI N xm W mi) gt (anyT N xm tt) (anyE N xm mk) (anyE N xm mv) vs σ H Q := by
  obtain ⟨g, fz, is, sr, h⟩ := h
  refine ⟨g, fz, is, sr, ?_⟩
  simp only [mDictK, bnd] at h
  cases e : mi g with
  | stuck => rw [e] at h; exact h
  | exc x g' => rw [e] at h; exact h
  | ok xs g1 =>
    rw [e, bind_ok] at h
    intro J H1 fz1 is1 l1 sr1 ⟨G, Y, wk, hG, hY⟩
    have h := postE.later l1 h
    intro P hP
    have fP := sr1.free hP
    have lP : Le fz1 H1 is1 fz1 (upd H1 P (.dK [])) is1 := Le.alloc fP.own.nf
    have sr1' := sr1.alter fP (.dK [])
    have h := h.later lP
    refine dk_it wk (fun i H => ∃ g fz is ks kvs, SR N (L2.wipe σ vs) H { g with env := wipeE g.env vs } fz is ∧ Le fz1 H1 is1 fz H is ∧ Free N (L2.wipe σ vs) { g with env := wipeE g.env vs } fz is P ∧ H P = some (.dK ks) ∧ RepK N.K is fz H ks kvs ∧
      postE N xm W σ H fz is Q (endK g1 vs (compK vs t tt mk mv (xs.drop i) kvs g))) ?_ (fun i H _ ⟨g, fz, is, ks, kvs, _, l, _⟩ => hG fz H is l) ?_ ?_
    · refine ⟨g1, fz1, is1, [], [], sr1'.wipe vs, lP, ?_, upd_same, .nil, h⟩
      refine ⟨fP.own, fun i ⟨c, hc⟩ z => ?_⟩
      obtain ⟨h1, h2⟩ := wipeE_some hc
      rw [wipe_keep h2] at z
      exact fP.ns i ⟨c, h1⟩ z
    · rintro i v H2 H2' hlt ⟨g2, fz2, is2, ks, kvs, sr2, l2, f2, hP2, nd, h2⟩ y
      have hx : xs[i]? = some xs[i] := by simp [hlt]
      obtain ⟨fz3, gr, rep⟩ := hY i xs[i] fz2 H2 is2 v H2' hx l2 y
      have l3 := gr.le sr2
      have sr3 := gr.sr sr2
      have hP3 : H2' P = some (.dK ks) := by
        cases gr with
        | same => exact hP2
        | new p o hp => rw [upd_ne (fun z => by subst z; rw [hP2] at hp; cases hp)]; exact hP2
      have f3 : Free N (L2.wipe σ vs) { g2 with env := wipeE g2.env vs } fz3 is2 P := by
        refine ⟨⟨fun z => ?_, f2.own.ni, f2.own.new⟩, f2.ns⟩
        cases gr with
        | same => exact f2.own.nf z
        | new p o hp =>
          rcases z with z | z
          · exact f2.own.nf z
          · subst z; rw [hP2] at hp; cases hp
      have nz : ¬ N.fz P := fun z => f3.own.nf (sr3.fz0 P z)
      have ni : P ∉ N.is := fun z => f3.own.ni (sr3.isx.subset z)
      have nn := f3.own.new
      have sg := sr3.guard f3 hP3
      rw [List.drop_eq_getElem_cons hlt] at h2
      simp only [compK] at h2
      cases e2 : t xs[i] { g2 with env := wipeE g2.env vs } with
      | none => rw [e2] at h2; exact h2.elim
      | some g3 =>
        rw [e2] at h2
        dsimp only at h2
        have h2 := h2.later l3
        refine ht (N.with P (.dK ks)) rfl rfl (L2.wipe σ vs) H2' _ fz3 is2 v xs[i] g3 _ sg rep e2 fun σ3 sr3' hw => ?_
        have hw := hw vs hts
        have hww : ∀ vs, L2.wipe (L2.wipe σ vs) vs = L2.wipe σ vs := fun vs => by
          apply List.ext_getElem?
          intro j
          rw [wipe_get, wipe_get, wipe_length]
          by_cases hj : j ∈ vs ∧ j < σ.length
          · rw [if_pos hj, if_pos hj]
          · rw [if_neg hj, if_neg hj]
        rw [hww] at hw
        refine ⟨hw, N.with P (.dK ks), rfl, rfl, g3, fz3, is2, sr3', ?_⟩
        have fin : ∀ {g4 : Sg} {H4 : Hp} {fz4 : Addr → Prop} {is4 : List Addr} {ks' : List (Key × V)} {kvs' : List (D × D)}, Le fz3 H2' is2 fz4 H4 is4 → SR (N.with P (.dK ks)) σ3 H4 g4 fz4 is4 → RepK N.K is4 fz4 H4 ks' kvs' →
            postE N xm W σ H2' fz3 is2 Q (endK g1 vs (compK vs t tt mk mv (xs.drop (i + 1)) kvs' g4)) → ∃ g fz is ks kvs, SR N (L2.wipe σ vs) (upd H4 P (.dK ks')) { g with env := wipeE g.env vs } fz is ∧ Le fz1 H1 is1 fz (upd H4 P (.dK ks')) is ∧ Free N (L2.wipe σ vs) { g with env := wipeE g.env vs } fz is P ∧ (upd H4 P (.dK ks')) P = some (.dK ks) ∧ RepK N.K is fz (upd H4 P (.dK ks')) ks kvs ∧
              postE N xm W σ (upd H4 P (.dK ks')) fz is Q (endK g1 vs (compK vs t tt mk mv (xs.drop (i + 1)) kvs g)) := by
          intro g4 H4 fz4 is4 ks' kvs' l4 sr4 ra4 h4
          obtain ⟨s5, f5, _⟩ := (sr4.wipe vs).unguard nz ni nn
          rw [hw] at s5 f5
          have la : Le fz4 H4 is4 fz4 (upd H4 P (.dK ks')) is4 := Le.alloc f5.own.nf
          exact ⟨g4, fz4, is4, ks', kvs', s5.alter f5 _, ((l2.trans l3).trans l4).trans la, f5, upd_same, ra4.mono la, (h4.later l4).later la⟩
        cases e3 : tt g3 with
        | stuck => rw [e3] at h2; exact h2.elim
        | exc x g' => rw [e3] at h2; exact h2.elim
        | ok b g4 =>
          rw [e3] at h2
          intro H4 fz4 is4 l4 sr4
          cases b with
          | false =>
            refine iteF ?_
            obtain ⟨g5, fz5, is5, ks5, kvs5, q1, q2, q3, q4, q5, q6⟩ := fin l4 sr4 ((nd.mono l3).mono l4) h2
            have hP4 : H4 P = some (.dK ks) := ((sr4.frame P _ upd_same ni).resolve_right fun z => nz z.1)
            have : upd H4 P (.dK ks) = H4 := by
              funext b
              by_cases e : b = P
              · subst e; rw [upd_same, hP4]
              · rw [upd_ne e]
            rw [this] at q1 q2 q4 q5 q6
            exact ⟨g5, fz5, is5, ks5, kvs5, q1, q2, q3, q4, q5, q6⟩
          | true =>
            refine iteT ⟨N.with P (.dK ks), rfl, rfl, g4, fz4, is4, sr4, ?_⟩
            dsimp only at h2
            cases e4 : mk g4 with
            | stuck => rw [e4] at h2; exact h2.elim
            | exc x g' => rw [e4] at h2; exact h2.elim
            | ok r g5 =>
              rw [e4] at h2
              dsimp only at h2
              intro v5 H5 fz5 is5 l5 sr5 rep5
              cases e5 : toD r g5 with
              | stuck => rw [e5] at h2; exact h2.elim
              | exc x g' => rw [e5] at h2; exact h2.elim
              | ok k g6 =>
                rw [e5] at h2
                dsimp only at h2
                obtain ⟨fz6, l6, sr6, rep6⟩ := toD_ok sr5 rep5 e5
                refine ⟨N.with P (.dK ks), rfl, rfl, g6, fz6, is5, sr6, ?_⟩
                cases e7 : mv g6 with
                | stuck => rw [e7] at h2; exact h2.elim
                | exc x g' => rw [e7] at h2; exact h2.elim
                | ok r7 g7 =>
                  rw [e7] at h2
                  dsimp only at h2
                  intro v7 H7 fz7 is7 l7 sr7 rep7
                  cases e8 : toD r7 g7 with
                  | stuck => rw [e8] at h2; exact h2.elim
                  | exc x g' => rw [e8] at h2; exact h2.elim
                  | ok v g8 =>
                    rw [e8] at h2
                    dsimp only at h2
                    obtain ⟨fz8, l8, sr8, rep8⟩ := toD_ok sr7 rep7 e8
                    split at h2
                    · rename_i cond
                      have hP7 : H7 P = some (.dK ks) := ((sr8.frame P _ upd_same ni).resolve_right fun z => nz z.1)
                      obtain ⟨k7, e9, e10, ok7⟩ := key_of_isKey rep6 cond.1
                      subst e9 e10
                      have all := (((((nd.mono l3).mono l4).mono l5).mono l6).mono l7).mono l8
                      refine ⟨ks, k7, rfl, hP7, by rw [all.length]; exact cond.2, ?_⟩
                      exact fin (ks' := putK ks k7 v7) ((((l4.trans l5).trans l6).trans l7).trans l8) sr8 (all.put ok7 rep8) h2
                    · exact h2.elim
    · rintro H2 ⟨g2, fz2, is2, ks, kvs, sr2, l2, f2, hP2, ra, h2⟩
      rw [List.drop_length] at h2
      simp only [compK, endK] at h2
      have sb := SR.back sr1 l2 sr2
      have f : Free N σ { g2 with env := backE g1.env g2.env vs } fz2 is2 P := by
        refine ⟨f2.own, fun i ⟨c, hc⟩ z => ?_⟩
        rcases backE_some hc with ⟨_, _, d, e⟩ | ⟨n1, h3⟩
        · cases e
        · have : ∀ ws, i ∉ ws → (wipeE g2.env ws)[i]? = some (some (.own c)) := by
            intro ws
            induction ws with
            | nil => exact fun _ => h3
            | cons w ws ih2 =>
              intro hw
              simp only [List.mem_cons, not_or] at hw
              unfold wipeE
              rw [List.getElem?_set_ne (Ne.symm hw.1)]
              exact ih2 hw.2
          exact f2.ns i ⟨c, this vs n1⟩ (by rw [wipe_keep n1]; exact z)
      exact h2 (.ref P) H2 fz2 is2 .refl sb ⟨P, rfl, f.own, ⟨ks, hP2, ra⟩, f.ns⟩
theorem e_dictK {kx vx : Expr} {ifs : List Expr} {scope : Scope} {own : List (Str × Nat)} {pos : Pos} {mi : ST (List D)} {ts : List Nat} {gt : TG} {t : TgM} {tt : ST Bool} {mk mv : ST RV} (c : MC X N W)
    (hi : PI X tg iter (liftI N xm W mi)) (ok : BlkOk X.N X.env.scope scope own)
    (hg : ∀ (s : Shared) (H : Hp) (C : Addr) (cl : List (Str × Addr)) (fp : List Addr), PG (X.blk s H scope (compEnvC scope cl C X.env) fp) tg gt) (ht : ∀ N' : En, N'.n = N.n → N'.K = N.K → TgF N' ts gt t) (hts : ∀ i ∈ ts, i ∈ own.map (·.2))
    (htt : ∀ (s : Shared) (H : Hp) (C : Addr) (cl : List (Str × Addr)) (fp : List Addr) (N' : En), N'.n = N.n → MC (X.blk s H scope (compEnvC scope cl C X.env) fp) N' WF → PTs (X.blk s H scope (compEnvC scope cl C X.env) fp) ifs (liftB N' xm WF tt))
    (hk : ∀ (s : Shared) (H : Hp) (C : Addr) (cl : List (Str × Addr)) (fp : List Addr) (N' : En), N'.n = N.n → MC (X.blk s H scope (compEnvC scope cl C X.env) fp) N' WF → PE (X.blk s H scope (compEnvC scope cl C X.env) fp) kx (lift N' xm WF mk))
    (he : ∀ (s : Shared) (H : Hp) (C : Addr) (cl : List (Str × Addr)) (fp : List Addr) (N' : En), N'.n = N.n → MC (X.blk s H scope (compEnvC scope cl C X.env) fp) N' WF → PE (X.blk s H scope (compEnvC scope cl C X.env) fp) vx (lift N' xm WF mv)) (hs : ∀ x, foldedSetIterable iter X.env x = pure x := by intro _; rfl) :
    PE X (.DictComp kx vx [⟨tg, iter, ifs, 0⟩] scope pos) (lift N xm W (mDictK mi (own.map (·.2)) t tt mk mv)) :=
  imp (pe_dc c.calm c.nd hi ok hg (fun s H C cl fp => any_t fun N' h1 h2 => htt s H C cl fp N' h2 (c.blk h1)) (fun s H C cl fp => any_e fun N' h1 h2 => hk s H C cl fp N' h2 (c.blk h1)) (fun s H C cl fp => any_e fun N' h1 h2 => he s H C cl fp N' h2 (c.blk h1)) hs) fun σ H Q h => compK_ok c ht hts h
end
/-! ### sorted(d), keys numbers -/
def keysI : List (D × D) → Option (List Int)
  | [] => some []
  | (.int i, _) :: r => (keysI r).map (i :: ·)
  | _ => none
def rSortDI : List V → Hp → VK → Prop := fun xs H Q => ∃ (a : Addr) (kvs : List (Key × V)) (ks : List Int), xs = [.ref a] ∧ Rd H a (.dK kvs) ∧ kvs.map (·.1) = ks.map Sum.inl ∧
  ∀ (ys : List Int) (p : Addr), ys.Perm ks → ys.Pairwise (· ≤ ·) → H p = none → Q (.ref p) (upd H p (.lst (ys.map V.int)))
section
variable {X : Cx}
theorem cr_sortDI (hc : X.calm = true) : CallR X (.builtin "sorted") rSortDI := by
  intro pins s σ H xs us Q I r ⟨a, kvs, ks, ex, hd, hks, q⟩
  subst ex
  obtain ⟨u, eu, rx⟩ := vals1 r
  subst eu
  cases rx
  obtain ⟨z, lo, vs, rel, dd⟩ := dk_rd I.hok hd
  obtain ⟨ep, at_⟩ := dd.dictAt
  have keys : vs.map (·.1) = ks.map Sum.inl := rel.keys.symm.trans hks
  have len : vs.length = ks.length := by simpa using congrArg List.length keys
  have room : vs.length ≤ sizeLine := by rw [← rel.length]; exact z
  refine Calls.call_function_entry PyProof.Rows.kind_sorted PyProof.Rows.plain_sorted PyProof.Rows.entry_sorted (PyProof.Rows.args_sorted1 _) ?_
  unfold Builtin.«sorted»
  refine wpAny_bind (m := checkCount "sorted" 1 1 _) (wpAny_pure ?_)
  refine wpAny_bind (PySem.W.kdu_collect (A := X.A.in1) (PySem.W.kdl_dict (knd := mixKind X.prog X.w) (kvs := vs) (ep := ep) lo) (I.ok.hd hc) at_ room fun h' tk acc hk hacc => ?_)
  have al : acc.toList.length = ks.length := by rw [Array.length_toList, hacc.1, len]
  have are : IntsAre acc.toList ks := ints_each al fun j v e => by
    obtain ⟨k, x, e1, e2⟩ := hacc.2 j v (by rw [← Array.getElem?_toList]; exact e)
    have e3 : (ks.map Sum.inl)[j]? = some k := by rw [← keys, List.getElem?_map, e1]; rfl
    rw [List.getElem?_map, Option.map_eq_some_iff] at e3
    obtain ⟨y, e4, rfl⟩ := e3
    rcases keyIs_shape (show keyIs (Sum.inl y) v = true from e2) with ⟨i, t, ek, ev⟩ | ⟨z, t, ek, ev⟩ <;> cases ek
    exact ⟨y, t, e4, ev⟩
  have I1 : Inv X pins σ H { s with heap := h', toks := tk } := I.kept hk
  refine wpAny_bind (wpAny_newList ?_ (by rw [al, ← len]; exact room))
  have here : (h'.push (seqObj "list" acc.toList.toArray 0)).get? h'.objs.size = some (seqObj "list" acc.toList.toArray 0) := Heap.get?_push_size _ rfl
  show wpAny _ _ _ _ _ { s with heap := h'.push (seqObj "list" acc.toList.toArray 0), toks := tk }
  refine wpAny_bind (wpAny_holding (wpAny_call_entry PyProof.Rows.slot_list_sort ⟨_, here, rfl⟩ PyProof.Rows.entry_list_sort
    (SrtO.list_sort_ord (s := { s with heap := h'.push (seqObj "list" acc.toList.toArray 0), toks := tk }) SrtO.swo_int here (by rw [al, ← len]; exact room) (fun h2 => SrtO.ints_sortable are h2) fun out h1 h2 => ⟨_, rfl, ?_⟩) (PyProof.Rows.args_list_sort _)))
  obtain ⟨k1, k2, k3⟩ := SrtO.ints_out are h1 h2
  obtain ⟨e', he'⟩ := PyProof.Rows.sortedHeap_at (vs := acc.toList) (out := out.toArray) here
  have small : ((out.map SrtO.iv).map V.int).length ≤ sizeLine := by rw [List.length_map, k2.length_eq, ← len]; exact room
  refine wpAny_pure ⟨_, rfl, .ref h'.objs.size, upd H h'.objs.size (.lst ((out.map SrtO.iv).map V.int)), I1.laid (t' := tk) (fun b u e => ?_) (Nat.le_refl _)
    (show ObjOk X.prog X.w _ _ _ (.lst ((out.map SrtO.iv).map V.int)) from ⟨small, out, e', vals_of_ints k1, he'⟩), rfl, q _ _ k2 k3 (I1.hok.fresh (Nat.le_refl _))⟩
  have lt : b < h'.objs.size := Heap.lt_size e
  rw [PyProof.Rows.sortedHeap_old (Nat.ne_of_lt lt) (by rw [size_push']; exact Nat.lt_succ_of_lt lt)]
  exact Heap.get?_push_of_some _ e
end
theorem perm_sortI {ys ks : List Int} (p : ys.Perm ks) (s : ys.Pairwise (· ≤ ·)) : ys = sortI ks := by
  have q : ys.Perm (sortI ks) := p.trans (List.mergeSort_perm _ _).symm
  refine q.eq_of_pairwise (le := (· ≤ ·)) (fun a b _ _ h1 h2 => Int.le_antisymm h1 h2) s ?_
  have := List.pairwise_mergeSort (le := fun a b : Int => decide (a ≤ b)) (fun a b c h1 h2 => by simp at *; omega) (fun a b => by simp; omega) ks
  exact this.imp fun h => by simpa using h
theorem keysI_rep {K : PySem.W.Frag} {is : List Addr} {fz : Addr → Prop} {H : Hp} : ∀ {vs : List (Key × V)} {kvs : List (D × D)} {ks : List Int}, RepK K is fz H vs kvs → keysI kvs = some ks → vs.map (·.1) = ks.map Sum.inl
  | _, _, ks, .nil, e => by cases e; rfl
  | _, _, ks, .cons (k := k) ok r t, e => by
    cases k with
    | inl i =>
      simp only [dKey, keysI] at e
      obtain ⟨ms, h1, rfl⟩ := Option.map_eq_some_iff.mp e
      rw [List.map_cons, keysI_rep t h1]
      rfl
    | inr s => simp [dKey, keysI] at e
/-- sorted(x): a list of numbers, a dict with numbers for keys -/
def fSorted : List D → Option RN
  | [.dct kvs] => (keysI kvs).map fun ks => .new (.lst ((sortI ks).map D.int))
  | [.lst xs] => (intsD xs).map fun ks => .new (.lst ((sortI ks).map D.int))
  | _ => none
def rSortB (K : PySem.W.Frag) : List V → Hp → VK → Prop := fun xs H Q => rSortDI xs H Q ∨ rSortedI K xs H Q
theorem cr_sortB {X : Cx} (hc : X.calm = true) : CallR X (.builtin "sorted") (rSortB X.K) := CallR.or (cr_sortDI hc) cr_sortedI
theorem f_sorted {K : PySem.W.Frag} : CallF K (rSortB K) fSorted := by
  intro is fz H vs xs rn Q dm hx e fin
  unfold fSorted at e
  split at e
  · rename_i kvs
    obtain ⟨ks, h1, rfl⟩ := Option.map_eq_some_iff.mp e
    obtain ⟨v, rfl, h⟩ := hx.one
    obtain ⟨a, vs, rfl, ha, r⟩ := h.dct
    refine .inl ⟨a, vs, ks, rfl, ha, keysI_rep r h1, fun ys p p1 p2 hp => ?_⟩
    rw [perm_sortI p1 p2]
    exact fin.lst dm (rep_ints _) p hp
  · obtain ⟨ks, h1, rfl⟩ := Option.map_eq_some_iff.mp e
    obtain ⟨v, rfl, h⟩ := hx.one
    obtain ⟨a, vs, rfl, ha, r⟩ := h.lst
    have := ints_rep r h1
    subst this
    refine .inr ⟨a, ks, rfl, .inl (.inl ha), fun ys p p1 p2 hp => ?_⟩
    rw [perm_sortI p1 p2]
    exact fin.lst dm (rep_ints _) p hp
  · cases e
/-! ### len -/
def fLenA : List D → Option RN
  | [.dct kvs] => some (.d (.int kvs.length))
  | [.tdc kvs] => some (.d (.int kvs.length))
  | xs => fLen xs
def rLenD : List V → Hp → VK → Prop := fun xs H Q => ∃ a kvs, xs = [.ref a] ∧ Rd H a (.dK kvs) ∧ Q (.int (kvs.length : Nat)) H
end Mx

set_option Elab.async false
set_option linter.all false
set_option maxRecDepth 100000
set_option maxHeartbeats 1000000
/-! defs with keyword-only parameters that have defaults -/
namespace Mx
open PySem PySem.Spec PyProof.Rows L2
def FunAtK (K : PySem.W.Frag) (mg : Str → Option Value) (x : Str) (st : Stmt) (kws : List (Str × V)) : Prop := ∃ f fd, mg x = some (.ref f) ∧ FunD K x x (defArgs st) (defBody st) (defScope st) [] kws f fd
/-- a def with n parameters and the keyword-only ones ks, whose defaults are dv -/
def DefK (P : Program) (w : World) (K : PySem.W.Frag) (mg : Str → Option Value) (base : Heap) (xm : XM) (x : Str) (k n : Nat) (ks : List Str) (dv : List D) (F : FM) : Prop :=
  ∃ f fd ps, mg x = some (.ref f) ∧ PySem.W.keepIn K (.ref f) = true ∧ KBn K fd ps n ks (fun us ws => us ++ ws) (fun vs zs => vs ++ zs) ∧ (∃ dvs ds, Vals dvs ds ∧ Binds K fd ps ds ∧ ∀ is fz H, RepA K is fz H dvs dv) ∧ FnOk P w K mg base (L2.CX P w) k f fd ps (spF K xm (n + ks.length) F)
section
variable {P : Program} {w : World} {K : PySem.W.Frag} {mg : Str → Option Value} {base : Heap} {xm : XM}
theorem DefK.mono {x : Str} {k k' n : Nat} {ks : List Str} {dv : List D} {F : FM} (d : DefK P w K mg base xm x k n ks dv F) (h : k ≤ k') : DefK P w K mg base xm x k' n ks dv F := by
  obtain ⟨f, fd, ps, h1, h2, h3, h4, h5⟩ := d
  exact ⟨f, fd, ps, h1, h2, h3, h4, h5.mono h⟩
theorem defK_ok {x : Str} {st : Stmt} {Nm ps : List Str} {k n np : Nat} {m : SM} {kws : List (Str × V)} {dv : List D} (F : FunAtK K mg x st kws) (S : FnScope Nm ps (defScope st)) (hn : Nm.length = n) (hp : ps.length = np + kws.length) (hk : kws ≠ [])
    (hb1 : ∀ (D : Addr) (doc pm : Value) (an : Option Addr) (cdv ct : Value) (us ws : List Value), us.length = np → ws.length = kws.length → bindArgs (PySem.W.fnOf x x (defArgs st) (defBody st) (defScope st) .none (.ref D) doc pm an cdv ct) ⟨us, (kws.map (·.1)).zip ws⟩ = pure (ps.zip (us ++ ws)))
    (hb2 : ∀ (D : Addr) (doc pm : Value) (an : Option Addr) (cdv ct : Value) (us ks : List Value), us.length = np → ks.length = kws.length → KwChain D ((kws.map (·.1)).zip ks) (bindArgs (PySem.W.fnOf x x (defArgs st) (defBody st) (defScope st) .none (.ref D) doc pm an cdv ct) ⟨us, []⟩) (ps.zip (us ++ ks)))
    (hd : ∀ is fz H, RepA K is fz H (kws.map (·.2)) dv)
    (hbody : ∀ (f : Addr) (cdv : Value) (A : Around) (outer : List Env) (s : Shared) (H : Hp) (N : En) (E : XK), N.K = K → N.n = n → Ent N → Room k (A.deeper (envOfC x (defScope st) s.heap.objs.size f cdv)) →
      MC (cxOf (L2.CX P w) P w K mg base Nm x (defScope st) f cdv A outer s H E) N (fun cls od _ H' => E cls od H') →
      PassesOwn (model P w) (cxOf (L2.CX P w) P w K mg base Nm x (defScope st) f cdv A outer s H E).A (cxOf (L2.CX P w) P w K mg base Nm x (defScope st) f cdv A outer s H E).env (cxOf (L2.CX P w) P w K mg base Nm x (defScope st) f cdv A outer s H E).xe →
      PSs (cxOf (L2.CX P w) P w K mg base Nm x (defScope st) f cdv A outer s H E) (defBody st) (liftS N xm (fun cls od _ H' => E cls od H') m)) :
    DefK P w K mg base xm x (k + 1) np (kws.map (·.1)) dv (fnM n m) := by
  obtain ⟨f, fd, hmg, F⟩ := F
  obtain ⟨mv, kb⟩ := F.kbinds0 np (kws.map (·.1)) [] (fun us _ ws => us ++ ws) hk (fun q h => by cases h) (fun r1 _ r3 => r1.append r3) (fun D doc pm an cdv ct us mv ws l1 l2 l3 => by
    have := hb1 D doc pm an cdv ct us ws l1 (by simpa using l3)
    exact this)
  obtain ⟨ds, v, b⟩ := F.binds0 np hk hp.symm hb2
  exact ⟨f, fd, ps, hmg, F.kp, kb, ⟨_, ds, v, b, hd⟩, by rw [List.length_map]; exact fnD_ok F S hn hp hbody⟩
end
theorem bind_bind {α β γ : Type} (m : R α) (f : α → ST β) (k : β → ST γ) : (m.bind f).bind k = m.bind fun a g => (f a g).bind k := by cases m <;> rfl
theorem argsD_app : ∀ (ms kms : List (ST RV)) (g : Sg), argsD (ms ++ kms) g = (argsD ms g).bind fun xs g1 => (argsD kms g1).bind fun ys g2 => .ok (xs ++ ys) g2
  | [], kms, g => by
    show argsD kms g = (argsD kms g).bind fun ys g2 => .ok ys g2
    cases argsD kms g <;> rfl
  | m :: ms, kms, g => by
    show (m g).bind _ = ((m g).bind _).bind _
    rw [bind_bind]
    congr 1
    funext r g1
    show (toD r g1).bind _ = ((toD r g1).bind _).bind _
    rw [bind_bind]
    congr 1
    funext x g2
    show (argsD (ms ++ kms) g2).bind _ = ((argsD ms g2).bind _).bind _
    rw [argsD_app ms kms g2, bind_bind, bind_bind]
    congr 1
    funext xs g3
    rw [bind_bind]
    rfl
theorem argsD_len : ∀ {ms : List (ST RV)} {g g1 : Sg} {xs : List D}, argsD ms g = .ok xs g1 → xs.length = ms.length
  | [], g, g1, xs, e => by cases e; rfl
  | m :: ms, g, g1, xs, e => by
    simp only [argsD, bnd] at e
    cases e1 : m g with
    | stuck => rw [e1] at e; cases e
    | exc x g' => rw [e1] at e; cases e
    | ok r g2 =>
      rw [e1, bind_ok] at e
      simp only [bnd] at e
      cases e3 : toD r g2 with
      | stuck => rw [e3] at e; cases e
      | exc x g' => exact (toD_exc e3).elim
      | ok x g3 =>
        rw [e3, bind_ok] at e
        simp only [bnd] at e
        cases e2 : argsD ms g3 with
        | stuck => rw [e2] at e; cases e
        | exc x g' => rw [e2] at e; cases e
        | ok rs g4 =>
          rw [e2] at e
          cases e
          simp [argsD_len e2]
section
variable {X : Cx} {N : En} {xm : XM} {W : WX}
/-- f(e, .., k = v, ..), all keywords written -/
theorem e_defK {k j n : Nat} {x : Str} {p pos : Pos} {e : Expr} {es : List Expr} {kws : List Keyword} {ks : List Str} {dv : List D} {F : FM} {ms kms : List (ST RV)} (c : MC X N W) (hF : DefK X.prog X.w X.K X.mg X.base xm x k n ks dv F) (hr : Room j X.A) (hg : Gl X x)
    (ha : PA X (e :: es) (liftD N xm W ms)) (hkw : PK X kws (liftD N xm W kms)) (hk : k ≤ j := by decide) (hn : ms.length = n := by rfl) (hkn : kms.length = ks.length := by rfl)
    (hall : (backToKw pos (keywordEach kws X.env)).all (·.1.isSome) = true := by rfl) (hks : (backToKw pos (keywordEach kws X.env)).filterMap (·.1) = ks := by rfl)
    (hdb : (x == ("__debug__" : Str)) = false := by decide) (he : starEach (e :: es) X.env = (false, eval e X.env) :: starEach es X.env := by rfl)
    (hpl : ((backTo pos (starEach (e :: es) X.env)).any (·.1) || (backToKw pos (keywordEach kws X.env)).any (·.1.isNone)) = false := by rfl) :
    PE X (.Call (.Name x p) (e :: es) kws pos) (lift N xm W (mCall F (ms ++ kms))) := by
  obtain ⟨f, fd, ps, h1, h2, h3, _, h5⟩ := hF
  refine ⟨fun pins s σ H Q I h => ?_⟩
  have h := call_ok (n := n + ks.length) c h (by rw [List.length_append, hn, hkn])
  have split_ : ∀ (ms kms : List (ST RV)) (σ : L2.St) (H : Hp) (R : List V → Hp → Prop), liftD N xm W (ms ++ kms) σ H R → liftD N xm W ms σ H fun vs H1 => liftD N xm W kms σ H1 fun zs H2 => vs.length = ms.length ∧ zs.length = kms.length ∧ R (vs ++ zs) H2 := by
    rintro ms kms σ H R ⟨g, fz, is, sr, h⟩
    refine ⟨g, fz, is, sr, ?_⟩
    rw [argsD_app] at h
    cases e1 : argsD ms g with
    | stuck => rw [e1] at h; exact h
    | exc y g' => rw [e1] at h; exact h
    | ok xs g1 =>
      rw [e1, bind_ok] at h
      intro vs H1 fz1 is1 l1 sr1 rep1
      have h := postD.later l1 h
      refine ⟨g1, fz1, is1, sr1, ?_⟩
      cases e2 : argsD kms g1 with
      | stuck => rw [e2] at h; exact h
      | exc y g' => rw [e2] at h; exact h
      | ok ys g2 =>
        rw [e2, bind_ok] at h
        intro zs H2 fz2 is2 l2 sr2 rep2
        exact ⟨by rw [rep1.length, argsD_len e1], by rw [rep2.length, argsD_len e2], h (vs ++ zs) H2 fz2 is2 l2 sr2 ((rep1.mono l2).append rep2)⟩
  refine wpAny_Call_Name_kw (ld_glob I hg h1 ?_ hdb)
  refine PySem.W.callWith_KW (h₀ := X.base) I.ok.mod.kin h2 hall (thn (ha.run pos pins s σ H _ I (split_ _ _ _ _ _ h)) fun us s1 ⟨vs, H1, I1, r, q⟩ => ?_) hpl he
  refine thn (hkw.run pos pins s1 σ H1 _ I1 q) fun ws s2 ⟨zs, H2, I2, rz, l1, l2, q2⟩ => ⟨I2.kIn, ?_⟩
  rw [hks]
  have q2 : spF X.K xm (n + ks.length) F (vs ++ zs) H2 Q (WE W σ) := by simpa using q2
  refine wpAny_call (codeAny_mono (h5.run X.A X.stack s2 H2 ⟨us, ks.zip ws⟩ (us ++ ws) (vs ++ zs) Q (WE W σ) (hr.mono hk) I2.env0 (h3.to s2 us ws I2.kIn (by rw [← r.length, l1, hn]) (by rw [← rz.length, l2, hkn])) (r.append rz) q2) fun r s' hq => ?_)
  cases r with
  | error e => exact passAt c.tk σ pins H2 s2 e s' I2 hq
  | ok fl =>
    cases fl with
    | ret u => exact I2.after hq
    | _ => exact False.elim hq
/-- f(e, ..), the keyword-only ones left out -/
theorem e_defD {k j n : Nat} {x : Str} {p pos : Pos} {e : Expr} {es : List Expr} {ks : List Str} {dv : List D} {F : FM} {ms : List (ST RV)} (c : MC X N W) (hF : DefK X.prog X.w X.K X.mg X.base xm x k n ks dv F) (hr : Room j X.A) (hg : Gl X x)
    (ha : PA X (e :: es) (liftD N xm W ms)) (hk : k ≤ j := by decide) (hn : ms.length = n := by rfl) (hdn : dv.length = ks.length := by rfl)
    (hdb : (x == ("__debug__" : Str)) = false := by decide) (he : starEach (e :: es) X.env = (false, eval e X.env) :: starEach es X.env := by rfl) (hpl : (backTo pos (starEach es X.env)).any (·.1) = false := by rfl) :
    PE X (.Call (.Name x p) (e :: es) [] pos) (lift N xm W (mCall (fun ds S => F (ds ++ dv) S) ms)) := by
  obtain ⟨f, fd, ps, h1, h2, _, ⟨dvs, ds, v, b, rd⟩, h5⟩ := hF
  refine imp (pe_callSD h5 (hr.mono hk) hg h1 h2 b v (fun σ => passAt c.tk σ) ha hdb he hpl) fun σ H Q h => ?_
  have h := call_ok (n := n) c h hn
  obtain ⟨g, fz, is, sr, h⟩ := h
  refine ⟨g, fz, is, sr, ?_⟩
  revert h
  cases argsD ms g with
  | stuck => exact id
  | exc x g' => exact id
  | ok xs g1 =>
    intro h vs H1 fz1 is1 l1 sr1 rep
    obtain ⟨hl, ds', S, fz', is', pr, rep', h⟩ := h vs H1 fz1 is1 l1 sr1 rep
    rw [List.append_nil] at hl rep'
    refine ⟨by rw [List.length_append, hl, (rd is' fz' H1).length, hdn], ds' ++ dv, S, fz', is', pr, rep'.append (rd is' fz' H1), h⟩
end
end Mx
namespace Mx
open PySem PySem.Spec PyProof.Rows L2
theorem funAtK {fa : List He.Fa} {fn : List He.DefD} {K : PySem.W.Frag} {h : Heap} {mg : Str → Option Value} (X : K.In h) (G : h.Ns mainGlobals mg) (c : He.SaysD fa fn K) (x : Str) (st : Stmt) (kwd : List (Str × He.Dv)) (kws : List (Str × V)) (i j : Nat) (hi : fn[i]? = some (dfnK x st kwd)) (hj : fa[j]? = some (.glo x))
    (hk : kwd.map (fun q => (q.1, q.2.v K)) = kws) : FunAtK K mg x st kws := by
  obtain ⟨fd, F⟩ := c.def_ i hi
  subst hk
  exact ⟨_, fd, He.glo_ok X G (c.fact j hj), F⟩
/-! ### len -/
theorem cr_lenT {X : Cx} : CallR X (.builtin "len") (fun xs H Q => ∃ a L, xs = [.ref a] ∧ H a = some (NSet.TDO a L) ∧ (∀ p ∈ L, NSet.VKey X.K H p.1 (.ref p.2.1)) ∧ Q (.int (L.length : Nat)) H) := by
  intro pins s σ H xs us Q I r ⟨a, L, e, ha, ki, q⟩
  subst e
  obtain ⟨u, rfl, ru⟩ := vals1 r
  cases ru
  have R : NSet.TD s.heap a L := (I.hok a _ ha).1
  obtain ⟨vs, rv, full⟩ := NSet.TD.full (P := X.prog) (w := X.w) R fun p hp => (ki p hp).at I rfl
  have xl : (NSet.toX L vs).length = L.length := by simp [NSet.toX, NSet.vals_len rv]
  refine call_len_dictH R.sys full (by rw [xl]; have := R.len; rw [sizeLine_eq] at this; omega) ?_
  rw [xl]
  exact ⟨.int L.length, H, I.tok _, ⟨_, rfl⟩, q⟩

theorem cr_lenD {X : Cx} : CallR X (.builtin "len") rLenD := by
  intro pins s σ H xs us Q I r ⟨a, kvs, e, ha, q⟩
  subst e
  obtain ⟨u, rfl, ru⟩ := vals1 r
  cases ru
  exact d_len I ha fun t s' I' => ⟨.int kvs.length, H, I', ⟨t, rfl⟩, q⟩
def rLenB (K : PySem.W.Frag) : List V → Hp → VK → Prop := fun xs H Q => (rLenA K xs H Q ∨ rLenD xs H Q) ∨ ∃ a L, xs = [.ref a] ∧ H a = some (NSet.TDO a L) ∧ (∀ p ∈ L, NSet.VKey K H p.1 (.ref p.2.1)) ∧ Q (.int (L.length : Nat)) H
theorem cr_lenA {X : Cx} : CallR X (.builtin "len") (rLenB X.K) := CallR.or (CallR.or call_len cr_lenD) cr_lenT
theorem f_lenA {K : PySem.W.Frag} : CallF K (rLenB K) fLenA := by
  intro is fz H vs xs rn Q dm hx e fin
  unfold fLenA at e
  split at e
  · cases e
    obtain ⟨v, rfl, h⟩ := hx.one
    obtain ⟨a, vs, rfl, ha, r⟩ := h.dct
    exact .inl (.inr ⟨a, vs, rfl, ha, by rw [r.length]; exact fin.sc (.int _)⟩)
  · cases e
    obtain ⟨v, rfl, h⟩ := hx.one
    obtain ⟨a, L, rfl, ha, r⟩ := h.tct
    exact .inr ⟨a, L, rfl, ha, r.keys, by rw [← r.length]; exact fin.sc (.int _)⟩
  · exact .inl (.inl (f_len is fz H vs _ rn Q dm hx e fin))
end Mx
namespace Mx
open PySem PySem.Spec PyProof.Rows L2
section
variable {X : Cx} {N : En} {xm : XM} {W : WX}
theorem dk_nil : PK X [] (liftD N xm W []) := ⟨fun pos pins s σ H Q I ⟨g, fz, is, sr, h⟩ => pk_nil.run pos pins s σ H Q I (h [] H fz is .refl sr .nil)⟩
theorem dk_cons {nm : Option Str} {e : Expr} {kpos : Pos} {kws : List Keyword} {m : ST RV} {ms : List (ST RV)} (ha : PE X e (lift N xm W m)) (hr : PK X kws (liftD N xm W ms)) : PK X (⟨nm, e, kpos⟩ :: kws) (liftD N xm W (m :: ms)) := by
  refine ⟨fun pos pins s σ H Q I ⟨g, fz, is, sr, h⟩ => (pk_cons ha hr).run pos pins s σ H Q I ⟨g, fz, is, sr, ?_⟩⟩
  simp only [argsD, bnd] at h
  cases e1 : m g with
  | stuck => rw [e1] at h; exact h
  | exc x g' => rw [e1] at h; exact h
  | ok r g1 =>
    rw [e1, bind_ok] at h
    simp only [bnd] at h
    intro v H1 fz1 is1 l1 sr1 rep1
    cases e3 : toD r g1 with
    | stuck => rw [e3] at h; exact h.elim
    | exc x g' => exact (toD_exc e3).elim
    | ok x g3 =>
      rw [e3, bind_ok] at h
      simp only [bnd] at h
      obtain ⟨fz1', l1', sr1', rep1'⟩ := toD_ok sr1 rep1 e3
      have h := (postD.later l1 h).later l1'
      refine ⟨g3, fz1', is1, sr1', ?_⟩
      cases e2 : argsD ms g3 with
      | stuck => rw [e2] at h; exact h
      | exc x g' => rw [e2] at h; exact h
      | ok rs g2 =>
        rw [e2, bind_ok] at h
        intro vs H2 fz2 is2 l2 sr2 rep2
        exact h (v :: vs) H2 fz2 is2 l2 sr2 (.cons (rep1'.mono l2) rep2)
end
end Mx

set_option Elab.async false
set_option linter.all false
set_option maxRecDepth 100000
set_option maxHeartbeats 1000000
/-! a value that is held fast at once -/
namespace Mx
open PySem PySem.Spec PyProof.Rows L2
/-- reads a list and lets nothing change it any more -/
def mFz (m : ST RV) : ST RV := bnd m fun r => bnd (toD r) fun x => ret (.d x)
section
variable {X : Cx} {N : En} {xm : XM} {W : WX}
theorem e_fz {e : Expr} {m : ST RV} (he : PE X e (lift N xm W m)) : PE X e (lift N xm W (mFz m)) := by
  refine imp he fun σ H Q ⟨g, fz, is, sr, h⟩ => step sr h fun r g1 v H1 fz1 is1 l1 sr1 rep h1 => ?_
  simp only [bnd] at h1
  cases e1 : toD r g1 with
  | stuck => rw [e1] at h1; exact h1.elim
  | exc x g' => exact absurd e1 toD_noexc
  | ok x g2 =>
    rw [e1, bind_ok] at h1
    obtain ⟨fz2, l2, sr2, rx⟩ := toD_ok sr1 rep e1
    exact h1 v H1 fz2 is1 l2 sr2 rx
end
end Mx

set_option Elab.async false
set_option linter.all false
set_option maxRecDepth 100000
set_option maxHeartbeats 1000000
/-! is True, is False -/
namespace Mx
open PySem PySem.Spec PyProof.Rows L2
end Mx

set_option Elab.async false
set_option linter.all false
set_option maxRecDepth 100000
set_option maxHeartbeats 1000000
/-! list.pop(i) -/
namespace Mx
open PySem PySem.Spec PyProof.Rows L2
end Mx

set_option Elab.async false
set_option linter.all false
set_option maxRecDepth 100000
set_option maxHeartbeats 0
/-! mirrors of defs that many laws share; printed by gen.py -/
namespace Lib
open PySem PySem.Spec PyProof.Rows L2 Mx NSet
/-- 0 _law_script, 1 _law_seed, 2 _law_cell -/
def b__law_jar : SM := sSeq (sSet 1 (mBin fAdd (mD (.int 6101)) (mAps fLenA [mVar 0])))
  (sSeq (sFor (mItems (mSl (mVar 0) (mNoPart) (mPart (mD (.int 63))))) (tName 2) (sSet 1 (mBin fMod (mBin fAdd (mBin fAdd (mBin fMul (mVar 1) (mD (.int 69069))) (mVar 2)) (mD (.int 5))) (mD (.int 2147483629)))))
  (sRet (mLst [mAps fList [mSl (mVar 0) (mNoPart) (mPart (mD (.int 63)))], mD (.int 0), mD (.int 0), mVar 1, mD (.int 0)])))
def m__law_jar : FM := fnM 3 b__law_jar
/-- 0 _law_jar_here, 1 _law_top, 2 _law_cell, 3 _law_digit -/
def b__law_draw : SM := sSeq (sIf (mAnd (mTest (mBin fLt (mBin fIxA (mVar 0) (mD (.int 2))) (mVar 1))) (mTest (mBin fLt (mBin fIxA (mVar 0) (mD (.int 1))) (mAps fLenA [mBin fIxA (mVar 0) (mD (.int 0))])))) (sSeq (sSet 2 (mBin fIxA (mBin fIxA (mVar 0) (mD (.int 0))) (mBin fIxA (mVar 0) (mD (.int 1)))))
  (sSeq (sPut fSetA (mVar 0) (mD (.int 1)) (mBin fAdd (mBin fIxA (mVar 0) (mD (.int 1))) (mD (.int 1))))
  (sSeq (sPut fSetA (mVar 0) (mD (.int 3)) (mBin fMod (mBin fAdd (mBin fAdd (mBin fMul (mBin fIxA (mVar 0) (mD (.int 3))) (mD (.int 48271))) (mVar 2)) (mBin fIxA (mVar 0) (mD (.int 1)))) (mD (.int 2147483629))))
  (sPut fSetA (mVar 0) (mD (.int 2)) (mIf (mTest (mBin fGe (mVar 2) (mBin fPow (mD (.int 10)) (mD (.int 18))))) (mVar 2) (mD (.int 0))))))) (sNil))
  (sSeq (sIf (mTest (mBin fGe (mBin fIxA (mVar 0) (mD (.int 2))) (mVar 1))) (sSeq (sSet 3 (mBin fMod (mBin fIxA (mVar 0) (mD (.int 2))) (mVar 1)))
  (sSeq (sPut fSetA (mVar 0) (mD (.int 2)) (mBin fFdiv (mBin fIxA (mVar 0) (mD (.int 2))) (mVar 1)))
  (sRet (mVar 3)))) (sNil))
  (sSeq (sPut fSetA (mVar 0) (mD (.int 4)) (mBin fAdd (mBin fIxA (mVar 0) (mD (.int 4))) (mD (.int 1))))
  (sSeq (sPut fSetA (mVar 0) (mD (.int 3)) (mBin fMod (mBin fAdd (mBin fAdd (mBin fAdd (mBin fPow (mBin fIxA (mVar 0) (mD (.int 3))) (mD (.int 3))) (mBin fMul (mD (.int 40503)) (mBin fIxA (mVar 0) (mD (.int 4))))) (mBin fFdiv (mBin fIxA (mVar 0) (mD (.int 3))) (mD (.int 65537)))) (mD (.int 11))) (mD (.int 2147483629))))
  (sRet (mBin fMod (mBin fFdiv (mBin fIxA (mVar 0) (mD (.int 3))) (mD (.int 13))) (mVar 1))))))
def m__law_draw : FM := fnM 4 b__law_draw
/-- 0 _law_jar_here, 1 _law_some -/
def b__law_of : SM := sRet (mBin fIxA (mVar 1) (mCall (m__law_draw) [mVar 0, mAps fLenA [mVar 1]]))
def m__law_of : FM := fnM 2 b__law_of
/-- 0 _law_found, 1 _law_due, 2 _law_spot -/
def b__law_same (r__law_same : FM) : SM := sSeq (sIf (mTest (mBin (fIsN false) (mVar 1) (mD .non))) (sRet (mBin (fIsN false) (mVar 0) (mD .non))) (sNil))
  (sSeq (sIf (mOr (mTest (mAps fIsi [mVar 1, mD (.ty "bool")])) (mTest (mAps fIsi [mVar 0, mD (.ty "bool")]))) (sRet (mAndV (mAps fIsi [mVar 1, mD (.ty "bool")]) (mAndV (mAps fIsi [mVar 0, mD (.ty "bool")]) (mBin (fEq false) (mVar 0) (mVar 1))))) (sNil))
  (sSeq (sIf (mTest (mAps fIsi [mVar 1, mTup [mD (.ty "int"), mD (.ty "str")]])) (sRet (mAndV (mAps fIsi [mVar 0, mTup [mD (.ty "int"), mD (.ty "str")]]) (mAndV (mBin (fEq false) (mAps fIsi [mVar 0, mD (.ty "int")]) (mAps fIsi [mVar 1, mD (.ty "int")])) (mBin (fEq false) (mVar 0) (mVar 1))))) (sNil))
  (sSeq (sIf (mOr (mTest (mBin (fEq true) (mAps fIsi [mVar 1, mD (.ty "list")]) (mAps fIsi [mVar 0, mD (.ty "list")]))) (mTest (mBin (fEq true) (mAps fIsi [mVar 1, mD (.ty "tuple")]) (mAps fIsi [mVar 0, mD (.ty "tuple")])))) (sRet (mD (.bl false))) (sNil))
  (sSeq (sIf (mOr (mNot (mTest (mAps fIsi [mVar 0, mTup [mD (.ty "list"), mD (.ty "tuple")]]))) (mTest (mBin (fEq true) (mAps fLenA [mVar 0]) (mAps fLenA [mVar 1])))) (sRet (mD (.bl false))) (sNil))
  (sRet (mAps fAll [mComp (mRange rng1 [mAps fLenA [mVar 1]]) [2] (tName 2) (mYes) (mCall (r__law_same) [mBin fIxA (mVar 0) (mVar 2), mBin fIxA (mVar 1) (mVar 2)])]))))))
def m__law_same : Nat → FM
  | 0 => fun _ _ => .stuck
  | n + 1 => fnM 3 (b__law_same (m__law_same n))
end Lib

set_option Elab.async false
set_option linter.all false
set_option maxRecDepth 100000
set_option maxHeartbeats 2000000
/-! instances of a class of the text -/
namespace Mx
open PySem PySem.Spec PyProof.Rows L2
/-! ### fields -/
section
variable {K : PySem.W.Frag} {is : List Addr} {fz : Addr → Prop} {H : Hp}
end
section
variable {X : Cx} {N : En} {xm : XM} {W : WX}
/-! ### C(..) -/
end
end Mx

set_option Elab.async false
set_option linter.all false
set_option maxRecDepth 100000
set_option maxHeartbeats 2000000
/-! raise C(..), C an exception class of the text over ValueError whose __init__ calls its parent's -/
namespace Mx
open PySem PySem.Spec PyProof.Rows L2
/-! ### what the text says of such a class -/
/-- none of the fields is an attribute of the class -/
def NoF (K : PySem.W.Frag) (C : Addr) : Prop := ∀ f ∈ exNames, PySem.W.findIn K (.ref C) f = some none
structure ExcC (K : PySem.W.Frag) (c : Str) : Prop where
  gl : PySem.W.nsIn K mainGlobals c = some (some (.ref (He.ga K c)))
  oex : OexC K (He.ga K c)
  ini : PySem.W.findIn K (.ref (He.ga K c)) "__init__" = some (some (.ref (initA K (He.ga K c))))
  ity : PySem.W.typeIn K (.ref (initA K (He.ga K c))) = some (.type "function")
  nof : NoF K (He.ga K c)
theorem oexB_ok {K : PySem.W.Frag} {C : Addr} (h : oexB K C = true) : ∃ nm q N bs bm sn sub ab col dd k0 k1 k2 k3 k5, K.lookup C = some (excClassObj nm q C N bs bm true sn sub ab col dd k0 k1 k2 k3 k5 "ValueError.__new__") ∧ PySem.HandSPX.refsVE bm = true := by
  unfold oexB at h
  split at h
  · rename_i e0 e1 e2 hlook
    split at h
    · rename_i c1 l1 u0 u1 u2 u3 nn u5 hmro hslots
      simp only [Bool.and_eq_true, beq_iff_eq, Bool.not_eq_true'] at h
      obtain ⟨h1, h2, h3, h4, h5⟩ := h
      subst h1 h2
      obtain ⟨d1, d2, d3, d4, d5, d6, d7, d8, d9, d10, d11⟩ := e1
      dsimp only at hmro h3 h4
      subst hmro h3 h4
      obtain ⟨es⟩ := e2
      simp only at hslots
      subst hslots
      exact ⟨d1, d5, d4, d2, l1, d7, d8, d9, d10, e0, u0, u1, u2, u3, u5, hlook, h5⟩
    · cases h
  · cases h
theorem excB_ok {K : PySem.W.Frag} {c : Str} (h : excB K c = true) : ExcC K c := by
  unfold excB at h
  simp only [Bool.and_eq_true] at h
  obtain ⟨h1, h2, h3, h4, h5, h6, h7, h8, h9⟩ := h
  exact ⟨He.eqO_ok h1, ⟨oexB_ok h2, He.eqO_ok h3, of_decide_eq_true h4, of_decide_eq_true h5, h6⟩, He.eqO_ok h7, of_decide_eq_true h8, fun f hf => He.eqO_ok (List.all_eq_true.mp h9 f hf)⟩
/-! ### __init__ -/
/-- what an __init__ promises of a bare exception: its dict -/
def spI (K : PySem.W.Frag) (n : Nat) (fl : List V → List (Str × V)) : Sp := fun vs H Q _ => vs.length = n + 1 ∧ ∃ (a C : Addr) (ws : List V), vs = .ref a :: ws ∧ OexC K C ∧ NoF K C ∧ H a = some (exo a C none) ∧
  ∀ (d : Addr) (H' : Hp), d ≠ a → H d = none → H' a = some (exo a C (some d)) → H' d = some (exd d (fl ws)) → (∀ b, b ≠ a → b ≠ d → H' b = H b) → Q .non H'
def flH : List V → List (Str × V)
  | [x] => [("called", x)]
  | _ => []
def flC (c : Str) (ns : List Str) (ws : List V) : List (Str × V) := ns.zip ws ++ [(("called" : Str), V.str c)]
/-- the call is a plain method call -/
def CallsAs (pl : Env → Sem Bool) (o : Expr) (m : Str) (apos pos : Pos) (es : List Expr) : Prop := ∀ env : Env, eval (.Call (.Attribute o m apos) es [] pos) env = (do
      let ov ← eval o env
      standAt apos.atName
      let (f, first) ← holding [ov] (getMethod ov m (pl env))
      callWith pos f first (backTo pos (starEach es env)) (backToKw pos (keywordEach [] env)))
section
variable {X : Cx} {W : WX}
/-- the parent's __init__, called by the class -/
def tIni (sp : Sp) (ta : TA) : TE := fun σ H Q => ta σ H fun vs H1 => sp vs H1 Q fun _ _ _ => False
structure ClsI (K : PySem.W.Frag) (C fI : Addr) : Prop where
  rd : PySem.W.readsIn K C (.type "type") = true
  ga : PySem.W.specialIn K (.ref C) "__getattribute__" = some (some (.builtin "type.__getattribute__"))
  ty : PySem.W.typeIn K (.ref C) = some (.type "type")
  at_ : PySem.W.findCls K (.ref C) (.type "type") "__init__" = some (.val (.ref fI))
  kp : PySem.W.keepIn K (.ref fI) = true
theorem pe_ini {k : Nat} {fI C : Addr} {fd : FuncData} {ps : List Str} {sp : Sp} {cn : Str} {e : Expr} {es : List Expr} {ta : TA} {p1 p2 pos : Pos} {pl : Env → Sem Bool} (hg : Gl X cn) (hm : X.mg cn = some (.ref C)) (hC : ClsI X.K C fI)
    (F1 : FnOk X.prog X.w X.K X.mg X.base (L2.CX X.prog X.w) k fI fd ps sp) (hr : Room k X.A) (hb : Binds X.K fd ps []) (ha : PA X (e :: es) ta) (hdb : (cn == ("__debug__" : Str)) = false := by decide)
    (hc : CallsAs pl (.Name cn p1) "__init__" p2 pos (e :: es))
    (hst : starEach (e :: es) X.env = (false, eval e X.env) :: starEach es X.env := by rfl) (hpl : (backTo pos (starEach es X.env)).any (·.1) = false := by rfl) :
    PE X (.Call (.Attribute (.Name cn p1) "__init__" p2) (e :: es) [] pos) (tIni sp ta) := by
  refine ⟨fun pins s σ H Q I h => PySem.W.methodCall_KW (pl := pl X.env) (ld_glob I hg hm ?_ hdb) (hc X.env)⟩
  obtain ⟨m, fr⟩ := I.fr
  refine PySem.W.method_of_cls fr I.ok.mod.kin hC.ga (PySem.W.cls_val fr I.ok.mod.kin hC.ty hC.rd hC.at_ rfl ?_)
  have I1 := I.tok (s.toks + 1)
  refine PySem.W.callWith_K (first := []) (h₀ := X.base) I.ok.mod.kin hC.kp (thn (ha.run pos pins _ σ H _ I1 h) fun us s1 ⟨vs, H1, I2, r, q⟩ => ⟨I2.kIn, ?_⟩) hst hpl
  exact run_fnSD (E := fun _ _ _ _ => False) (us := us) (vs := vs) (ds := []) (dvs := []) F1 hr hb .nil (passAt (LamX.takes0) σ) I2 r (by rw [List.append_nil]; exact q)
end
end Mx
namespace Mx
open PySem PySem.Spec PyProof.Rows L2
section
variable {P : Program} {w : World} {K : PySem.W.Frag} {mg : Str → Option Value} {base : Heap} {k kH : Nat}
/-- the one of the family -/
theorem initH_ok {pa : Arguments} {sc : Scope} {f : Addr} {fd : FuncData} {p1 p2 p3 p4 p5 p6 p7 p8 p9 p10 : Pos}
    (F : FunD K "__init__" "HoldError.__init__" pa [.Expr (.Call (.Attribute (.Name "ValueError" p1) "__init__" p2) [.Name "self" p3, .Name "called" p4] [] p5) p6, .Assign [.Attribute (.Name "self" p7) "called" p8] (.Name "called" p9) p10] sc [] [] f fd)
    (S : FnScope ["self", "called"] ["self", "called"] sc) (hv : sc.names.lookup ("ValueError" : Str) = some .globalImplicit) (v0 : sc.names.lookup ("self" : Str) = some .local) (v1 : sc.names.lookup ("called" : Str) = some .local) (hm : mg "ValueError" = none) {pl : Env → Sem Bool} (hc : CallsAs pl (.Name "ValueError" p1) "__init__" p2 p5 [.Name "self" p3, .Name "called" p4])
    (vV : PySem.W.findCls K (.type "ValueError") (.type "type") "__init__" = some (.val (.builtin "ValueError.__init__"))) : FnOk P w K mg base (L2.CX P w) (k + 1) f fd ["self", "called"] (spI K 1 flH) := by
  refine F.ok S (fun vs H Q E h => h.1) fun cdv A outer s H vs Q E hr h => ?_
  obtain ⟨hl, a, C, ws, rfl, T, nf, ea, q⟩ := h
  match ws, hl with
  | [x], _ =>
  have pv0 : ∀ pos, PE (cxOf (L2.CX P w) P w K mg base ["self", "called"] "HoldError.__init__" sc f cdv A outer s H E) (.Name "self" pos) (tVar 0) := fun pos => pe_var rfl (.inl v0)
  have pv1 : ∀ pos, PE (cxOf (L2.CX P w) P w K mg base ["self", "called"] "HoldError.__init__" sc f cdv A outer s H E) (.Name "called" pos) (tVar 1) := fun pos => pe_var rfl (.inl v1)
  refine ⟨_, pss_cons (ps_expr (pe_veinit hv hm vV (pa_cons (pv0 _) (pa_cons (pv1 _) pa_nil)) (hc _))) (pss_one (ps_ost (pv0 _) (pv1 _))), ?_⟩
  refine ⟨.ref a, rfl, x, rfl, a, C, [x], rfl, by simp, T, ea, ?_⟩
  refine ⟨x, rfl, .ref a, rfl, a, C, rfl, T, nf "called" (by decide), .inl ⟨ea, fun dx hdx hne => ?_⟩⟩
  exact q dx _ hne hdx upd_same (by rw [upd_ne hne]; exact upd_same) fun b h1 h2 => by rw [upd_ne h1, upd_ne h2]
/-- a class without fields -/
theorem init0_ok {pa : Arguments} {sc : Scope} {f fH : Addr} {fd fdH : FuncData} {psH : List Str} {c : Str} {qual : Str} {j : Nat} {p1 p2 p3 p4 p5 p6 : Pos} {CH : Addr}
    (F : FunD K "__init__" qual pa [.Expr (.Call (.Attribute (.Name "HoldError" p1) "__init__" p2) [.Name "self" p3, .Constant (.str c) j p4] [] p5) p6] sc [] [] f fd)
    (S : FnScope ["self"] ["self"] sc) (hv : sc.names.lookup ("HoldError" : Str) = some .globalImplicit) (v0 : sc.names.lookup ("self" : Str) = some .local) (hm : mg "HoldError" = some (.ref CH)) (hC : ClsI K CH fH) {pl : Env → Sem Bool} (hc : CallsAs pl (.Name "HoldError" p1) "__init__" p2 p5 [.Name "self" p3, .Constant (.str c) j p4])
    (FH : FnOk P w K mg base (L2.CX P w) kH fH fdH psH (spI K 1 flH)) (hb : Binds K fdH psH []) : FnOk P w K mg base (L2.CX P w) (kH + 1) f fd ["self"] (spI K 0 (flC c [])) := by
  refine F.ok S (fun vs H Q E h => h.1) fun cdv A outer s H vs Q E hr h => ?_
  obtain ⟨hl, a, C, ws, rfl, T, nf, ea, q⟩ := h
  match ws, hl with
  | [], _ =>
  have pv0 : ∀ pos, PE (cxOf (L2.CX P w) P w K mg base ["self"] qual sc f cdv A outer s H E) (.Name "self" pos) (tVar 0) := fun pos => pe_var rfl (.inl v0)
  refine ⟨_, pss_one (ps_expr (pe_ini (X := cxOf (L2.CX P w) P w K mg base ["self"] qual sc f cdv A outer s H E) hv hm hC FH hr hb (pa_cons (pv0 _) (pa_cons pe_str pa_nil)) (hc := hc))), ?_⟩
  exact ⟨.ref a, rfl, rfl, a, C, [.str c], rfl, T, nf, ea, fun d H' h1 h2 h3 h4 h5 => q d H' h1 h2 h3 h4 h5⟩
/-- a class with one field -/
theorem init1_ok {pa : Arguments} {sc : Scope} {f fH : Addr} {fd fdH : FuncData} {psH : List Str} {c n : Str} {qual : Str} {j : Nat} {p1 p2 p3 p4 p5 p6 p7 p8 p9 p10 : Pos} {CH : Addr}
    (F : FunD K "__init__" qual pa [.Expr (.Call (.Attribute (.Name "HoldError" p1) "__init__" p2) [.Name "self" p3, .Constant (.str c) j p4] [] p5) p6, .Assign [.Attribute (.Name "self" p7) n p8] (.Name n p9) p10] sc [] [] f fd)
    (S : FnScope ["self", n] ["self", n] sc) (hv : sc.names.lookup ("HoldError" : Str) = some .globalImplicit) (v0 : sc.names.lookup ("self" : Str) = some .local) (v1 : sc.names.lookup n = some .local) (hn : n ∈ exNames) (hm : mg "HoldError" = some (.ref CH)) (hC : ClsI K CH fH) {pl : Env → Sem Bool} (hc : CallsAs pl (.Name "HoldError" p1) "__init__" p2 p5 [.Name "self" p3, .Constant (.str c) j p4])
    (FH : FnOk P w K mg base (L2.CX P w) kH fH fdH psH (spI K 1 flH)) (hb : Binds K fdH psH []) (hd : (n == ("__debug__" : Str)) = false) (hcd : (n == ("__classdict__" : Str)) = false) : FnOk P w K mg base (L2.CX P w) (kH + 1) f fd ["self", n] (spI K 1 (flC c [n])) := by
  refine F.ok S (fun vs H Q E h => h.1) fun cdv A outer s H vs Q E hr h => ?_
  obtain ⟨hl, a, C, ws, rfl, T, nf, ea, q⟩ := h
  match ws, hl with
  | [x], _ =>
  have pv0 : ∀ pos, PE (cxOf (L2.CX P w) P w K mg base ["self", n] qual sc f cdv A outer s H E) (.Name "self" pos) (tVar 0) := fun pos => pe_var rfl (.inl v0)
  have pv1 : ∀ pos, PE (cxOf (L2.CX P w) P w K mg base ["self", n] qual sc f cdv A outer s H E) (.Name n pos) (tVar 1) := fun pos => pe_var rfl (.inl v1) hd hcd
  refine ⟨_, pss_cons (ps_expr (pe_ini (X := cxOf (L2.CX P w) P w K mg base ["self", n] qual sc f cdv A outer s H E) hv hm hC FH hr hb (pa_cons (pv0 _) (pa_cons pe_str pa_nil)) (hc := hc))) (pss_one (ps_ost (pv0 _) (pv1 _))), ?_⟩
  refine ⟨.ref a, rfl, rfl, a, C, [.str c], rfl, T, nf, ea, fun d H' h1 h2 h3 h4 h5 => ?_⟩
  refine ⟨x, rfl, .ref a, rfl, a, C, rfl, T, nf n hn, .inr ⟨d, [("called", .str c)], h3, h4, by simp, ?_⟩⟩
  exact q d _ h1 h2 (by rw [upd_ne (Ne.symm h1)]; exact h3) upd_same fun b k1 k2 => by rw [upd_ne k2]; exact h5 b k1 k2
/-- the class c with the fields ns, ready to be raised -/
def ExcD (P : Program) (w : World) (K : PySem.W.Frag) (mg : Str → Option Value) (base : Heap) (xm : XM) (c : String) (ns : List Str) (k : Nat) : Prop :=
  xm.cls c = some (He.ga K c) ∧ mg c = some (.ref (He.ga K c)) ∧ ExcC K c ∧ ∃ fd ps, Binds K fd ps [] ∧ FnOk P w K mg base (L2.CX P w) k (initA K (He.ga K c)) fd ps (spI K ns.length (flC c ns))
end
/-! ### raise -/
section
variable {X : Cx} {N : En} {xm : XM} {W : WX}
def sRaise (c : String) (ns : List Str) (ms : List (ST RV)) : SM := fun g => (argsD ms g).to fun xs g => if xs.length = ns.length then .exc ⟨c, ns.zip xs ++ [(("called" : Str), D.str c)]⟩ g else .stuck
/-- C(), the same as with arguments -/
theorem pmk_oex0 {CX : CXT} {x : Str} {C fI : Addr} {k : Nat} {fd : FuncData} {ps : List Str} {sp : Sp} {p pos : Pos} (T : OexC X.K C) (hi : PySem.W.findIn X.K (.ref C) "__init__" = some (some (.ref fI))) (ht : PySem.W.typeIn X.K (.ref fI) = some (.type "function"))
    (F1 : FnOk X.prog X.w X.K X.mg X.base CX k fI fd ps sp) (hr : Room (k + 1) X.A) (hb : Binds X.K fd ps []) (hx : Passes CX X (fun _ _ _ => False)) (hg : Gl X x) (hm : X.mg x = some (.ref C)) (hdb : (x == ("__debug__" : Str)) = false := by decide) :
    PMk X (.Call (.Name x p) [] [] pos) (tMkO C sp [] tNil) := by
  intro pins s σ H Q I h
  obtain ⟨c1, c2, c3, c4, c5, c6, c7, c8, c9, c10, s0, s1, s2, s3, s5, hlk, hmro⟩ := T.cls
  obtain ⟨_, h⟩ := h
  refine wpAny_Call_Name_kw (ld_glob I hg hm ?_ hdb)
  refine PySem.W.callWith_K0 I.kIn T.kC ?_
  obtain ⟨hh, gg, dd, tt, oo⟩ := s
  have h0 : hh.objs.size ≤ hh.objs.size + 1 := Nat.le_succ _
  have hq := h (hh.objs.size + 1) (I.hok.fresh h0)
  have up : ∀ b o, hh.get? b = some o → ((hh.push (PySem.W.kdv_tup [])).push (PySem.HandSPX.excO C hh.objs.size)).get? b = some o := fun b o e => Heap.get?_push_of_some _ (Heap.get?_push_of_some _ e)
  have at_ : ((hh.push (PySem.W.kdv_tup [])).push (PySem.HandSPX.excO C hh.objs.size)).get? (hh.objs.size + 1) = some (PySem.HandSPX.excO C hh.objs.size) := by heap_get
  have J := I.laid (t' := tt) (a := hh.objs.size + 1) (o := exo (hh.objs.size + 1) C none) up h0 (exo_ok at_)
  have hlen : (([Value.ref (hh.objs.size + 1)] : List Value) ++ []).length = ps.length := (F1.len _ _ _ _ hq).symm ▸ rfl
  refine wpAny_call (PySem.HandSPX.call_own (rest := []) F.excBase_ValueError (fun Y => PySem.HandSPX.refsVE_contains Y c5 hmro) (I.kIn _ _ hlk) (PySem.W.looks_findIn I.kIn hi) (fun self => PySem.W.bind_fn I.kIn self ht) (by decide)
    (codeAny_mono (F1.run _ X.stack _ _ ⟨[Value.ref (hh.objs.size + 1)], []⟩ [Value.ref (hh.objs.size + 1)] _ _ (fun _ _ _ => False) (hr.make C [] []) (J.env0.make C [] []) (hb _ [Value.ref (hh.objs.size + 1)] J.kIn hlen) (show Vals [V.ref (hh.objs.size + 1)] [Value.ref (hh.objs.size + 1)] from .cons rfl .nil) hq) fun r s' z => ?_))
  cases r with
  | error er => exact hx pins σ _ _ er s' J z
  | ok fl =>
    cases fl with
    | ret u =>
      obtain ⟨v, H2, o2, b2, u2, k2, rv, ev, d, fs, e1, e2, e3, q2⟩ := z
      subst ev
      obtain ⟨h2, g2, d2, t2, os'⟩ := s'
      exact ⟨rv, mk_end (raises_own T.exC T.tyC) I h0 up u2 k2 o2 b2 e1 e2 e3 q2⟩
    | next => exact z.elim
    | brk => exact z.elim
    | cont => exact z.elim
theorem raise_sp {c : String} {ns : List Str} {k : Nat} {Dn : Ends} {σ : L2.St} {H1 : Hp} {g1 : Sg} {fz1 : Addr → Prop} {is1 : List Addr} {vs : List V} {xs : List D} (mc : MC X N W) (hE : ExcD X.prog X.w X.K X.mg X.base xm c ns k) (hn : ns.length ≤ 1000) (hs : okS c = true) (hz : (c : Str).length ≤ sizeLine) (sr1 : SR N σ H1 g1 fz1 is1) (rep : RepA N.K is1 fz1 H1 vs xs)
    (h1 : postS N xm W Dn fz1 H1 is1 (if xs.length = ns.length then .exc ⟨c, ns.zip xs ++ [(("called" : Str), D.str c)]⟩ g1 else .stuck)) :
    vs.length ≤ 1000 ∧ ∀ a, H1 a = none → spI X.K ns.length (flC c ns) (.ref a :: (vs ++ [])) (upd H1 a (exo a (He.ga X.K c) none)) (fun v H2 => v = .non ∧ ∃ (d : Addr) (fs : List (Str × V)), H2 a = some (exo a (He.ga X.K c) (some d)) ∧ H2 d = some (exd d fs) ∧ H1 d = none ∧ W (.ref (He.ga X.K c)) (some d) σ (upd (del H2 a) d (.xd fs))) (fun _ _ _ => False) := by
  have hl := rep.length
  by_cases e : xs.length = ns.length
  · rw [if_pos e] at h1
    refine ⟨by omega, fun a ha => ⟨by simp [hl, e], a, _, vs, by rw [List.append_nil], hE.2.2.1.oex, hE.2.2.1.nof, upd_same, fun d H' hne hd h3 h4 h5 => ⟨rfl, d, _, h3, h4, ?_, ?_⟩⟩⟩
    · rwa [upd_ne hne] at hd
    · rw [upd_ne hne] at hd
      have eq : upd (del H' a) d (.xd (flC c ns vs)) = upd H1 d (.xd (flC c ns vs)) := by
        funext b
        by_cases hb : b = d
        · rw [hb, upd_same, upd_same]
        · rw [upd_ne hb, upd_ne hb]
          by_cases ha' : b = a
          · rw [ha', del_same, ha]
          · rw [del_ne ha', h5 b ha' hb, upd_ne ha']
      rw [eq]
      have f := sr1.free hd
      have l : Le fz1 H1 is1 fz1 (upd H1 d (.xd (flC c ns vs))) is1 := Le.alloc f.own.nf
      have lv : vs.length = ns.length := by omega
      refine h1 _ _ σ _ fz1 is1 l (sr1.alter f _) ⟨_, d, _, hE.1.trans (by rfl), rfl, rfl, upd_same, ?_, ?_⟩
      · simp only [flC, List.map_append, List.map_cons, List.map_nil, List.map_fst_zip (Nat.le_of_eq lv.symm), List.map_fst_zip (Nat.le_of_eq e.symm)]
      · simp only [flC, List.map_append, List.map_cons, List.map_nil, List.map_snd_zip (Nat.le_of_eq lv), List.map_snd_zip (Nat.le_of_eq e)]
        exact (rep.mono l).append (.cons (.str _ ⟨hs, hz⟩) .nil)
  · rw [if_neg e] at h1
    exact h1.elim
theorem s_raise {k j : Nat} {c : String} {ns : List Str} {e : Expr} {es : List Expr} {ms : List (ST RV)} {p pos pos' : Pos} (mc : MC X N W) (hE : ExcD X.prog X.w X.K X.mg X.base xm c ns k) (hr : Room j X.A) (hg : Gl X (c : Str)) (ha : PA X (e :: es) (liftD N xm W ms)) (hk : k + 1 ≤ j := by decide)
    (hn : ns.length ≤ 1000 := by decide) (hs : okS c = true := by decide +kernel) (hz : (decide ((c : Str).length ≤ sizeLine)) = true := by decide +kernel) (hdb : ((c : Str) == ("__debug__" : Str)) = false := by decide) (he : starEach (e :: es) X.env = (false, eval e X.env) :: starEach es X.env := by rfl) (hpl : (backTo pos (starEach es X.env)).any (·.1) = false := by rfl) :
    PS X (.Raise (some (.Call (.Name (c : Str) p) (e :: es) [] pos)) none pos') (liftS N xm W (sRaise c ns ms)) := by
  obtain ⟨fd, ps, hb, F1⟩ := hE.2.2.2
  have pm := pmk_oex (p := p) (pos := pos) (ds := []) (dvs := []) hE.2.2.1.oex hE.2.2.1.ini hE.2.2.1.ity F1 (hr.mono hk) hb .nil (passes_call (E := fun _ _ _ => False) LamX.takes0 fun _ _ _ _ z => z) hg hE.2.1 ha hdb he hpl
  refine impS (ps_raise mc.calm mc.tk pm) fun D σ H ⟨g, fz, is, sr, h⟩ => ?_
  exact stepSD sr h fun xs g1 vs H1 fz1 is1 l1 sr1 rep h1 => raise_sp mc hE hn hs (of_decide_eq_true hz) sr1 rep h1
theorem s_raise0 {k j : Nat} {c : String} {p pos pos' : Pos} (mc : MC X N W) (hE : ExcD X.prog X.w X.K X.mg X.base xm c [] k) (hr : Room j X.A) (hg : Gl X (c : Str)) (hk : k + 1 ≤ j := by decide)
    (hs : okS c = true := by decide +kernel) (hz : (decide ((c : Str).length ≤ sizeLine)) = true := by decide +kernel) (hdb : ((c : Str) == ("__debug__" : Str)) = false := by decide) :
    PS X (.Raise (some (.Call (.Name (c : Str) p) [] [] pos)) none pos') (liftS N xm W (sRaise c [] [])) := by
  obtain ⟨fd, ps, hb, F1⟩ := hE.2.2.2
  have pm := pmk_oex0 (p := p) (pos := pos) hE.2.2.1.oex hE.2.2.1.ini hE.2.2.1.ity F1 (hr.mono hk) hb (passes_call (E := fun _ _ _ => False) LamX.takes0 fun _ _ _ _ z => z) hg hE.2.1 hdb
  refine impS (ps_raise mc.calm mc.tk pm) fun D σ H ⟨g, fz, is, sr, h⟩ => ?_
  exact raise_sp (xs := []) (vs := []) mc hE (by decide) hs (of_decide_eq_true hz) sr .nil h
end
end Mx

set_option Elab.async false
set_option linter.all false
set_option maxRecDepth 100000
set_option maxHeartbeats 0
/-! mirrors of defs that many laws share; printed by gen.py -/
namespace Lib
open PySem PySem.Spec PyProof.Rows L2 Mx NSet
def v_MOST_ROWS : D := .int 64
def v_MOST_WEB : D := .int 512
/-- 0 thing -/
def b_is_whole : SM := sRet (mAndV (mAps fIsi [mVar 0, mD (.ty "int")]) (mNotV (mAps fIsi [mVar 0, mD (.ty "bool")])))
def m_is_whole : FM := fnM 1 b_is_whole
/-- 0 thing, 1 size, 2 one -/
def b_is_row : SM := sRet (mAndV (mAps fIsi [mVar 0, mD (.ty "tuple")]) (mAps fAll [mComp (mItems (mVar 0)) [2] (tName 2) (mYes) (mAndV (mCall (m_is_whole) [mVar 2]) (mChain fLe fLt (mD (.int 0)) (mVar 2) (mVar 1)))]))
def m_is_row : FM := fnM 3 b_is_row
/-- 0 thing, 1 row -/
def b_is_web : SM := sSeq (sIf (mOr (mNot (mTest (mAps fIsi [mVar 0, mTup [mD (.ty "tuple"), mD (.ty "list")]]))) (mNot (mTest (mChain fLe fLe (mD (.int 1)) (mAps fLenA [mVar 0]) (mD v_MOST_WEB))))) (sRet (mD (.bl false))) (sNil))
  (sRet (mAps fAll [mComp (mItems (mVar 0)) [1] (tName 1) (mYes) (mCall (m_is_row) [mVar 1, mAps fLenA [mVar 0]])]))
def m_is_web : FM := fnM 2 b_is_web
/-- 0 web, 1 kinds, 2 keys, 3 one, 4 at, 5 row, 6 places, 7 key -/
def b_next_round : SM := sSeq (sSet 2 (mComp (mRange fEnumA [mVar 0]) [4, 5] (tPair [4, 5]) (mYes) (mTup [mBin fIxA (mVar 1) (mVar 4), mAps fTuple [mSortC (mItems (mVar 5)) [3] (tName 3) (mYes) (mBin fIxA (mVar 1) (mVar 3))]])))
  (sSeq (sSet 6 (mDictC (mRange fEnumA [mSortSetA (mVar 2)]) [4, 7] (tPair [4, 7]) (mYes) (mVar 7) (mVar 4)))
  (sRet (mComp (mItems (mVar 2)) [7] (tName 7) (mYes) (mBin fIxA (mVar 6) (mVar 7)))))
def m_next_round : FM := fnM 8 b_next_round
/-- 0 web, 1 kinds, 2 later -/
def b_last_round : SM := sSeq (sSet 1 (mBin fMul (mLst [mD (.int 0)]) (mAps fLenA [mVar 0])))
  (sSeq (sSet 2 (mCall (m_next_round) [mVar 0, mVar 1]))
  (sSeq (sWhile (mTest (mBin (fEq true) (mVar 2) (mVar 1))) (sPar 1 2 (mVar 2) (mCall (m_next_round) [mVar 0, mVar 2])) 10000)
  (sRet (mVar 1))))
def m_last_round : FM := fnM 3 b_last_round
/-- 0 web -/
def b_need_web : SM := sIf (mNot (mTest (mCall (m_is_web) [mVar 0]))) (sRaise "BadWeb" [] []) (sNil)
def m_need_web : FM := fnM 1 b_need_web
/-- 0 web, 1 row -/
def b_need_row : SM := sIf (mOr (mNot (mTest (mCall (m_is_whole) [mVar 1]))) (mNot (mTest (mChain fLe fLt (mD (.int 0)) (mVar 1) (mAps fLenA [mVar 0]))))) (sRaise "BadNumber" [] []) (sNil)
def m_need_row : FM := fnM 2 b_need_row
/-- 0 web, 1 at, 2 found, 3 waiting, 4 one -/
def b_come_to : SM := sSeq (sSet 2 (mDisp [(mVar 1, mD (.bl true))]))
  (sSeq (sSet 3 (mLst [mVar 1]))
  (sSeq (sWhile (mTest (mBin (fEq true) (mVar 3) (mLst []))) (sFor (mItems (mBin fIxA (mVar 0) (mMut fPop (mVar 3) []))) (tName 4) (sIf (mTest (mBin (fInA true) (mVar 4) (mVar 2))) (sSeq (sPut fSetA (mVar 2) (mVar 4) (mD (.bl true)))
  (sExpr (mMut fAppend (mVar 3) [mVar 4]))) (sNil))) 10000)
  (sRet (mAps fSorted [mVar 2]))))
def m_come_to : FM := fnM 5 b_come_to
/-- 0 web, 1 at, 2 rows, 3 places, 4 place, 5 row, 6 inner, 7 one, 8 kinds, 9 size, 10 found, 11 kind -/
def b_pictured : SM := sSeq (sSet 2 (mCall (m_come_to) [mVar 0, mVar 1]))
  (sSeq (sSet 3 (mDictK (mRange fEnumA [mVar 2]) [4, 5] (tPair [4, 5]) (mYes) (mVar 5) (mVar 4)))
  (sSeq (sSet 6 (mComp (mItems (mVar 2)) [5] (tName 5) (mYes) (mAps fTuple [mComp (mItems (mBin fIxA (mVar 0) (mVar 5))) [7] (tName 7) (mYes) (mBin fIxA (mVar 3) (mVar 7))])))
  (sSeq (sSet 8 (mCall (m_last_round) [mVar 6]))
  (sSeq (sSet 9 (mBin fAdd (mAps fMax [mVar 8]) (mD (.int 1))))
  (sSeq (sIf (mTest (mBin fGt (mVar 9) (mD v_MOST_ROWS))) (sRaise "TooBig" ["rows"] [mVar 9]) (sNil))
  (sSeq (sSet 10 (mBin fMul (mLst [mTup []]) (mVar 9)))
  (sSeq (sFor (mRange fEnumA [mVar 8]) (tPair [4, 11]) (sPut fSetA (mVar 10) (mVar 11) (mAps fTuple [mSortC (mItems (mBin fIxA (mVar 6) (mVar 4))) [7] (tName 7) (mYes) (mBin fIxA (mVar 8) (mVar 7))])))
  (sRet (mTup [mBin fIxA (mVar 8) (mBin fIxA (mVar 3) (mVar 1)), mAps fTuple [mVar 10]])))))))))
def m_pictured : FM := fnM 12 b_pictured
/-- 0 web, 1 at -/
def b_picture : SM := sSeq (sExpr (mCall (m_need_web) [mVar 0]))
  (sSeq (sExpr (mCall (m_need_row) [mVar 0, mVar 1]))
  (sRet (mCall (m_pictured) [mVar 0, mVar 1])))
def m_picture : FM := fnM 2 b_picture
end Lib

set_option Elab.async false
set_option linter.all false
set_option maxRecDepth 100000
/-! words to run the mirrors -/
namespace Mx
open PySem PySem.Spec PyProof.Rows L2

/-! ### one step at a time -/
theorem x_seq (m n : SM) (g : Sg) : sSeq m n g = (m g).bind n := rfl
theorem x_nil (g : Sg) : sNil g = .nx g := rfl
theorem x_pass (g : Sg) : sPass g = .nx g := rfl
theorem x_break (g : Sg) : sBreak g = .bk g := rfl
theorem x_cont (g : Sg) : sCont g = .ct g := rfl
theorem x_set (i : Nat) (m : ST RV) (g : Sg) : sSet i m g = (m g).to (put i) := rfl
theorem x_share (i : Nat) (m : ST RV) (g : Sg) : sShare i m g = (m g).to (putSh i) := rfl
theorem x_putd (i : Nat) (x : D) (g : Sg) : put i (.d x) g = .nx { g with env := g.env.set i (some (.d x)) } := rfl
theorem x_putt (i : Nat) (c : C) (g : Sg) : put i (.tmp c) g = .nx { g with env := g.env.set i (some (.own c)) } := rfl
theorem x_puto (i j : Nat) (g : Sg) : put i (.own j) g = match g.env[j]? with
    | some (some (.own c)) => .nx { g with env := (g.env.set j (some (.d c.d))).set i (some (.d c.d)) }
    | _ => .stuck := rfl
theorem x_putsh (i : Nat) (c : C) (g : Sg) : putSh i (.tmp c) g = .nx { env := g.env.set i (some (.d (.obj g.st.length))), st := g.st ++ [c] } := rfl
theorem x_expr (m : ST RV) (g : Sg) : sExpr m g = (m g).to fun _ g => .nx g := rfl
theorem x_ret (m : ST RV) (g : Sg) : sRet m g = (m g).to fun r g => match outR r g with
  | some n => .ret n g.st
  | none => .stuck := rfl
theorem x_retN (g : Sg) : sRetN g = .ret (.d .non) g.st := rfl
theorem x_if (t : ST Bool) (m n : SM) (g : Sg) : sIf t m n g = (t g).to fun b => if b = true then m else n := rfl
theorem x_for (mi : ST (List D)) (tg : TgM) (b : SM) (g : Sg) : sFor mi tg b g = (mi g).to (forM tg b) := rfl
theorem x_outd (x : D) (g : Sg) : outR (.d x) g = some (.d x) := rfl
theorem x_outt (c : C) (g : Sg) : outR (.tmp c) g = some (.new c) := rfl
theorem x_outo (i : Nat) (g : Sg) : outR (.own i) g = match g.env[i]? with
    | some (some (.own c)) => some (.new c)
    | _ => none := rfl
theorem x_var (i : Nat) (g : Sg) : mVar i g = match g.env[i]? with
  | some (some (.d x)) => .ok (.d x) g
  | some (some (.own _)) => .ok (.own i) g
  | _ => .stuck := rfl
theorem x_d (d : D) (g : Sg) : mD d g = .ok (.d d) g := rfl
theorem x_bin (f : D → D → Option RN) (ma mb : ST RV) (g : Sg) : mBin f ma mb g = (ma g).bind fun a g => (mb g).bind fun b g => opt (pk2 f (frz a) (frz b) g) g := rfl
theorem x_opts (r : RN) (g : Sg) : opt (some r) g = .ok r.rv g := rfl
theorem x_optn (g : Sg) : opt none g = .stuck := rfl
theorem x_rvd (d : D) : (RN.d d).rv = .d d := rfl
theorem x_rvn (c : C) : (RN.new c).rv = .tmp c := rfl
theorem x_frd (d : D) : frz (.d d) = .d d := rfl
theorem x_frt (c : C) : frz (.tmp c) = .d c.d := rfl
theorem x_fro (i : Nat) : frz (.own i) = .own i := rfl
theorem x_Cl (xs : List D) : (C.lst xs).d = .lst xs := rfl
theorem x_Cd (xs : List (D × D)) : (C.dct xs).d = .dct xs := rfl
theorem x_tod (x : D) (g : Sg) : toD (.d x) g = .ok x g := rfl
theorem x_tot (c : C) (g : Sg) : toD (.tmp c) g = .ok c.d g := rfl
theorem x_too (i : Nat) (g : Sg) : toD (.own i) g = match g.env[i]? with
    | some (some (.own c)) => .ok c.d { g with env := g.env.set i (some (.d c.d)) }
    | _ => .stuck := rfl
theorem x_lk1 (g : Sg) : look .non g = some .non := rfl
theorem x_lk2 (b : Bool) (g : Sg) : look (.bl b) g = some (.bl b) := rfl
theorem x_lk3 (i : Int) (g : Sg) : look (.int i) g = some (.int i) := rfl
theorem x_lk4 (s : Str) (g : Sg) : look (.str s) g = some (.str s) := rfl
theorem x_lk5 (n : String) (g : Sg) : look (.ty n) g = some (.ty n) := rfl
theorem x_lk6 (a : Addr) (g : Sg) : look (.fn a) g = some (.fn a) := rfl
theorem x_lk7 (xs : List D) (g : Sg) : look (.tup xs) g = some (.tup xs) := rfl
theorem x_lk8 (xs : List D) (g : Sg) : look (.lst xs) g = some (.lst xs) := rfl
theorem x_lk9 (xs : List (D × D)) (g : Sg) : look (.dct xs) g = some (.dct xs) := rfl
theorem x_lk10 (ns : List Int) (g : Sg) : look (.scr ns) g = some (.scr ns) := rfl
theorem x_lookO (i : Nat) (g : Sg) : look (.obj i) g = match g.st[i]? with
    | some c => some c.d
    | none => none := rfl
theorem x_peekd (x : D) (g : Sg) : peek (.d x) g = look x g := rfl
theorem x_peeko (i : Nat) (g : Sg) : peek (.own i) g = match g.env[i]? with
    | some (some (.own c)) => some c.d
    | _ => none := rfl
theorem x_pk2 (f : D → D → Option RN) (a b : RV) (g : Sg) : pk2 f a b g = match peek a g, peek b g with
  | some x, some y => f x y
  | _, _ => none := rfl
theorem x_asB (b : Bool) (g : Sg) : asB (.d (.bl b)) g = .ok b g := rfl
theorem x_test (m : ST RV) (g : Sg) : mTest m g = (m g).bind asB := rfl
theorem x_not (m : ST Bool) (g : Sg) : mNot m g = (m g).bind fun b => ret (!b) := rfl
theorem x_and (m n : ST Bool) (g : Sg) : mAnd m n g = (m g).bind fun b => if b = true then n else ret false := rfl
theorem x_or (m n : ST Bool) (g : Sg) : mOr m n g = (m g).bind fun b => if b = true then ret true else n := rfl
theorem x_ife {α : Type} (t : ST Bool) (m n : ST α) (g : Sg) : mIf t m n g = (t g).bind fun b => if b = true then m else n := rfl
theorem x_andV (m n : ST RV) (g : Sg) : mAndV m n g = (m g).bind fun r g => (asB r g).bind fun b => if b = true then n else ret (.d (.bl false)) := rfl
theorem x_orV (m n : ST RV) (g : Sg) : mOrV m n g = (m g).bind fun r g => (asB r g).bind fun b => if b = true then ret (.d (.bl true)) else n := rfl
theorem x_notV (m : ST RV) (g : Sg) : mNotV m g = (m g).bind fun r g => (asB r g).bind fun b => ret (.d (.bl (!b))) := rfl
theorem x_ret0 {α : Type} (a : α) (g : Sg) : ret a g = .ok a g := rfl
theorem x_chain (f f' : D → D → Option RN) (ma mb mc : ST RV) (g : Sg) : mChain f f' ma mb mc g = (ma g).bind fun a g => (mb g).bind fun b g =>
  (opt (pk2 f (frz a) (frz b) g) g).bind fun r g => (asB r g).bind fun k => if k = true then bnd mc fun z => fun g => opt (pk2 f' (frz b) (frz z) g) g else ret (.d (.bl false)) := rfl
theorem x_bnd {α β : Type} (m : ST α) (f : α → ST β) (g : Sg) : bnd m f g = (m g).bind f := rfl
theorem x_D0 (g : Sg) : argsD [] g = .ok [] g := rfl
theorem x_D1 (m : ST RV) (ms : List (ST RV)) (g : Sg) : argsD (m :: ms) g = (m g).bind fun r g => (toD r g).bind fun x g => (argsD ms g).bind fun xs g => .ok (x :: xs) g := rfl
theorem x_P0 (g : Sg) : argsP [] g = .ok [] g := rfl
theorem x_P1 (m : ST RV) (ms : List (ST RV)) (g : Sg) : argsP (m :: ms) g = (m g).bind fun r g => (argsP ms g).bind fun xs g => .ok (frz r :: xs) g := rfl
theorem x_pks0 (g : Sg) : peeks [] g = some [] := rfl
theorem x_pks1 (r : RV) (rs : List RV) (g : Sg) : peeks (r :: rs) g = match peek r g, peeks rs g with
    | some x, some xs => some (x :: xs)
    | _, _ => none := rfl
theorem x_aps (f : List D → Option RN) (ms : List (ST RV)) (g : Sg) : mAps f ms g = (argsP ms g).bind fun rs g => match peeks rs g with
  | some xs => opt (f xs) g
  | none => .stuck := rfl
theorem x_tup (ms : List (ST RV)) (g : Sg) : mTup ms g = (argsD ms g).bind fun xs => if xs.length ≤ sizeLine then ret (.d (.tup xs)) else stop := rfl
theorem x_lst (ms : List (ST RV)) (g : Sg) : mLst ms g = (argsD ms g).bind fun xs => if xs.length ≤ sizeLine then ret (.tmp (.lst xs)) else stop := rfl
theorem x_dict0 (g : Sg) : mDict0 g = .ok (.tmp (.dct [])) g := rfl
theorem x_call (F : FM) (ms : List (ST RV)) (g : Sg) : mCall F ms g = (argsD ms g).bind fun ds g => ofF (F ds g.st) g := rfl
theorem x_ofok (r : RN) (S : List C) (g : Sg) : ofF (.ok r S) g = .ok r.rv { g with st := S } := rfl
theorem x_items (m : ST RV) (g : Sg) : mItems m g = (m g).bind fun r g => (toD r g).bind fun x g => match items x with
  | some xs => .ok xs g
  | none => .stuck := rfl
theorem x_range (f : List D → Option (List D)) (ms : List (ST RV)) (g : Sg) : mRange f ms g = (argsD ms g).bind fun xs g => match f xs with
  | some ys => .ok ys g
  | none => .stuck := rfl
theorem x_sl (m : ST RV) (lo hi : ST (Option Int)) (g : Sg) : mSl m lo hi g = (m g).bind fun r g => (lo g).bind fun a g => (hi g).bind fun b g => match peek (frz r) g with
  | some x => opt (fSl x a b) g
  | none => .stuck := rfl
theorem x_part (m : ST RV) (g : Sg) : mPart m g = (m g).bind fun r g => match asI r with
  | some i => .ok (some i) g
  | none => .stuck := rfl
theorem x_nopart (g : Sg) : mNoPart g = .ok none g := rfl
theorem x_asI (i : Int) : asI (.d (.int i)) = some i := rfl
theorem x_mut (f : MF) (mr : ST RV) (ms : List (ST RV)) (g : Sg) : mMut f mr ms g = (mr g).bind fun r g => if isLst (getC r g) = true then (argsD ms g).bind (mutK f r) else .stuck := rfl
theorem x_mutK (f : MF) (r : RV) (xs : List D) (g : Sg) : mutK f r xs g = match getC r g with
  | some c => match f c xs with
    | some (d, c') => .ok (.d d) (putC r c' g)
    | none => .stuck
  | none => .stuck := rfl
theorem x_getO (i : Nat) (g : Sg) : getC (.own i) g = match g.env[i]? with
    | some (some (.own c)) => some c
    | _ => none := rfl
theorem x_getS (k : Nat) (g : Sg) : getC (.d (.obj k)) g = g.st[k]? := rfl
theorem x_putO (i : Nat) (c : C) (g : Sg) : putC (.own i) c g = { g with env := g.env.set i (some (.own c)) } := rfl
theorem x_putS (k : Nat) (c : C) (g : Sg) : putC (.d (.obj k)) c g = { g with st := g.st.set k c } := rfl
theorem x_isLst (xs : List D) : isLst (some (.lst xs)) = true := rfl
theorem x_put (f : SF) (mo mi me : ST RV) (g : Sg) : sPut f mo mi me g = (me g).to fun rv g => (toD rv g).to fun d g => (mo g).to fun ro g => (mi g).to fun ri g => (toD ri g).to fun k g => match getC ro g with
  | some c => match f c k d with
    | some c' => .nx (putC ro c' g)
    | none => .stuck
  | none => .stuck := rfl
theorem x_aug (i : Nat) (f : D → D → Option RN) (m : ST RV) (g : Sg) : sAug i f m g = match g.env[i]? with
  | some (some (.d x)) => (m g).to fun r g => match pk2 f (.d x) (frz r) g with
    | some (.d z) => .nx { g with env := g.env.set i (some (.d z)) }
    | _ => .stuck
  | _ => .stuck := rfl
theorem x_str1 (f : D → D → Option RN) (mo me : ST RV) (g : Sg) : mStr1 f mo me g = (mo g).bind fun a => if isStr a = true then bnd me fun b => fun g => opt (pk2 f a (frz b) g) g else stop := rfl
theorem x_isStr (x : Str) : isStr (.d (.str x)) = true := rfl
theorem y_comp (mi : ST (List D)) (vs : List Nat) (t : TgM) (tt : ST Bool) (me : ST RV) (g : Sg) : mComp mi vs t tt me g = (mi g).bind fun xs g => endC g vs (compM vs t tt me xs [] g) := rfl
theorem x_neg (m : ST RV) (g : Sg) : mNeg m g = (m g).bind fun r g => match r with
  | .d (.int i) => .ok (.d (.int (-i))) g
  | _ => .stuck := rfl
theorem x_endC (g0 : Sg) (vs : List Nat) (ys : List D) (g : Sg) : endC g0 vs (.ok ys g) = .ok (.tmp (.lst ys)) { g with env := backE g0.env g.env vs } := rfl
theorem x_tName (i : Nat) (x : D) (g : Sg) : tName i x g = some { g with env := g.env.set i (some (.d x)) } := rfl
theorem x_yes (g : Sg) : mYes g = .ok true g := rfl

/-! ### ends -/
def RI {α : Type} (x : R α) (Q : α → Sg → Prop) : Prop := match x with
  | .ok a g => Q a g
  | _ => False
def SI (x : RS) (nx bk ct : Sg → Prop) (rt : RN → List C → Prop) : Prop := match x with
  | .nx g => nx g
  | .bk g => bk g
  | .ct g => ct g
  | .ret r S => rt r S
  | _ => False
def FI (x : RF) (Q : RN → List C → Prop) : Prop := match x with
  | .ok r S => Q r S
  | _ => False
section
variable {nx bk ct : Sg → Prop} {rt : RN → List C → Prop}
theorem SI.seq {m : RS} {n : SM} (h : SI m (fun g => SI (n g) nx bk ct rt) bk ct rt) : SI (m.bind n) nx bk ct rt := by
  cases m <;> exact h
theorem SI.seq_eq {m n : SM} {g g' : Sg} (e : m g = .nx g') (h : SI (n g') nx bk ct rt) : SI (sSeq m n g) nx bk ct rt := by
  rw [x_seq, e]
  exact h
theorem SI.seqx {m n : SM} {g : Sg} (h : SI (m g) (fun g' => SI (n g') nx bk ct rt) bk ct rt) : SI (sSeq m n g) nx bk ct rt := SI.seq h
theorem SI.to {α : Type} {m : R α} {n : α → SM} (h : RI m fun a g => SI (n a g) nx bk ct rt) : SI (m.to n) nx bk ct rt := by
  cases m <;> first | exact h | exact h.elim
theorem RI.bind {α β : Type} {m : R α} {n : α → ST β} {Q : β → Sg → Prop} (h : RI m fun a g => RI (n a g) Q) : RI (m.bind n) Q := by
  cases m <;> first | exact h | exact h.elim
theorem SI.mono {x : RS} {nx' bk' ct' : Sg → Prop} {rt' : RN → List C → Prop} (h : SI x nx bk ct rt) (h1 : ∀ g, nx g → nx' g) (h2 : ∀ g, bk g → bk' g) (h3 : ∀ g, ct g → ct' g) (h4 : ∀ r S, rt r S → rt' r S) : SI x nx' bk' ct' rt' := by
  cases x with
  | nx g => exact h1 g h
  | bk g => exact h2 g h
  | ct g => exact h3 g h
  | ret r S => exact h4 r S h
  | _ => exact h
theorem RI.mono {α : Type} {x : R α} {Q Q' : α → Sg → Prop} (h : RI x Q) (i : ∀ a g, Q a g → Q' a g) : RI x Q' := by
  cases x <;> first | exact i _ _ h | exact h
theorem RI.of {α : Type} {x : R α} {Q : α → Sg → Prop} (h : RI x Q) : ∃ a g, x = .ok a g ∧ Q a g := by
  cases x <;> first | exact ⟨_, _, rfl, h⟩ | exact h.elim
theorem FI.of {x : RF} {Q : RN → List C → Prop} (h : FI x Q) : ∃ a g, x = .ok a g ∧ Q a g := by
  cases x <;> first | exact ⟨_, _, rfl, h⟩ | exact h.elim
theorem FI.mono {x : RF} {Q Q' : RN → List C → Prop} (h : FI x Q) (i : ∀ r S, Q r S → Q' r S) : FI x Q' := by
  cases x <;> first | exact i _ _ h | exact h.elim
theorem FI.fnM {n : Nat} {b : SM} {ds : List D} {S : List C} {Q : RN → List C → Prop} (h : SI (b { env := env0 n ds, st := S }) (fun g => Q (.d .non) g.st) (fun _ => False) (fun _ => False) Q) : FI (fnM n b ds S) Q := by
  unfold Mx.fnM
  revert h
  cases b { env := env0 n ds, st := S } <;> exact id
theorem SI.for_ {tg : TgM} {b : SM} (I : List D → Sg → Prop) {xs : List D} {g : Sg} (h0 : I xs g)
    (hs : ∀ x xs g, I (x :: xs) g → ∃ g1, tg x g = some g1 ∧ SI (b g1) (I xs) nx (I xs) rt) (he : ∀ g, I [] g → nx g) : SI (forM tg b xs g) nx bk ct rt := by
  induction xs generalizing g with
  | nil => exact he g h0
  | cons x xs ih =>
    obtain ⟨g1, e1, h1⟩ := hs x xs g h0
    simp only [forM, e1]
    cases e : b g1 with
    | nx g2 => rw [e] at h1; exact ih h1
    | ct g2 => rw [e] at h1; exact ih h1
    | bk g2 => rw [e] at h1; exact h1
    | ret r S => rw [e] at h1; exact h1
    | stuck => rw [e] at h1; exact h1
    | exc x g => rw [e] at h1; exact h1
theorem SI.while_ {t : ST Bool} {b : SM} (I : Nat → Sg → Prop) {n : Nat} {g : Sg} (h0 : I n g)
    (hs : ∀ n g, I n g → RI (t g) fun k g => if k = true then ∃ m, n = m + 1 ∧ SI (b g) (I m) nx (I m) rt else nx g) (hp : ∀ n g, I n g → 0 < n) : SI (sWhile t b n g) nx bk ct rt := by
  induction n generalizing g with
  | zero => exact absurd (hp 0 g h0) (Nat.lt_irrefl 0)
  | succ n ih =>
    have h1 := hs _ g h0
    obtain ⟨k, g1, e1, h2⟩ := h1.of
    simp only [sWhile, e1, R.to_ok]
    cases k with
    | false => simpa [SI] using h2
    | true =>
      simp only [if_true] at h2 ⊢
      obtain ⟨m, em, h2⟩ := h2
      cases em
      cases e : b g1 with
      | nx g2 => rw [e] at h2; exact ih h2
      | ct g2 => rw [e] at h2; exact ih h2
      | bk g2 => rw [e] at h2; exact h2
      | ret r S => rw [e] at h2; exact h2
      | stuck => rw [e] at h2; exact h2
      | exc x g => rw [e] at h2; exact h2
end

/-! ### comprehensions -/
theorem backE_wipe (old e : List (Option SD)) : ∀ vs ws : List Nat, (∀ v ∈ ws, v ∈ vs) → backE old (wipeE e ws) vs = backE old e vs
  | [], [], _ => rfl
  | vs, [], _ => rfl
  | vs, w :: ws, h => by
    have hw := h w List.mem_cons_self
    have key : ∀ (f : List (Option SD)) (vs : List Nat), w ∈ vs → backE old (f.set w none) vs = backE old f vs := by
      intro f vs
      induction vs with
      | nil => intro h; simp at h
      | cons v vs ih =>
        intro h
        simp only [backE]
        by_cases hv : w ∈ vs
        · rw [ih hv]
        · have e : w = v := by simpa [hv] using h
          subst e
          have k2 : ∀ (f : List (Option SD)) (us : List Nat) (i : Nat) (x y : Option SD), (backE old (f.set i x) us).set i y = (backE old f us).set i y := by
            intro f us i x y
            induction us with
            | nil => simp [backE, List.set_set]
            | cons u us ih2 =>
              simp only [backE]
              by_cases hu : u = i
              · subst hu
                simp only [List.set_set]
                have := ih2
                exact this
              · rw [List.set_comm _ _ hu, List.set_comm _ _ hu, ih2]
          exact k2 f vs w none _
    simp only [wipeE]
    rw [key _ _ hw]
    exact backE_wipe old e vs ws fun v hv => h v (List.mem_cons_of_mem _ hv)
/-- one turn of a comprehension -/
def oneC (t : TgM) (tt : ST Bool) (me : ST RV) (x : D) (g : Sg) (Q : Option D → Sg → Prop) : Prop :=
  ∃ g1, t x g = some g1 ∧ RI (tt g1) fun b g2 => if b = true then RI (me g2) fun r g3 => RI (toD r g3) fun d g4 => Q (some d) g4 else Q none g2
def addO (acc : List D) : Option D → List D
  | some d => acc ++ [d]
  | none => acc
/-- by an invariant: what is left, what is there, the store -/
theorem comp_inv {vs : List Nat} {t : TgM} {tt : ST Bool} {me : ST RV} {E : List (Option SD)} (I : List D → List D → List C → Prop) :
    ∀ {xs acc : List D} {g : Sg}, wipeE g.env vs = E → I xs acc g.st → acc.length + xs.length ≤ sizeLine →
    (∀ x xs acc S, I (x :: xs) acc S → oneC t tt me x ⟨E, S⟩ fun o g' => wipeE g'.env vs = E ∧ I xs (addO acc o) g'.st) →
    RI (compM vs t tt me xs acc g) fun ys g' => wipeE g'.env vs = E ∧ I [] ys g'.st := by
  intro xs
  induction xs with
  | nil => intro acc g e h _ _; exact ⟨e, h⟩
  | cons x xs ih =>
    intro acc g e h hl hs
    obtain ⟨g1, e1, h1⟩ := hs x xs acc g.st h
    simp only [List.length_cons] at hl
    simp only [compM, e, e1]
    obtain ⟨b, g2, e2, h2⟩ := h1.of
    rw [e2]
    cases b with
    | false =>
      simp only [Bool.false_eq_true, if_false] at h2
      exact ih h2.1 h2.2 (by omega) hs
    | true =>
      simp only [if_true] at h2
      obtain ⟨r, g3, e3, h3⟩ := h2.of
      obtain ⟨d, g4, e4, h4⟩ := h3.of
      simp only [e3, e4]
      rw [if_pos (by omega)]
      exact ih h4.1 h4.2 (by simp; omega) hs
theorem mComp_inv {mi : ST (List D)} {vs : List Nat} {t : TgM} {tt : ST Bool} {me : ST RV} {g g0 : Sg} {xs : List D} (I : List D → List D → List C → Prop) {Q : RV → Sg → Prop} (hi : mi g = .ok xs g0) (h0 : I xs [] g0.st) (hl : xs.length ≤ sizeLine)
    (hs : ∀ x xs acc S, I (x :: xs) acc S → oneC t tt me x ⟨wipeE g0.env vs, S⟩ fun o g' => wipeE g'.env vs = wipeE g0.env vs ∧ I xs (addO acc o) g'.st)
    (he : ∀ ys S, I [] ys S → Q (.tmp (.lst ys)) ⟨backE g0.env (wipeE g0.env vs) vs, S⟩) : RI (mComp mi vs t tt me g) Q := by
  have h := comp_inv (vs := vs) (t := t) (tt := tt) (me := me) (E := wipeE g0.env vs) I (xs := xs) (acc := []) (g := g0) rfl h0 (by simpa using hl) hs
  obtain ⟨ys, g1, e, h1, h2⟩ := h.of
  rw [y_comp, hi, bind_ok, e, x_endC]
  have := he ys g1.st h2
  rw [← h1] at this
  rw [backE_wipe _ _ _ _ (fun _ h => h)] at this
  exact this
end Mx

set_option Elab.async false
set_option linter.all false
set_option maxRecDepth 100000
set_option maxHeartbeats 1000000
/-! more words to run the mirrors; comprehensions over lists that are told by a function -/
namespace Mx
open PySem PySem.Spec PyProof.Rows L2 NSet
theorem x_fz (m : ST RV) (g : Sg) : mFz m g = (m g).bind fun r g => (toD r g).bind fun x g => .ok (.d x) g := rfl
theorem x_iAl (xs : List D) (y : D) : fIxA (.lst xs) y = fIx (.lst xs) y := rfl
theorem x_iAt (xs : List D) (y : D) : fIxA (.tup xs) y = fIx (.tup xs) y := rfl
theorem x_iAs (s : Str) (y : D) : fIxA (.str s) y = fIx (.str s) y := rfl
theorem x_iAc (ns : List Int) (y : D) : fIxA (.scr ns) y = fIx (.scr ns) y := rfl
theorem x_lAl (xs : List D) : fLenA [.lst xs] = some (.d (.int xs.length)) := rfl
theorem x_lAt (xs : List D) : fLenA [.tup xs] = some (.d (.int xs.length)) := rfl
theorem x_lAs (s : Str) : fLenA [.str s] = some (.d (.int s.length)) := rfl
theorem x_lAc (ns : List Int) : fLenA [.scr ns] = some (.d (.int ns.length)) := rfl
theorem x_lAd (kvs : List (D × D)) : fLenA [.dct kvs] = some (.d (.int kvs.length)) := rfl
theorem x_lAk (kvs : List (D × D)) : fLenA [.tdc kvs] = some (.d (.int kvs.length)) := rfl
theorem x_sAl (xs : List D) (k v : D) : fSetA (.lst xs) k v = fSetL (.lst xs) k v := rfl
theorem x_inAl (n : Bool) (x : D) (xs : List D) : fInA n x (.lst xs) = fIn n x (.lst xs) := rfl
theorem x_inAt (n : Bool) (x : D) (xs : List D) : fInA n x (.tup xs) = fIn n x (.tup xs) := rfl
theorem x_inAs (n : Bool) (x : D) (s : Str) : fInA n x (.str s) = fIn n x (.str s) := rfl
theorem x_Ck (xs : List (D × D)) : (C.tct xs).d = .tdc xs := rfl
theorem x_lk11 (xs : List (D × D)) (g : Sg) : look (.tdc xs) g = some (.tdc xs) := rfl
theorem x_dictT (g : Sg) : mDictT g = .ok (.tmp (.tct [])) g := rfl
theorem x_disp (ms : List (ST RV × ST RV)) (g : Sg) : mDisp ms g = (dispM ms g).bind fun kvs g => if kvs.all (fun p => isKey p.1) = true ∧ kvs.length ≤ 15 then .ok (.tmp (.dct (mergeD [] kvs))) g else .stuck := rfl
theorem x_dis0 (g : Sg) : dispM [] g = .ok [] g := rfl
theorem x_dis1 (m : ST RV × ST RV) (ms : List (ST RV × ST RV)) (g : Sg) : dispM (m :: ms) g = (m.1 g).bind fun r g => (toD r g).bind fun k g => (m.2 g).bind fun r' g => (toD r' g).bind fun v g => (dispM ms g).bind fun kvs g => .ok ((k, v) :: kvs) g := rfl
theorem x_l1 (f : D → D → Option RN) (mo me : ST RV) (g : Sg) : mL1 f mo me g = (mo g).bind fun a g => if isL (peek (frz a) g) = true then (me g).bind (fun b g => opt (pk2 f (frz a) (frz b) g) g) else .stuck := rfl
theorem x_isL (xs : List D) : isL (some (.lst xs)) = true := rfl
theorem x_sortS (m : ST RV) (g : Sg) : mSortSetA m g = (m g).bind fun r g => match peek (frz r) g with
  | some (.lst xs) => match sortSetA xs with
    | some ys => .ok (.tmp (.lst ys)) g
    | none => .stuck
  | some (.tup xs) => match intsD xs with
    | some ns => if ns.length < 4096 then .ok (.tmp (.lst ((sortI (insAll ns)).map D.int))) g else .stuck
    | none => .stuck
  | _ => .stuck := rfl
theorem x_par (i j : Nat) (ma mb : ST RV) (g : Sg) : sPar i j ma mb g = (argsD [ma, mb] g).to fun xs g => match xs with
  | [x, y] => .nx { g with env := (g.env.set i (some (.d x))).set j (some (.d y)) }
  | _ => .stuck := rfl
theorem x_tgt (t : TgM) (m : ST RV) (g : Sg) : sTgt t m g = (m g).to fun r g => (toD r g).to fun x g => match t x g with
  | some g => .nx g
  | none => .stuck := rfl

/-! ### comprehensions -/
section
variable {α : Type} {vs : List Nat} {t : TgM} {tt : ST Bool} {me mk mv : ST RV} {mi : ST (List D)} {g g0 : Sg}
/-- [.. for x in l]: nothing changes -/
theorem comp_l {l : List α} {e f : α → D} (hi : mi g = .ok (l.map e) g0) (hl : l.length ≤ sizeLine)
    (hs : ∀ a ∈ l, oneC t mYes me (e a) ⟨wipeE g0.env vs, g0.st⟩ fun o g' => wipeE g'.env vs = wipeE g0.env vs ∧ o = some (f a) ∧ g'.st = g0.st) :
    mComp mi vs t mYes me g = .ok (.tmp (.lst (l.map f))) ⟨backE g0.env (wipeE g0.env vs) vs, g0.st⟩ := by
  have go : ∀ {l : List α} {acc : List D} {g : Sg}, (∀ a ∈ l, oneC t mYes me (e a) ⟨wipeE g0.env vs, g0.st⟩ fun o g' => wipeE g'.env vs = wipeE g0.env vs ∧ o = some (f a) ∧ g'.st = g0.st) → wipeE g.env vs = wipeE g0.env vs → g.st = g0.st → acc.length + l.length ≤ sizeLine →
      ∃ g', compM vs t mYes me (l.map e) acc g = .ok (acc ++ l.map f) g' ∧ wipeE g'.env vs = wipeE g0.env vs ∧ g'.st = g0.st := by
    intro l
    induction l with
    | nil => intro acc g _ e1 e2 _; exact ⟨g, by simp [compM], e1, e2⟩
    | cons a l ih =>
      intro acc g hs e1 e2 hl
      simp only [List.length_cons] at hl
      obtain ⟨g1, e3, h1⟩ := hs a List.mem_cons_self
      have h1 : RI (me g1) fun r g3 => RI (toD r g3) fun d g4 => _ := h1
      obtain ⟨r, g3, e4, h3⟩ := h1.of
      obtain ⟨d, g4, e5, e6, e7, e8⟩ := h3.of
      cases e7
      obtain ⟨g', q1, q2, q3⟩ := ih (acc := acc ++ [f a]) (g := g4) (fun b hb => hs b (List.mem_cons_of_mem _ hb)) e6 e8 (by simp; omega)
      refine ⟨g', ?_, q2, q3⟩
      have eg : ({ g with env := wipeE g.env vs } : Sg) = ⟨wipeE g0.env vs, g0.st⟩ := by rw [e1, ← e2]
      simp only [List.map_cons, compM, eg, e3, x_yes, e4, e5]
      rw [if_pos (by omega)]
      simpa using q1
  obtain ⟨g', q1, q2, q3⟩ := go (l := l) (acc := []) (g := g0) hs rfl rfl (by simpa using hl)
  rw [y_comp, hi, bind_ok, q1, x_endC]
  have : backE g0.env g'.env vs = backE g0.env (wipeE g0.env vs) vs := by
    rw [← q2, backE_wipe _ _ _ _ fun _ h => h]
  rw [this, q3]
  rfl
/-- sorted({.. for x in l}) -/
theorem sortC_l {l : List α} {e : α → D} {f : α → Int} (hi : mi g = .ok (l.map e) g0) (hl : l.length < 4096)
    (hs : ∀ a ∈ l, ∃ g1 g2, t (e a) ⟨wipeE g0.env vs, g0.st⟩ = some g1 ∧ me g1 = .ok (.d (.int (f a))) g2 ∧ wipeE g2.env vs = wipeE g0.env vs ∧ g2.st = g0.st) :
    mSortC mi vs t mYes me g = .ok (.tmp (.lst ((sortI (insAll (l.map f))).map D.int))) ⟨backE g0.env (wipeE g0.env vs) vs, g0.st⟩ := by
  have go : ∀ {l : List α} {acc : List Int} {g : Sg}, (∀ a ∈ l, ∃ g1 g2, t (e a) ⟨wipeE g0.env vs, g0.st⟩ = some g1 ∧ me g1 = .ok (.d (.int (f a))) g2 ∧ wipeE g2.env vs = wipeE g0.env vs ∧ g2.st = g0.st) → wipeE g.env vs = wipeE g0.env vs → g.st = g0.st → acc.length + l.length < 4096 →
      ∃ g', compS vs t mYes me (l.map e) acc g = .ok ((l.map f).foldl ins acc) g' ∧ wipeE g'.env vs = wipeE g0.env vs ∧ g'.st = g0.st := by
    intro l
    induction l with
    | nil => intro acc g _ e1 e2 _; exact ⟨g, by simp [compS], e1, e2⟩
    | cons a l ih =>
      intro acc g hs e1 e2 hl
      simp only [List.length_cons] at hl
      obtain ⟨g1, g2, e3, e4, e5, e6⟩ := hs a List.mem_cons_self
      have il := ins_len acc (f a)
      obtain ⟨g', q1, q2, q3⟩ := ih (acc := ins acc (f a)) (g := g2) (fun b hb => hs b (List.mem_cons_of_mem _ hb)) e5 e6 (by omega)
      refine ⟨g', ?_, q2, q3⟩
      have eg : ({ g with env := wipeE g.env vs } : Sg) = ⟨wipeE g0.env vs, g0.st⟩ := by rw [e1, ← e2]
      simp only [List.map_cons, compS, eg, e3, x_yes, e4]
      first | exact q1 | (rw [if_pos (by unfold scanBound; omega)]; exact q1) | (rw [if_pos (by omega)]; exact q1)
  obtain ⟨g', q1, q2, q3⟩ := go (l := l) (acc := []) (g := g0) hs rfl rfl (by simpa using hl)
  have len := insAll_len (l.map f)
  rw [List.length_map] at len
  show (mi g).bind _ = _
  rw [hi, bind_ok]
  show endS g0 vs (compS vs t mYes me (l.map e) [] g0) = _
  rw [q1]
  show (if (insAll (l.map f)).length < 4096 then _ else _) = _
  rw [if_pos (by omega)]
  have : backE g0.env g'.env vs = backE g0.env (wipeE g0.env vs) vs := by
    rw [← q2, backE_wipe _ _ _ _ fun _ h => h]
  rw [this, q3]
  rfl
/-- {k: v for x in l}, keys tuples, each key once -/
theorem dictC_l {l : List α} {e k v : α → D} {n : α → Nk} (hi : mi g = .ok (l.map e) g0) (hl : l.length ≤ sizeLine) (hk : ∀ a ∈ l, keyT (k a) = some (n a)) (nd : (l.map n).Nodup)
    (hs : ∀ a ∈ l, ∃ g1 r g2 g3 r' g4 g5, t (e a) ⟨wipeE g0.env vs, g0.st⟩ = some g1 ∧ mk g1 = .ok r g2 ∧ toD r g2 = .ok (k a) g3 ∧ mv g3 = .ok r' g4 ∧ toD r' g4 = .ok (v a) g5 ∧ wipeE g5.env vs = wipeE g0.env vs ∧ g5.st = g0.st) :
    mDictC mi vs t mYes mk mv g = .ok (.tmp (.tct (l.map fun a => (k a, v a)))) ⟨backE g0.env (wipeE g0.env vs) vs, g0.st⟩ := by
  have go : ∀ {l : List α} {acc : List (D × D)} {g : Sg}, (∀ a ∈ l, keyT (k a) = some (n a)) → (l.map n).Nodup → (∀ a ∈ l, ∀ p ∈ acc, nkOf p.1 ≠ some (n a)) → (∀ a ∈ l, ∃ g1 r g2 g3 r' g4 g5, t (e a) ⟨wipeE g0.env vs, g0.st⟩ = some g1 ∧ mk g1 = .ok r g2 ∧ toD r g2 = .ok (k a) g3 ∧ mv g3 = .ok r' g4 ∧ toD r' g4 = .ok (v a) g5 ∧ wipeE g5.env vs = wipeE g0.env vs ∧ g5.st = g0.st) → wipeE g.env vs = wipeE g0.env vs → g.st = g0.st → acc.length + l.length ≤ sizeLine →
      ∃ g', compD vs t mYes mk mv (l.map e) acc g = .ok (acc ++ l.map fun a => (k a, v a)) g' ∧ wipeE g'.env vs = wipeE g0.env vs ∧ g'.st = g0.st := by
    intro l
    induction l with
    | nil => intro acc g _ _ _ _ e1 e2 _; exact ⟨g, by simp [compD], e1, e2⟩
    | cons a l ih =>
      intro acc g hk nd ac hs e1 e2 hl
      simp only [List.length_cons] at hl
      obtain ⟨g1, r, g2, g3, r', g4, g5, e3, e4, e5, e6, e7, e8, e9⟩ := hs a List.mem_cons_self
      have ka := hk a List.mem_cons_self
      rw [List.map_cons, List.nodup_cons] at nd
      have new : acc.any (fun p => decide (nkOf p.1 = some (n a))) = false := by
        rw [List.any_eq_false]
        intro p hp
        simpa using ac a List.mem_cons_self p hp
      obtain ⟨g', q1, q2, q3⟩ := ih (acc := acc ++ [(k a, v a)]) (g := g5) (fun b hb => hk b (List.mem_cons_of_mem _ hb)) nd.2 (fun b hb p hp => by
        rcases List.mem_append.mp hp with z | z
        · exact ac b (List.mem_cons_of_mem _ hb) p z
        · rw [List.mem_singleton] at z
          subst z
          rw [(keyT_eq ka).1]
          intro z
          refine nd.1 ?_
          rw [Option.some.inj z]
          exact List.mem_map_of_mem hb) (fun b hb => hs b (List.mem_cons_of_mem _ hb)) e8 e9 (by simp; omega)
      refine ⟨g', ?_, q2, q3⟩
      have eg : ({ g with env := wipeE g.env vs } : Sg) = ⟨wipeE g0.env vs, g0.st⟩ := by rw [e1, ← e2]
      simp only [List.map_cons, compD, eg, e3, x_yes, e4, e5, e6, e7, ka]
      rw [if_pos (by omega)]
      simp only [putT, new, Bool.false_eq_true, if_false]
      simpa using q1
  obtain ⟨g', q1, q2, q3⟩ := go (l := l) (acc := []) (g := g0) hk nd (fun _ _ p hp => by cases hp) hs rfl rfl (by simpa using hl)
  show (mi g).bind _ = _
  rw [hi, bind_ok]
  show endD g0 vs (compD vs t mYes mk mv (l.map e) [] g0) = _
  rw [q1]
  have : backE g0.env g'.env vs = backE g0.env (wipeE g0.env vs) vs := by
    rw [← q2, backE_wipe _ _ _ _ fun _ h => h]
  show R.ok _ ⟨backE g0.env g'.env vs, g'.st⟩ = _
  rw [this, q3]
  rfl
/-- {k: v for x in l}, keys numbers, each key once -/
theorem dictK_l {l : List α} {e k v : α → D} {n : α → Int} (hi : mi g = .ok (l.map e) g0) (hl : l.length ≤ sizeLine) (hk : ∀ a ∈ l, k a = .int (n a)) (nd : (l.map n).Nodup)
    (hs : ∀ a ∈ l, ∃ g1 r g2 g3 r' g4 g5, t (e a) ⟨wipeE g0.env vs, g0.st⟩ = some g1 ∧ mk g1 = .ok r g2 ∧ toD r g2 = .ok (k a) g3 ∧ mv g3 = .ok r' g4 ∧ toD r' g4 = .ok (v a) g5 ∧ wipeE g5.env vs = wipeE g0.env vs ∧ g5.st = g0.st) :
    mDictK mi vs t mYes mk mv g = .ok (.tmp (.dct (l.map fun a => (k a, v a)))) ⟨backE g0.env (wipeE g0.env vs) vs, g0.st⟩ := by
  have go : ∀ {l : List α} {acc : List (D × D)} {g : Sg}, (∀ a ∈ l, k a = .int (n a)) → (l.map n).Nodup → (∀ a ∈ l, ∀ p ∈ acc, kEq p.1 (.int (n a)) = false) → (∀ a ∈ l, ∃ g1 r g2 g3 r' g4 g5, t (e a) ⟨wipeE g0.env vs, g0.st⟩ = some g1 ∧ mk g1 = .ok r g2 ∧ toD r g2 = .ok (k a) g3 ∧ mv g3 = .ok r' g4 ∧ toD r' g4 = .ok (v a) g5 ∧ wipeE g5.env vs = wipeE g0.env vs ∧ g5.st = g0.st) → wipeE g.env vs = wipeE g0.env vs → g.st = g0.st → acc.length + l.length ≤ sizeLine →
      ∃ g', compK vs t mYes mk mv (l.map e) acc g = .ok (acc ++ l.map fun a => (k a, v a)) g' ∧ wipeE g'.env vs = wipeE g0.env vs ∧ g'.st = g0.st := by
    intro l
    induction l with
    | nil => intro acc g _ _ _ _ e1 e2 _; exact ⟨g, by simp [compK], e1, e2⟩
    | cons a l ih =>
      intro acc g hk nd ac hs e1 e2 hl
      simp only [List.length_cons] at hl
      obtain ⟨g1, r, g2, g3, r', g4, g5, e3, e4, e5, e6, e7, e8, e9⟩ := hs a List.mem_cons_self
      have ka := hk a List.mem_cons_self
      rw [List.map_cons, List.nodup_cons] at nd
      have new : acc.any (fun p => kEq p.1 (.int (n a))) = false := by
        rw [List.any_eq_false]
        intro p hp
        simpa using ac a List.mem_cons_self p hp
      obtain ⟨g', q1, q2, q3⟩ := ih (acc := acc ++ [(k a, v a)]) (g := g5) (fun b hb => hk b (List.mem_cons_of_mem _ hb)) nd.2 (fun b hb p hp => by
        rcases List.mem_append.mp hp with z | z
        · exact ac b (List.mem_cons_of_mem _ hb) p z
        · rw [List.mem_singleton] at z
          subst z
          rw [ka]
          have z : n a ≠ n b := fun z => nd.1 (by rw [z]; exact List.mem_map_of_mem hb)
          simp [kEq, z]) (fun b hb => hs b (List.mem_cons_of_mem _ hb)) e8 e9 (by simp; omega)
      refine ⟨g', ?_, q2, q3⟩
      have eg : ({ g with env := wipeE g.env vs } : Sg) = ⟨wipeE g0.env vs, g0.st⟩ := by rw [e1, ← e2]
      simp only [List.map_cons, compK, eg, e3, x_yes, e4, e5, e6, e7, ka]
      rw [if_pos ⟨rfl, by omega⟩]
      simp only [putD, new, Bool.false_eq_true, if_false]
      rw [ka] at q1
      simpa using q1
  obtain ⟨g', q1, q2, q3⟩ := go (l := l) (acc := []) (g := g0) hk nd (fun _ _ p hp => by cases hp) hs rfl rfl (by simpa using hl)
  show (mi g).bind _ = _
  rw [hi, bind_ok]
  show endK g0 vs (compK vs t mYes mk mv (l.map e) [] g0) = _
  rw [q1]
  have : backE g0.env g'.env vs = backE g0.env (wipeE g0.env vs) vs := by
    rw [← q2, backE_wipe _ _ _ _ fun _ h => h]
  show R.ok _ ⟨backE g0.env g'.env vs, g'.st⟩ = _
  rw [this, q3]
  rfl
end
end Mx

set_option hygiene false
local macro_rules
  | `(tactic| simp only [$xs,*] $[$l:location]?) => do
    let mut f := false
    let mut a : Array Lean.Syntax := #[]
    for x in xs.getElems do
      if x.raw.getKind == ``Lean.Parser.Tactic.simpLemma && x.raw[2].getId == `XX then
        f := true
        let r ← `(tactic| simp only [x_seq, x_nil, x_pass, x_break, x_cont, x_set, x_share, x_putd, x_putt, x_puto, x_putsh, x_expr, x_ret, x_retN, x_if, x_for, x_outd, x_outt, x_outo, x_var, x_d, x_bin, x_opts, x_optn, x_rvd, x_rvn, x_frd, x_frt, x_fro, x_Cl, x_Cd, x_tod, x_tot, x_too, x_lk1, x_lk2, x_lk3, x_lk4, x_lk5, x_lk6, x_lk7, x_lk8, x_lk9, x_lk10, x_lookO, x_peekd, x_peeko, x_pk2, x_asB, x_test, x_not, x_and, x_or, x_ife, x_andV, x_orV, x_notV, x_ret0, x_chain, x_bnd, x_D0, x_D1, x_P0, x_P1, x_pks0, x_pks1, x_aps, x_tup, x_lst, x_dict0, x_call, x_ofok, x_items, x_range, x_sl, x_part, x_nopart, x_asI, x_mut, x_mutK, x_getO, x_getS, x_putO, x_putS, x_isLst, x_put, x_aug, x_str1, x_isStr, x_neg, x_endC, x_tName, x_yes, x_fz, x_iAl, x_iAt, x_iAs, x_iAc, x_lAl, x_lAt, x_lAs, x_lAc, x_lAd, x_lAk, x_sAl, x_inAl, x_inAt, x_inAs, x_Ck, x_lk11, x_dictT, x_disp, x_dis0, x_dis1, x_l1, x_isL, x_sortS, x_par, x_tgt, R.to_ok, R.to_stuck, R.to_exc, bind_ok, bind_stuck, bind_exc, RS.bind_nx, RS.bind_ret, RS.bind_bk, RS.bind_ct, RS.bind_stuck, RS.bind_exc, List.getElem?_cons_zero, List.getElem?_cons_succ, List.getElem?_nil, List.set_cons_zero, List.set_cons_succ, List.set_nil, List.length_cons, List.length_nil, if_true, if_false, Bool.false_eq_true, reduceIte, Bool.not_true, Bool.not_false, ite_true, ite_false, wipeE, backE, keepD, List.getD_cons_zero, List.getD_cons_succ, Option.bind_some, Option.map_some])
        a := a ++ r.raw[4][1].getSepArgs
      else if x.raw.getKind == ``Lean.Parser.Tactic.simpLemma && x.raw[2].getId == `YY then
        f := true
        let r ← `(tactic| simp only [x_nil, x_pass, x_break, x_cont, x_set, x_share, x_putd, x_putt, x_puto, x_putsh, x_expr, x_ret, x_retN, x_if, x_for, x_outd, x_outt, x_outo, x_var, x_d, x_bin, x_opts, x_optn, x_rvd, x_rvn, x_frd, x_frt, x_fro, x_Cl, x_Cd, x_tod, x_tot, x_too, x_lk1, x_lk2, x_lk3, x_lk4, x_lk5, x_lk6, x_lk7, x_lk8, x_lk9, x_lk10, x_lookO, x_peekd, x_peeko, x_pk2, x_asB, x_test, x_not, x_and, x_or, x_ife, x_andV, x_orV, x_notV, x_ret0, x_chain, x_bnd, x_D0, x_D1, x_P0, x_P1, x_pks0, x_pks1, x_aps, x_tup, x_lst, x_dict0, x_call, x_ofok, x_items, x_range, x_sl, x_part, x_nopart, x_asI, x_mut, x_mutK, x_getO, x_getS, x_putO, x_putS, x_isLst, x_put, x_aug, x_str1, x_isStr, x_neg, x_endC, x_tName, x_yes, x_fz, x_iAl, x_iAt, x_iAs, x_iAc, x_lAl, x_lAt, x_lAs, x_lAc, x_lAd, x_lAk, x_sAl, x_inAl, x_inAt, x_inAs, x_Ck, x_lk11, x_dictT, x_disp, x_dis0, x_dis1, x_l1, x_isL, x_sortS, x_par, x_tgt, R.to_ok, R.to_stuck, R.to_exc, bind_ok, bind_stuck, bind_exc, RS.bind_nx, RS.bind_ret, RS.bind_bk, RS.bind_ct, RS.bind_stuck, RS.bind_exc, List.getElem?_cons_zero, List.getElem?_cons_succ, List.getElem?_nil, List.set_cons_zero, List.set_cons_succ, List.set_nil, List.length_cons, List.length_nil, if_true, if_false, Bool.false_eq_true, reduceIte, Bool.not_true, Bool.not_false, ite_true, ite_false, wipeE, backE, keepD, List.getD_cons_zero, List.getD_cons_succ, Option.bind_some, Option.map_some, x_raise, x_ofexc])
        a := a ++ r.raw[4][1].getSepArgs
      else a := a.push x.raw
    if f then
      let ys : Lean.Syntax.TSepArray [`Lean.Parser.Tactic.simpStar, `Lean.Parser.Tactic.simpErase, `Lean.Parser.Tactic.simpLemma] "," := .ofElems (a.map (⟨·⟩))
      `(tactic| simp only [$ys,*] $[$l:location]?)
    else Lean.Macro.throwUnsupported
set_option hygiene true
set_option Elab.async false
set_option linter.all false
set_option maxRecDepth 100000
set_option maxHeartbeats 1000000
/-! the jar of numbers: what is drawn from it -/
namespace Lib
open PySem PySem.Spec PyProof.Rows L2 Mx

structure Jar where
  cells : List Int
  at_ : Nat
  rest : Int
  seed : Int
  num : Int
structure Jar.Ok (j : Jar) : Prop where
  rest : 0 ≤ j.rest
  seed : 0 ≤ j.seed
  seed2 : j.seed < 2147483629
  num : 0 ≤ j.num
  len : j.cells.length ≤ 63
def jarC (j : Jar) : C := .lst [.lst (j.cells.map D.int), .int j.at_, .int j.rest, .int j.seed, .int j.num]

theorem env0_4_2 (a b : D) : env0 4 [a, b] = [some (.d a), some (.d b), none, none] := rfl
theorem ix0 (a b c d e : D) : fIx (.lst [a, b, c, d, e]) (.int 0) = some (.d a) := rfl
theorem ix1 (a b c d e : D) : fIx (.lst [a, b, c, d, e]) (.int 1) = some (.d b) := rfl
theorem ix2 (a b c d e : D) : fIx (.lst [a, b, c, d, e]) (.int 2) = some (.d c) := rfl
theorem ix3 (a b c d e : D) : fIx (.lst [a, b, c, d, e]) (.int 3) = some (.d d) := rfl
theorem ix4 (a b c d e : D) : fIx (.lst [a, b, c, d, e]) (.int 4) = some (.d e) := rfl
theorem set1 (a b c d e x : D) : fSetL (.lst [a, b, c, d, e]) (.int 1) x = some (.lst [a, x, c, d, e]) := rfl
theorem set2 (a b c d e x : D) : fSetL (.lst [a, b, c, d, e]) (.int 2) x = some (.lst [a, b, x, d, e]) := rfl
theorem set3 (a b c d e x : D) : fSetL (.lst [a, b, c, d, e]) (.int 3) x = some (.lst [a, b, c, x, e]) := rfl
theorem set4 (a b c d e x : D) : fSetL (.lst [a, b, c, d, e]) (.int 4) x = some (.lst [a, b, c, d, x]) := rfl
theorem f_addI (i j : Int) : fAdd (.int i) (.int j) = some (.d (.int (i + j))) := rfl
theorem f_ltI (i j : Int) : fLt (.int i) (.int j) = some (.d (.bl (decide (i < j)))) := rfl
theorem f_leI (i j : Int) : fLe (.int i) (.int j) = some (.d (.bl (decide (i ≤ j)))) := rfl
theorem f_gtI (i j : Int) : fGt (.int i) (.int j) = some (.d (.bl (decide (j < i)))) := rfl
theorem f_geI (i j : Int) : fGe (.int i) (.int j) = some (.d (.bl (decide (j ≤ i)))) := rfl
theorem f_modI {i j : Int} (h : 0 < j) : fMod (.int i) (.int j) = some (.d (.int (i % j))) := by simp [fMod, fI, h]
theorem f_fdivI {i j : Int} (h : 0 < j) (h2 : j < 1073741824) : fFdiv (.int i) (.int j) = some (.d (.int (i / j))) := by simp [fFdiv, fI, h, h2]
theorem f_powI {i j : Int} (h : 0 ≤ j) (h2 : j ≤ 1000000) (h3 : i.natAbs < 2 ^ 64) : fPow (.int i) (.int j) = some (.d (.int (i ^ j.toNat))) := by
  simp only [fPow, fI]
  rw [if_pos (by simp only [decide_eq_true_eq]; exact ⟨h, h2, h3⟩)]
theorem f_mulI {i j : Int} (h : (-(2 ^ 64) < i ∧ i < 2 ^ 64) ∨ (-(2 ^ 64) < j ∧ j < 2 ^ 64)) : fMul (.int i) (.int j) = some (.d (.int (i * j))) := by
  simp only [fMul]
  rw [if_pos]
  rcases h with h | h
  · exact .inl (by omega)
  · exact .inr (by omega)
theorem f_lenL (xs : List D) : fLen [.lst xs] = some (.d (.int xs.length)) := rfl
theorem f_lenC (ns : List Int) : fLen [.scr ns] = some (.d (.int ns.length)) := rfl
theorem f_ixL {xs : List D} {i : Nat} {x : D} (h : xs[i]? = some x) : fIx (.lst xs) (.int i) = some (.d x) := by
  have hl : i < xs.length := by
    rcases Nat.lt_or_ge i xs.length with q | q
    · exact q
    · rw [List.getElem?_eq_none q] at h; cases h
  have : atI xs (i : Int) = some x := by
    have e : ixN xs.length (i : Int) = some i := by
      unfold ixN
      rw [if_pos (by omega), if_pos (by omega)]
      simp
    unfold atI
    rw [e]
    exact h
  simp [fIx, this]
theorem f_ixT {xs : List D} {i : Nat} {x : D} (h : xs[i]? = some x) : fIx (.tup xs) (.int i) = some (.d x) := by
  have := f_ixL h
  simpa [fIx] using this

theorem draw_end {j : Jar} (ok : j.Ok) {T : List C} {top : Int} {e2 e3 : Option SD} (ht : 0 < top) (ht2 : top < 1073741824) :
    SI ((sSeq (sIf (mTest (mBin fGe (mBin fIxA (mVar 0) (mD (.int 2))) (mVar 1))) (sSeq (sSet 3 (mBin fMod (mBin fIxA (mVar 0) (mD (.int 2))) (mVar 1)))
  (sSeq (sPut fSetA (mVar 0) (mD (.int 2)) (mBin fFdiv (mBin fIxA (mVar 0) (mD (.int 2))) (mVar 1)))
  (sRet (mVar 3)))) (sNil))
  (sSeq (sPut fSetA (mVar 0) (mD (.int 4)) (mBin fAdd (mBin fIxA (mVar 0) (mD (.int 4))) (mD (.int 1))))
  (sSeq (sPut fSetA (mVar 0) (mD (.int 3)) (mBin fMod (mBin fAdd (mBin fAdd (mBin fAdd (mBin fPow (mBin fIxA (mVar 0) (mD (.int 3))) (mD (.int 3))) (mBin fMul (mD (.int 40503)) (mBin fIxA (mVar 0) (mD (.int 4))))) (mBin fFdiv (mBin fIxA (mVar 0) (mD (.int 3))) (mD (.int 65537)))) (mD (.int 11))) (mD (.int 2147483629))))
  (sRet (mBin fMod (mBin fFdiv (mBin fIxA (mVar 0) (mD (.int 3))) (mD (.int 13))) (mVar 1)))))) ⟨[some (.d (.obj 1)), some (.d (.int top)), e2, e3], T.headD (.lst []) :: jarC j :: T.tail⟩)
    (fun _ => False) (fun _ => False) (fun _ => False) (fun r S => ∃ (k : Int) (j' : Jar), r = .d (.int k) ∧ S = T.headD (.lst []) :: jarC j' :: T.tail ∧ 0 ≤ k ∧ k < top ∧ j'.Ok) := by
  have hs := ok.seed
  have hs2 := ok.seed2
  have hr := ok.rest
  by_cases h : top ≤ j.rest
  · simp only [XX, jarC, ix0, ix1, ix2, ix3, ix4, set1, set2, set3, set4, f_geI, h, decide_true, f_modI ht, f_fdivI ht ht2]
    refine ⟨_, ⟨j.cells, j.at_, j.rest / top, j.seed, j.num⟩, rfl, rfl, Int.emod_nonneg _ (by omega), Int.emod_lt_of_pos _ ht, ?_⟩
    exact ⟨Int.ediv_nonneg hr (by omega), hs, hs2, ok.num, ok.len⟩
  · have e3 : (0 : Int) < 2147483629 := by omega
    have e5 : (-(2 ^ 64) < (40503 : Int) ∧ (40503 : Int) < 2 ^ 64) ∨ (-(2 ^ 64) < (j.num + 1 : Int) ∧ (j.num + 1) < 2 ^ 64) := .inl (by omega)
    have e4 : j.seed.natAbs < 2 ^ 64 := by omega
    simp only [XX, jarC, ix0, ix1, ix2, ix3, ix4, set1, set2, set3, set4, f_geI, h, decide_false, f_addI, f_powI (i := j.seed) (j := 3) (by omega) (by omega) e4, f_mulI e5, f_modI ht, f_modI e3, f_fdivI (j := 65537) (by omega) (by omega), f_fdivI (j := 13) (by omega) (by omega)]
    refine ⟨_, ⟨j.cells, j.at_, j.rest, _, j.num + 1⟩, rfl, rfl, Int.emod_nonneg _ (by omega), Int.emod_lt_of_pos _ ht, ?_⟩
    refine ⟨hr, Int.emod_nonneg _ (by omega), Int.emod_lt_of_pos _ (by omega), by have := ok.num; show 0 ≤ j.num + 1; omega, ok.len⟩
theorem draw_ok {j : Jar} (ok : j.Ok) {T : List C} {top : Int} (ht : 0 < top) (ht2 : top < 1073741824) :
    ∃ (k : Int) (j' : Jar), m__law_draw [.obj 1, .int top] (T.headD (.lst []) :: jarC j :: T.tail) = .ok (.d (.int k)) (T.headD (.lst []) :: jarC j' :: T.tail) ∧ 0 ≤ k ∧ k < top ∧ j'.Ok := by
  have key : FI (m__law_draw [.obj 1, .int top] (T.headD (.lst []) :: jarC j :: T.tail)) fun r S => ∃ (k : Int) (j' : Jar), r = .d (.int k) ∧ S = T.headD (.lst []) :: jarC j' :: T.tail ∧ 0 ≤ k ∧ k < top ∧ j'.Ok := by
    refine FI.fnM ?_
    rw [env0_4_2, b__law_draw]
    have hs := ok.seed
    have hs2 := ok.seed2
    have hr := ok.rest
    by_cases h : j.rest < top
    · by_cases h2 : j.at_ < j.cells.length
      · have hc : (j.cells.map D.int)[j.at_]? = some (.int j.cells[j.at_]) := by simp [h2]
        have h3 : (j.at_ : Int) < (j.cells.map D.int).length := by simp; omega
        have e3 : (0 : Int) < 2147483629 := by omega
        have e5 : (-(2 ^ 64) < (j.seed : Int) ∧ (j.seed : Int) < 2 ^ 64) ∨ (-(2 ^ 64) < (48271 : Int) ∧ (48271 : Int) < 2 ^ 64) := .inr (by omega)
        have e6 : (10 : Int).natAbs < 2 ^ 64 := by omega
        have put2 := fun (r : Int) (hr0 : 0 ≤ r) => draw_end (j := ⟨j.cells, j.at_ + 1, r, (j.seed * 48271 + j.cells[j.at_] + (j.at_ + 1)) % 2147483629, j.num⟩) ⟨hr0, Int.emod_nonneg _ (by omega), Int.emod_lt_of_pos _ (by omega), ok.num, ok.len⟩ (T := T) (top := top) (e2 := some (.d (.int j.cells[j.at_]))) (e3 := none) ht ht2
        by_cases h4 : (10 : Int) ^ 18 ≤ j.cells[j.at_]
        · have h5 := put2 j.cells[j.at_] (by omega)
          have h4' : (10 : Int) ^ (18 : Int).toNat ≤ j.cells[j.at_] := h4
          refine SI.seq_eq ?_ (h5.mono (fun _ => False.elim) (fun _ => False.elim) (fun _ => False.elim) (fun _ _ => id))
          simp only [XX, jarC, ix0, ix1, ix2, ix3, ix4, set1, set2, set3, set4, f_geI, f_ltI, h, h3, h4', decide_true, f_addI, f_powI (i := 10) (j := 18) (by omega) (by omega) e6, f_mulI e5, f_modI e3, f_lenL, f_ixL hc]
          rfl
        · have h5 := put2 0 (by omega)
          have h4' : ¬ (10 : Int) ^ (18 : Int).toNat ≤ j.cells[j.at_] := h4
          refine SI.seq_eq ?_ (h5.mono (fun _ => False.elim) (fun _ => False.elim) (fun _ => False.elim) (fun _ _ => id))
          simp only [XX, jarC, ix0, ix1, ix2, ix3, ix4, set1, set2, set3, set4, f_geI, f_ltI, h, h3, h4', decide_true, decide_false, f_addI, f_powI (i := 10) (j := 18) (by omega) (by omega) e6, f_mulI e5, f_modI e3, f_lenL, f_ixL hc]
          rfl
      · have h3 : ¬ (j.at_ : Int) < (j.cells.map D.int).length := by simp; omega
        have h5 := draw_end ok (T := T) (top := top) (e2 := none) (e3 := none) ht ht2
        refine SI.seq_eq ?_ (h5.mono (fun _ => False.elim) (fun _ => False.elim) (fun _ => False.elim) (fun _ _ => id))
        simp only [XX, jarC, ix0, ix1, ix2, ix3, ix4, f_ltI, h, h3, decide_true, decide_false, f_lenL]
    · have h5 := draw_end ok (T := T) (top := top) (e2 := none) (e3 := none) ht ht2
      refine SI.seq_eq ?_ (h5.mono (fun _ => False.elim) (fun _ => False.elim) (fun _ => False.elim) (fun _ _ => id))
      simp only [XX, jarC, ix0, ix1, ix2, ix3, ix4, f_ltI, h, decide_false]
  obtain ⟨r, S, e, k, j', rfl, rfl, h⟩ := key.of
  exact ⟨k, j', e, h⟩
theorem f_ixI {xs : List D} {k : Int} (h0 : 0 ≤ k) (h1 : k < xs.length) : ∃ x, x ∈ xs ∧ fIx (.lst xs) (.int k) = some (.d x) ∧ fIx (.tup xs) (.int k) = some (.d x) ∧ xs[k.toNat]? = some x := by
  obtain ⟨n, rfl⟩ := Int.eq_ofNat_of_zero_le h0
  have hn : n < xs.length := by exact_mod_cast h1
  have e : xs[n]? = some xs[n] := by simp [hn]
  refine ⟨xs[n], List.getElem_mem _, f_ixL e, f_ixT e, ?_⟩
  simpa using e
theorem env0_2_2 (a b : D) : env0 2 [a, b] = [some (.d a), some (.d b)] := rfl
theorem env0_2_1 (a : D) : env0 2 [a] = [some (.d a), none] := rfl
theorem env0_3_1 (a : D) : env0 3 [a] = [some (.d a), none, none] := rfl
theorem env0_3_2 (a b : D) : env0 3 [a, b] = [some (.d a), some (.d b), none] := rfl
theorem of_ok {j : Jar} (ok : j.Ok) {T : List C} {xs : List D} (h0 : 0 < xs.length) (h1 : xs.length < 1073741824) :
    ∃ (x : D) (j' : Jar), m__law_of [.obj 1, .lst xs] (T.headD (.lst []) :: jarC j :: T.tail) = .ok (.d x) (T.headD (.lst []) :: jarC j' :: T.tail) ∧ x ∈ xs ∧ j'.Ok := by
  obtain ⟨k, j', e, k0, k1, ok'⟩ := draw_ok ok (T := T) (top := (xs.length : Int)) (by omega) (by omega)
  obtain ⟨x, hx, e1, e2, _⟩ := f_ixI k0 k1
  refine ⟨x, j', ?_, hx, ok'⟩
  simp only [m__law_of, fnM, b__law_of, env0_2_2, XX, f_lenL, e, e1]
theorem jar_ok (ns : List Int) (h : ns.length ≤ 63) (S0 : List C) : ∃ j : Jar, m__law_jar [.scr ns] S0 = .ok (.new (jarC j)) S0 ∧ j.Ok := by
  have hc : (cut ns none (some 63)).length ≤ 63 := by
    unfold cut
    rw [List.length_take, List.length_drop]
    omega
  have key : FI (m__law_jar [.scr ns] S0) fun r S => ∃ j : Jar, r = .new (jarC j) ∧ S = S0 ∧ j.Ok := by
    refine FI.fnM ?_
    rw [env0_3_1, b__law_jar]
    refine SI.seq_eq (g' := ⟨[some (.d (.scr ns)), some (.d (.int (6101 + ns.length))), none], S0⟩) ?_ ?_
    · simp only [XX, f_lenC, f_addI]
    refine SI.seqx ?_
    rw [x_for]
    have ei : (mItems (mSl (mVar 0) (mNoPart) (mPart (mD (.int 63))))) ⟨[some (.d (.scr ns)), some (.d (.int (6101 + ns.length))), none], S0⟩ = .ok ((cut ns none (some 63)).map D.int) ⟨[some (.d (.scr ns)), some (.d (.int (6101 + ns.length))), none], S0⟩ := by
      simp only [XX, fSl, items]
    rw [ei, R.to_ok]
    refine SI.for_ (fun rest g => (∃ ms : List Int, rest = ms.map D.int) ∧ ∃ (s : Int) (c : Option SD), g = ⟨[some (.d (.scr ns)), some (.d (.int s)), c], S0⟩ ∧ 0 ≤ s ∧ s < 2147483629) ⟨⟨_, rfl⟩, 6101 + ns.length, none, rfl, by omega, by omega⟩ ?_ ?_
    · rintro x xs g ⟨⟨ms, hm⟩, s, c, rfl, h0, h1⟩
      cases ms with
      | nil => cases hm
      | cons m ms =>
        cases hm
        refine ⟨_, rfl, ?_⟩
        have e3 : (0 : Int) < 2147483629 := by omega
        have e5 : (-(2 ^ 64) < s ∧ s < 2 ^ 64) ∨ (-(2 ^ 64) < (69069 : Int) ∧ (69069 : Int) < 2 ^ 64) := .inr (by omega)
        simp only [XX, f_mulI e5, f_addI, f_modI e3]
        exact ⟨⟨ms, rfl⟩, _, _, rfl, Int.emod_nonneg _ (by omega), Int.emod_lt_of_pos _ (by omega)⟩
    · rintro g ⟨_, s, c, rfl, h0, h1⟩
      have e6 : (5 : Nat) ≤ sizeLine := by decide
      simp only [XX, fSl, fList, e6, Nat.zero_add, Nat.reduceAdd]
      exact ⟨⟨cut ns none (some 63), 0, 0, s, 0⟩, rfl, rfl, ⟨by simp, h0, h1, by simp, hc⟩⟩
  obtain ⟨r, S, e, j, rfl, rfl, h⟩ := key.of
  exact ⟨j, e, h⟩
end Lib

set_option Elab.async false
set_option linter.all false
set_option maxRecDepth 100000
set_option maxHeartbeats 1000000
/-! names; likeness of plain things -/
namespace Lib
open PySem PySem.Spec PyProof.Rows L2 Mx

theorem f_isi {x : D} {t n : String} (h : tyN x = some t) (hn : n ∈ clS) : fIsi [x, .ty n] = some (.d (.bl (isB t n))) := by simp [fIsi, h, hn]
theorem f_isi2 {x : D} {t n m : String} (h : tyN x = some t) (hn : n ∈ clS) (hm : m ∈ clS) : fIsi [x, .tup [.ty n, .ty m]] = some (.d (.bl (isB t n || isB t m))) := by simp [fIsi, tys, h, hn, hm]
theorem c_str : "str" ∈ clS := by decide
theorem c_int : "int" ∈ clS := by decide
theorem c_bool : "bool" ∈ clS := by decide
theorem c_list : "list" ∈ clS := by decide
theorem c_tuple : "tuple" ∈ clS := by decide
theorem bools_map {α : Type} (p : α → Bool) : ∀ l : List α, bools (l.map fun c => D.bl (p c)) = some (l.map p)
  | [] => rfl
  | a :: l => by simp [bools, bools_map p l]
theorem f_allL {α : Type} (p : α → Bool) (l : List α) : fAll [.lst (l.map fun c => D.bl (p c))] = some (.d (.bl (l.all p))) := by
  simp only [fAll, bools_map, Option.map_some, List.all_map]
  rfl
/-! ### likeness -/
theorem same_int (n : Nat) (a b : Int) (S : List C) : m__law_same (n + 1) [.int a, .int b] S = .ok (.d (.bl (a == b))) S := by
  have t : ∀ c, tyN (.int c) = some "int" := fun _ => rfl
  have e1 : isB "int" "bool" = false := by decide
  have e4 : isB "int" "int" = true := by decide
  have e5 : isB "int" "str" = false := by decide
  have e2 : fIsN false (.int b) .non = some (.d (.bl false)) := rfl
  have e3 : fEq false (.int a) (.int b) = some (.d (.bl (a == b))) := rfl
  have e6 : fEq false (.bl true) (.bl true) = some (.d (.bl true)) := rfl
  have e7 : (2 : Nat) ≤ sizeLine := by decide
  simp only [m__law_same, fnM, b__law_same, env0_3_2, XX, e2, f_isi (t _) c_bool, f_isi (t _) c_int, f_isi2 (t _) c_int c_str, e1, e4, e5, e6, e3, Nat.zero_add, Nat.reduceAdd, e7, Bool.or_false]
end Lib

set_option Elab.async false
set_option linter.all false
set_option maxHeartbeats 1000000
/-! webs, their rounds: plain words, no program -/
namespace Wt
section
variable {α : Type} [DecidableEq α]
/-- each once -/
def dd : List α → List α
  | [] => []
  | k :: ks => if k ∈ ks then dd ks else k :: dd ks
theorem mem_dd {k : α} : ∀ {l : List α}, k ∈ dd l ↔ k ∈ l
  | [] => Iff.rfl
  | x :: l => by
    unfold dd
    split
    · rename_i h
      rw [mem_dd, List.mem_cons]
      exact ⟨.inr, fun z => z.elim (fun e => e ▸ h) id⟩
    · rw [List.mem_cons, List.mem_cons, mem_dd]
theorem nodup_dd : ∀ l : List α, (dd l).Nodup
  | [] => List.nodup_nil
  | x :: l => by
    unfold dd
    split
    · exact nodup_dd l
    · rename_i h
      exact List.nodup_cons.mpr ⟨fun q => h (mem_dd.mp q), nodup_dd l⟩
/-- an order -/
structure Ord (le : α → α → Bool) : Prop where
  trans : ∀ a b c, le a b = true → le b c = true → le a c = true
  total : ∀ a b, (le a b || le b a) = true
  anti : ∀ a b, le a b = true → le b a = true → a = b
variable {le : α → α → Bool}
theorem Ord.refl (o : Ord le) (a : α) : le a a = true := by
  have := o.total a a
  simpa using this
/-- each once, rising -/
def sd (le : α → α → Bool) (l : List α) : List α := (dd l).mergeSort le
theorem mem_sd {k : α} {l : List α} : k ∈ sd le l ↔ k ∈ l := (List.mergeSort_perm _ _).mem_iff.trans mem_dd
theorem nodup_sd (l : List α) : (sd le l).Nodup := (List.mergeSort_perm _ _).nodup_iff.mpr (nodup_dd l)
theorem pw_sd (o : Ord le) (l : List α) : (sd le l).Pairwise (fun a b => le a b = true) := List.pairwise_mergeSort o.trans o.total _
theorem sd_unique (o : Ord le) {l m : List α} (nd : m.Nodup) (pw : m.Pairwise (fun a b => le a b = true)) (h : ∀ k, k ∈ m ↔ k ∈ l) : m = sd le l :=
  ((List.perm_ext_iff_of_nodup nd (nodup_sd l)).mpr fun k => (h k).trans mem_sd.symm).eq_of_pairwise (fun a b _ _ h1 h2 => o.anti a b h1 h2) pw (pw_sd o l)
theorem sd_ext (o : Ord le) {l m : List α} (h : ∀ k, k ∈ l ↔ k ∈ m) : sd le l = sd le m := sd_unique o (nodup_sd l) (pw_sd o l) fun k => mem_sd.trans (h k)
theorem sd_length_le (l : List α) : (sd le l).length ≤ l.length := (nodup_sd l).length_le_of_subset fun _ h => mem_sd.mp h
/-- where a thing lies -/
def pos (l : List α) (a : α) : Nat := l.idxOf a
theorem pos_eq (x : α) (l : List α) : pos (x :: l) x = 0 := by simp [pos]
theorem pos_ne {x a : α} (h : x ≠ a) (l : List α) : pos (x :: l) a = pos l a + 1 := by
  unfold pos
  rw [List.idxOf_cons, beq_eq_false_iff_ne.mpr h]
  rfl
def idx (le : α → α → Bool) (l : List α) (a : α) : Nat := pos (sd le l) a
theorem idx_lt (o : Ord le) {l : List α} {a b : α} (ha : a ∈ l) (hb : b ∈ l) : idx le l a < idx le l b ↔ le a b = true ∧ a ≠ b := by
  have ia := List.idxOf_lt_length_iff.mpr (mem_sd (le := le).mpr ha)
  have ib := List.idxOf_lt_length_iff.mpr (mem_sd (le := le).mpr hb)
  have pw := List.pairwise_iff_getElem.mp (pw_sd o l)
  constructor
  · intro h
    have := pw _ _ ia ib h
    rw [List.getElem_idxOf, List.getElem_idxOf] at this
    exact ⟨this, fun e => by subst e; exact Nat.lt_irrefl _ h⟩
  · rintro ⟨h1, h2⟩
    rcases Nat.lt_trichotomy (idx le l a) (idx le l b) with z | z | z
    · exact z
    · exfalso
      have z : List.idxOf a (sd le l) = List.idxOf b (sd le l) := z
      have e := List.getElem_idxOf ia
      have e2 := List.getElem_idxOf ib
      simp only [z] at e
      exact h2 (e.symm.trans e2)
    · have := pw _ _ ib ia z
      rw [List.getElem_idxOf, List.getElem_idxOf] at this
      exact absurd (o.anti _ _ h1 this) h2
theorem idx_inj {l : List α} {a b : α} (ha : a ∈ l) (hb : b ∈ l) (e : idx le l a = idx le l b) : a = b := by
  have ia := List.idxOf_lt_length_iff.mpr (mem_sd (le := le).mpr ha)
  have ib := List.idxOf_lt_length_iff.mpr (mem_sd (le := le).mpr hb)
  have e1 := List.getElem_idxOf ia
  have e2 := List.getElem_idxOf ib
  have e' : List.idxOf a (sd le l) = List.idxOf b (sd le l) := e
  simp only [e'] at e1
  exact e1.symm.trans e2
theorem idx_le {l : List α} {a : α} (h : a ∈ l) : idx le l a < (sd le l).length := List.idxOf_lt_length_iff.mpr (mem_sd.mpr h)
theorem idx_range {l : List α} {i : Nat} (h : i < (sd le l).length) : ∃ a ∈ l, idx le l a = i :=
  ⟨(sd le l)[i], mem_sd.mp (List.getElem_mem h), (nodup_sd l).idxOf_getElem i h⟩
end

/-! ### numbers -/
def leI (a b : Nat) : Bool := decide (a ≤ b)
theorem ordI : Ord leI := ⟨fun a b c => by simp only [leI, decide_eq_true_eq]; omega, fun a b => by simp only [leI, Bool.or_eq_true, decide_eq_true_eq]; omega, fun a b => by simp only [leI, decide_eq_true_eq]; omega⟩
abbrev SD (l : List Nat) : List Nat := sd leI l
theorem SD_lt (l : List Nat) : (SD l).Pairwise (· < ·) := by
  have h1 := pw_sd ordI l
  have h2 : (SD l).Nodup := nodup_sd l
  rw [List.nodup_iff_pairwise_ne] at h2
  exact (h1.and h2).imp fun ⟨a, b⟩ => by simp only [leI, decide_eq_true_eq] at a; omega
theorem SD_unique {l m : List Nat} (pw : m.Pairwise (· < ·)) (h : ∀ k, k ∈ m ↔ k ∈ l) : m = SD l :=
  sd_unique ordI (pw.imp fun h => Nat.ne_of_lt h) (pw.imp fun h => by simp only [leI, decide_eq_true_eq]; omega) h
theorem SD_ext {l m : List Nat} (h : ∀ k, k ∈ l ↔ k ∈ m) : SD l = SD m := sd_ext ordI h
theorem mem_SD {k : Nat} {l : List Nat} : k ∈ SD l ↔ k ∈ l := mem_sd
theorem range_pw : ∀ n, (List.range n).Pairwise (· < ·) := fun n => List.pairwise_lt_range
theorem SD_range {l : List Nat} {n : Nat} (h : ∀ k, k ∈ l ↔ k < n) : SD l = List.range n := (SD_unique (range_pw n) fun k => by rw [List.mem_range, h]).symm

/-! ### keys -/
abbrev Key := Nat × List Nat
def leK (a b : Key) : Bool := decide (a.1 < b.1) || (decide (a.1 = b.1) && decide (a.2 ≤ b.2))
theorem ordK : Ord leK := by
  refine ⟨fun a b c h1 h2 => ?_, fun a b => ?_, fun a b h1 h2 => ?_⟩
  · simp only [leK, Bool.or_eq_true, Bool.and_eq_true, decide_eq_true_eq] at *
    rcases h1 with h1 | ⟨h1, h3⟩
    · rcases h2 with h2 | ⟨h2, _⟩
      · exact .inl (by omega)
      · exact .inl (by omega)
    · rcases h2 with h2 | ⟨h2, h4⟩
      · exact .inl (by omega)
      · exact .inr ⟨by omega, List.le_trans h3 h4⟩
  · simp only [leK, Bool.or_eq_true, Bool.and_eq_true, decide_eq_true_eq]
    rcases Nat.lt_trichotomy a.1 b.1 with z | z | z
    · exact .inl (.inl z)
    · rcases List.le_total a.2 b.2 with y | y
      · exact .inl (.inr ⟨z, y⟩)
      · exact .inr (.inr ⟨z.symm, y⟩)
    · exact .inr (.inl z)
  · simp only [leK, Bool.or_eq_true, Bool.and_eq_true, decide_eq_true_eq] at *
    rcases h1 with h1 | ⟨h1, h3⟩
    · rcases h2 with h2 | ⟨h2, _⟩ <;> omega
    · rcases h2 with h2 | ⟨_, h4⟩
      · omega
      · exact Prod.ext h1 (List.le_antisymm h3 h4)
theorem ltK {a b : Key} : (leK a b = true ∧ a ≠ b) ↔ a.1 < b.1 ∨ (a.1 = b.1 ∧ a.2 < b.2) := by
  simp only [leK, Bool.or_eq_true, Bool.and_eq_true, decide_eq_true_eq]
  constructor
  · rintro ⟨h | ⟨h1, h2⟩, ne⟩
    · exact .inl h
    · refine .inr ⟨h1, List.not_le.mp fun z => ne (Prod.ext h1 (List.le_antisymm h2 z))⟩
  · rintro (h | ⟨h1, h2⟩)
    · exact ⟨.inl h, fun e => by subst e; exact Nat.lt_irrefl _ h⟩
    · exact ⟨.inr ⟨h1, List.le_of_lt h2⟩, fun e => by subst e; exact List.lt_irrefl _ h2⟩

/-! ### rounds -/
abbrev Web := List (List Nat)
def row (w : Web) (a : Nat) : List Nat := w.getD a []
def at_ (ks : List Nat) (a : Nat) : Nat := ks.getD a 0
def keyAt (w : Web) (ks : List Nat) (a : Nat) : Key := (at_ ks a, SD ((row w a).map (at_ ks)))
def keys (w : Web) (ks : List Nat) : List Key := (List.range w.length).map (keyAt w ks)
def next (w : Web) (ks : List Nat) : List Nat := (keys w ks).map fun k => idx leK (keys w ks) k
def rnd (w : Web) : Nat → List Nat
  | 0 => List.replicate w.length 0
  | n + 1 => next w (rnd w n)
def kd (w : Web) (r a : Nat) : Nat := at_ (rnd w r) a
theorem next_len (w : Web) (ks : List Nat) : (next w ks).length = w.length := by simp [next, keys]
theorem rnd_len (w : Web) : ∀ r, (rnd w r).length = w.length
  | 0 => by simp [rnd]
  | r + 1 => next_len w _
theorem key_mem {w : Web} {ks : List Nat} {a : Nat} (h : a < w.length) : keyAt w ks a ∈ keys w ks := List.mem_map.mpr ⟨a, List.mem_range.mpr h, rfl⟩
theorem next_at {w : Web} {ks : List Nat} {a : Nat} (h : a < w.length) : at_ (next w ks) a = idx leK (keys w ks) (keyAt w ks a) := by
  simp [at_, next, keys, h]
theorem kd_succ {w : Web} {r a : Nat} (h : a < w.length) : kd w (r + 1) a = idx leK (keys w (rnd w r)) (keyAt w (rnd w r) a) := next_at h
theorem kd_zero (w : Web) (a : Nat) : kd w 0 a = 0 := by
  simp only [kd, at_, rnd, List.getD_eq_getElem?_getD]
  by_cases h : a < w.length
  · simp [h]
  · simp [h]
theorem kd_lt {w : Web} {r a b : Nat} (ha : a < w.length) (hb : b < w.length) : kd w (r + 1) a < kd w (r + 1) b ↔ kd w r a < kd w r b ∨ (kd w r a = kd w r b ∧ SD ((row w a).map (kd w r)) < SD ((row w b).map (kd w r))) := by
  rw [kd_succ ha, kd_succ hb, idx_lt ordK (key_mem ha) (key_mem hb), ltK]
  rfl
theorem kd_eq {w : Web} {r a b : Nat} (ha : a < w.length) (hb : b < w.length) : kd w (r + 1) a = kd w (r + 1) b ↔ kd w r a = kd w r b ∧ SD ((row w a).map (kd w r)) = SD ((row w b).map (kd w r)) := by
  rw [kd_succ ha, kd_succ hb]
  constructor
  · intro e
    have := idx_inj (key_mem ha) (key_mem hb) e
    exact ⟨congrArg Prod.fst this, congrArg Prod.snd this⟩
  · rintro ⟨e1, e2⟩
    have : keyAt w (rnd w r) a = keyAt w (rnd w r) b := Prod.ext e1 e2
    rw [this]
theorem finer {w : Web} {r a b : Nat} (ha : a < w.length) (hb : b < w.length) (e : kd w (r + 1) a = kd w (r + 1) b) : kd w r a = kd w r b := ((kd_eq ha hb).mp e).1
/-- the values are 0, 1 .. -/
theorem tight (w : Web) (r : Nat) : ∃ m, SD (rnd w r) = List.range m := by
  cases r with
  | zero =>
    by_cases h : w.length = 0
    · refine ⟨0, SD_range fun k => ?_⟩
      simp [rnd, h]
    · refine ⟨1, SD_range fun k => ?_⟩
      simp only [rnd, List.mem_replicate]
      omega
  | succ r =>
    refine ⟨(sd leK (keys w (rnd w r))).length, SD_range fun k => ?_⟩
    simp only [rnd, next, List.mem_map]
    constructor
    · rintro ⟨q, hq, rfl⟩
      exact idx_le hq
    · intro h
      obtain ⟨q, hq, e⟩ := idx_range h
      exact ⟨q, hq, e⟩
/-- a strictly rising renaming of what two lists hold -/
theorem sd_map {l : List Nat} {f : Nat → Nat} (h : ∀ a ∈ l, ∀ b ∈ l, a < b → f a < f b) : (SD l).map f = SD (l.map f) := by
  refine SD_unique ?_ fun k => ?_
  · rw [List.pairwise_map]
    exact (SD_lt l).imp_of_mem fun ha hb hab => h _ (mem_SD.mp ha) _ (mem_SD.mp hb) hab
  · simp only [List.mem_map, mem_SD]
theorem range_map_id {n : Nat} {f : Nat → Nat} {m : Nat} (h : (List.range n).map f = List.range m) : n = m ∧ ∀ i, i < n → f i = i := by
  have hl := congrArg List.length h
  simp only [List.length_map, List.length_range] at hl
  subst hl
  refine ⟨rfl, fun i hi => ?_⟩
  have := congrArg (fun l => l[i]?) h
  simpa [hi] using this
/-- no parting: the round stays -/
theorem stays {w : Web} {r : Nat} (h : ∀ a b, a < w.length → b < w.length → kd w r a = kd w r b → kd w (r + 1) a = kd w (r + 1) b) : rnd w (r + 1) = rnd w r := by
  obtain ⟨m, hm⟩ := tight w r
  obtain ⟨n, hn⟩ := tight w (r + 1)
  -- the renaming
  have ex : ∀ v, v ∈ rnd w r → ∃ a, a < w.length ∧ kd w r a = v := fun v hv => by
    obtain ⟨a, ha, e⟩ := List.getElem_of_mem hv
    rw [rnd_len] at ha
    exact ⟨a, ha, by simp [kd, at_, rnd_len, ha, e]⟩
  let f : Nat → Nat := fun v => if c : v ∈ rnd w r then kd w (r + 1) (Classical.choose (ex v c)) else 0
  have hf : ∀ a, a < w.length → f (kd w r a) = kd w (r + 1) a := fun a ha => by
    have c : kd w r a ∈ rnd w r := by
      simp only [kd, at_, List.getD_eq_getElem?_getD]
      rw [List.getElem?_eq_getElem (by rw [rnd_len]; exact ha)]
      exact List.getElem_mem _
    show (if c : kd w r a ∈ rnd w r then kd w (r + 1) (Classical.choose (ex _ c)) else 0) = _
    rw [dif_pos c]
    obtain ⟨h1, h2⟩ := Classical.choose_spec (ex _ c)
    exact h _ _ h1 ha h2
  have two : (rnd w r).map f = rnd w (r + 1) := by
    apply List.ext_getElem
    · simp [rnd_len]
    · intro i h1 h2
      have hi : i < w.length := by simpa [rnd_len] using h1
      have := hf i hi
      simp only [kd, at_, List.getD_eq_getElem?_getD] at this
      rw [List.getElem?_eq_getElem (by rw [rnd_len]; exact hi), List.getElem?_eq_getElem (by rw [rnd_len]; exact hi)] at this
      simpa using this
  have mono : ∀ a ∈ rnd w r, ∀ b ∈ rnd w r, a < b → f a < f b := fun a ha b hb hab => by
    obtain ⟨x, hx, rfl⟩ := ex a ha
    obtain ⟨y, hy, rfl⟩ := ex b hb
    rw [hf x hx, hf y hy]
    exact (kd_lt hx hy).mpr (.inl hab)
  have := sd_map mono
  rw [two, hm, hn] at this
  obtain ⟨_, id_⟩ := range_map_id this
  rw [← two]
  refine (List.map_congr_left fun v hv => ?_).trans (List.map_id _)
  refine id_ v ?_
  have : v ∈ SD (rnd w r) := mem_SD.mpr hv
  rw [hm] at this
  exact List.mem_range.mp this
theorem stable_all {w : Web} {r : Nat} (h : rnd w (r + 1) = rnd w r) : ∀ s, r ≤ s → rnd w s = rnd w r := by
  intro s hs
  induction hs with
  | refl => rfl
  | @step s _ ih =>
    show next w (rnd w s) = _
    rw [ih]
    exact h
def cnt (w : Web) (r : Nat) : Nat := (SD (rnd w r)).length
theorem kd_mem {w : Web} {r a : Nat} (h : a < w.length) : kd w r a ∈ rnd w r := by
  simp only [kd, at_, List.getD_eq_getElem?_getD]
  rw [List.getElem?_eq_getElem (by rw [rnd_len]; exact h)]
  exact List.getElem_mem _
theorem mem_kd {w : Web} {r v : Nat} (h : v ∈ rnd w r) : ∃ a, a < w.length ∧ kd w r a = v := by
  obtain ⟨a, ha, e⟩ := List.getElem_of_mem h
  have ha' := ha
  rw [rnd_len] at ha'
  exact ⟨a, ha', by simp [kd, at_, ha, e]⟩
/-- a round that parts has more kinds -/
theorem more {w : Web} {r : Nat} (h : rnd w (r + 1) ≠ rnd w r) : cnt w r < cnt w (r + 1) := by
  have ex : ∃ a b, a < w.length ∧ b < w.length ∧ kd w r a = kd w r b ∧ kd w (r + 1) a ≠ kd w (r + 1) b := by
    refine Classical.byContradiction fun z => h (stays fun a b ha hb e => Classical.byContradiction fun y => z ⟨a, b, ha, hb, e, y⟩)
  obtain ⟨a, b, ha, hb, e, ne⟩ := ex
  -- one row for each kind
  let rep : Nat → Nat := fun v => if c : ∃ x, x < w.length ∧ kd w r x = v then Classical.choose c else 0
  have hrep : ∀ v, v ∈ SD (rnd w r) → rep v < w.length ∧ kd w r (rep v) = v := fun v hv => by
    have c := mem_kd (mem_SD.mp hv)
    show (if c : ∃ x, x < w.length ∧ kd w r x = v then Classical.choose c else 0) < _ ∧ kd w r (if c : ∃ x, x < w.length ∧ kd w r x = v then Classical.choose c else 0) = v
    rw [dif_pos c]
    exact Classical.choose_spec c
  have inV : kd w r a ∈ SD (rnd w r) := mem_SD.mpr (kd_mem ha)
  -- one of a, b is apart from the row that stands for them
  obtain ⟨t, ht, et, nt⟩ : ∃ t, t < w.length ∧ kd w r t = kd w r a ∧ kd w (r + 1) t ≠ kd w (r + 1) (rep (kd w r a)) := by
    by_cases c : kd w (r + 1) a = kd w (r + 1) (rep (kd w r a))
    · exact ⟨b, hb, e.symm, fun z => ne (c.trans z.symm)⟩
    · exact ⟨a, ha, rfl, c⟩
  have nd : (kd w (r + 1) t :: (SD (rnd w r)).map fun v => kd w (r + 1) (rep v)).Nodup := by
    refine List.nodup_cons.mpr ⟨fun hm => ?_, ?_⟩
    · obtain ⟨v, hv, e2⟩ := List.mem_map.mp hm
      obtain ⟨h1, h2⟩ := hrep v hv
      have e3 := finer h1 ht e2
      rw [h2, et] at e3
      subst e3
      exact nt e2.symm
    · rw [List.nodup_iff_pairwise_ne, List.pairwise_map]
      refine ((SD_lt (rnd w r)).imp_of_mem fun {v u} hv hu lt e2 => ?_)
      obtain ⟨h1, h2⟩ := hrep v hv
      obtain ⟨h3, h4⟩ := hrep u hu
      have := finer h1 h3 e2
      rw [h2, h4] at this
      omega
  have sub : (kd w (r + 1) t :: (SD (rnd w r)).map fun v => kd w (r + 1) (rep v)) ⊆ SD (rnd w (r + 1)) := by
    intro x hx
    rw [mem_SD]
    rcases List.mem_cons.mp hx with z | z
    · rw [z]; exact kd_mem ht
    · obtain ⟨v, hv, rfl⟩ := List.mem_map.mp z
      exact kd_mem (hrep v hv).1
  have := nd.length_le_of_subset sub
  simp only [List.length_cons, List.length_map] at this
  exact this
theorem cnt_le (w : Web) (r : Nat) : cnt w r ≤ w.length := by
  have := sd_length_le (le := leI) (rnd w r)
  rw [rnd_len] at this
  exact this
theorem stable_by (w : Web) : rnd w (w.length + 1) = rnd w w.length := by
  have go : ∀ r, (∃ s, s ≤ r ∧ rnd w (s + 1) = rnd w s) ∨ r ≤ cnt w r := by
    intro r
    induction r with
    | zero => exact .inr (Nat.zero_le _)
    | succ r ih =>
      rcases ih with ⟨s, hs, e⟩ | h
      · exact .inl ⟨s, Nat.le_succ_of_le hs, e⟩
      · by_cases c : rnd w (r + 1) = rnd w r
        · exact .inl ⟨r, Nat.le_succ r, c⟩
        · have := more c
          exact .inr (by omega)
  rcases go (w.length + 1) with ⟨s, hs, e⟩ | h
  · have h1 := stable_all e (w.length + 1) hs
    by_cases c : s ≤ w.length
    · rw [h1, stable_all e w.length c]
    · have : s = w.length + 1 := by omega
      subst this
      -- then a round ahead of it is stable too
      by_cases c2 : rnd w (w.length + 1) = rnd w w.length
      · exact c2
      · exfalso
        have go2 : ∀ r, r ≤ w.length + 1 → (∃ s, s < r ∧ rnd w (s + 1) = rnd w s) ∨ r ≤ cnt w r := by
          intro r
          induction r with
          | zero => exact fun _ => .inr (Nat.zero_le _)
          | succ r ih =>
            intro hr
            rcases ih (by omega) with ⟨s, hs, e⟩ | h
            · exact .inl ⟨s, by omega, e⟩
            · by_cases c : rnd w (r + 1) = rnd w r
              · exact .inl ⟨r, Nat.lt_succ_self r, c⟩
              · have := more c
                exact .inr (by omega)
        rcases go2 (w.length + 1) (Nat.le_refl _) with ⟨s, hs, e⟩ | h
        · exact c2 ((stable_all e _ (by omega)).trans (stable_all e _ (by omega)).symm)
        · have := cnt_le w (w.length + 1)
          omega
  · have := cnt_le w (w.length + 1)
    omega
/-- the last round -/
def fin (w : Web) : List Nat := rnd w w.length
theorem fin_stable {w : Web} {r : Nat} (h : rnd w (r + 1) = rnd w r) : rnd w r = fin w := by
  rcases Nat.le_total r w.length with c | c
  · exact (stable_all h _ c).symm
  · exact stable_all (stable_by w) _ c
theorem fin_le {w : Web} {r : Nat} (h : w.length ≤ r) : rnd w r = fin w := stable_all (stable_by w) r h
end Wt

set_option Elab.async false
set_option linter.all false
set_option maxHeartbeats 1000000
/-! likeness of webs and the pictures of rows: plain words, no program -/
namespace Wt
open List
def Ok (w : Web) : Prop := ∀ r ∈ w, ∀ x ∈ r, x < w.length
theorem row_get {w : Web} {a : Nat} (h : a < w.length) : row w a = w[a] := by simp [row, h]
theorem row_mem {w : Web} {a : Nat} (h : a < w.length) : row w a ∈ w := by rw [row_get h]; exact getElem_mem h
theorem row_out {w : Web} {a : Nat} (h : w.length ≤ a) : row w a = [] := by simp [row, h]
theorem Ok.row {w : Web} (ok : Ok w) {a x : Nat} (h : x ∈ row w a) : x < w.length := by
  by_cases c : a < w.length
  · exact ok _ (row_mem c) _ h
  · rw [row_out (by omega)] at h
    simp at h
theorem web_ext {w v : Web} (hl : w.length = v.length) (h : ∀ a, a < w.length → row w a = row v a) : w = v := by
  apply ext_getElem hl
  intro i h1 h2
  have := h i h1
  rwa [row_get h1, row_get h2] at this
structure Bis (w v : Web) (R : Nat → Nat → Prop) : Prop where
  l : ∀ a b, R a b → a < w.length
  r : ∀ a b, R a b → b < v.length
  f : ∀ a b, R a b → ∀ x ∈ row w a, ∃ y ∈ row v b, R x y
  g : ∀ a b, R a b → ∀ y ∈ row v b, ∃ x ∈ row w a, R x y
structure Tot (w v : Web) (R : Nat → Nat → Prop) : Prop extends Bis w v R where
  tl : ∀ a, a < w.length → ∃ b, R a b
  tr : ∀ b, b < v.length → ∃ a, R a b
theorem map_ext {w v : Web} {R : Nat → Nat → Prop} (B : Bis w v R) {f g : Nat → Nat} (h : ∀ a b, R a b → f a = g b) {a b : Nat} (r : R a b) :
    SD ((row w a).map f) = SD ((row v b).map g) := SD_ext fun k => by
  rw [mem_map, mem_map]
  constructor
  · rintro ⟨x, hx, rfl⟩
    obtain ⟨y, hy, ry⟩ := B.f _ _ r x hx
    exact ⟨y, hy, (h _ _ ry).symm⟩
  · rintro ⟨y, hy, rfl⟩
    obtain ⟨x, hx, ry⟩ := B.g _ _ r y hy
    exact ⟨x, hx, h _ _ ry⟩
theorem Tot.kd {w v : Web} {R : Nat → Nat → Prop} (t : Tot w v R) : ∀ r a b, R a b → kd w r a = kd v r b
  | 0 => fun a b _ => by rw [kd_zero, kd_zero]
  | r + 1 => fun a b h => by
    have ih := t.kd r
    have key : ∀ a b, R a b → keyAt w (rnd w r) a = keyAt v (rnd v r) b := fun a b h => Prod.ext (ih a b h) (map_ext t.toBis ih h)
    have same : ∀ k, k ∈ keys w (rnd w r) ↔ k ∈ keys v (rnd v r) := fun k => by
      rw [keys, keys, mem_map, mem_map]
      constructor
      · rintro ⟨a, ha, rfl⟩
        obtain ⟨b, hb⟩ := t.tl a (mem_range.mp ha)
        exact ⟨b, mem_range.mpr (t.r _ _ hb), (key _ _ hb).symm⟩
      · rintro ⟨b, ha, rfl⟩
        obtain ⟨a, hb⟩ := t.tr b (mem_range.mp ha)
        exact ⟨a, mem_range.mpr (t.l _ _ hb), key _ _ hb⟩
    rw [kd_succ (t.l _ _ h), kd_succ (t.r _ _ h), key a b h]
    unfold idx
    rw [sd_ext ordK same]
def fk (w : Web) (a : Nat) : Nat := at_ (fin w) a
theorem fk_kd {w : Web} {r : Nat} (h : w.length ≤ r) (a : Nat) : kd w r a = fk w a := by unfold kd; rw [fin_le h]; rfl
theorem fin_len (w : Web) : (fin w).length = w.length := rnd_len w _
theorem Tot.fk {w v : Web} {R : Nat → Nat → Prop} (t : Tot w v R) {a b : Nat} (h : R a b) : fk w a = fk v b := by
  rw [← fk_kd (Nat.le_max_left w.length v.length), ← fk_kd (Nat.le_max_right w.length v.length)]
  exact t.kd _ _ _ h
theorem fk_mem {w : Web} {a : Nat} (h : a < w.length) : fk w a ∈ fin w := kd_mem h
theorem mem_fk {w : Web} {v : Nat} (h : v ∈ fin w) : ∃ a, a < w.length ∧ fk w a = v := mem_kd h
/-- like rows have like sets of kinds below them -/
theorem same_row {w : Web} {a b : Nat} (ha : a < w.length) (hb : b < w.length) (e : fk w a = fk w b) : SD ((row w a).map (fk w)) = SD ((row w b).map (fk w)) := by
  have := (kd_eq (r := w.length) ha hb).mp (by rw [fk_kd (by omega), fk_kd (by omega)]; exact e)
  exact this.2
/-- rows of like kinds are alike -/
theorem bis_fk {w : Web} (ok : Ok w) : Bis w w fun a b => a < w.length ∧ b < w.length ∧ fk w a = fk w b where
  l := fun _ _ h => h.1
  r := fun _ _ h => h.2.1
  f := fun a b ⟨ha, hb, e⟩ x hx => by
    have := same_row ha hb e
    have h : fk w x ∈ SD ((row w a).map (fk w)) := mem_SD.mpr (mem_map_of_mem hx)
    rw [this, mem_SD, mem_map] at h
    obtain ⟨y, hy, ey⟩ := h
    exact ⟨y, hy, ok.row hx, ok.row hy, ey.symm⟩
  g := fun a b ⟨ha, hb, e⟩ x hx => by
    have := same_row ha hb e
    have h : fk w x ∈ SD ((row w b).map (fk w)) := mem_SD.mpr (mem_map_of_mem hx)
    rw [← this, mem_SD, mem_map] at h
    obtain ⟨y, hy, ey⟩ := h
    exact ⟨y, hy, ok.row hy, ok.row hx, ey⟩
theorem bis_inv {w v : Web} {R : Nat → Nat → Prop} (B : Bis w v R) : Bis v w fun a b => R b a where
  l := fun a b h => B.r b a h
  r := fun a b h => B.l b a h
  f := fun a b h x hx => B.g b a h x hx
  g := fun a b h x hx => B.f b a h x hx
theorem bis_comp {w v u : Web} {R S : Nat → Nat → Prop} (B : Bis w v R) (D : Bis v u S) : Bis w u fun a c => ∃ b, R a b ∧ S b c where
  l := fun a c ⟨b, h, _⟩ => B.l a b h
  r := fun a c ⟨b, _, h⟩ => D.r b c h
  f := fun a c ⟨b, h1, h2⟩ x hx => by
    obtain ⟨y, hy, r1⟩ := B.f a b h1 x hx
    obtain ⟨z, hz, r2⟩ := D.f b c h2 y hy
    exact ⟨z, hz, y, r1, r2⟩
  g := fun a c ⟨b, h1, h2⟩ z hz => by
    obtain ⟨y, hy, r2⟩ := D.g b c h2 z hz
    obtain ⟨x, hx, r1⟩ := B.g a b h1 y hy
    exact ⟨x, hx, y, r1, r2⟩
/-- rows of one web that are alike have like kinds at each round -/
theorem bis_self {w : Web} (ok : Ok w) {R : Nat → Nat → Prop} (B : Bis w w R) {a b : Nat} (h : R a b) (r : Nat) : kd w r a = kd w r b := by
  have t : Tot w w fun x y => R x y ∨ (x = y ∧ x < w.length) :=
    { l := fun a b h => h.elim (B.l a b) (·.2)
      r := fun a b h => h.elim (B.r a b) fun h => h.1 ▸ h.2
      f := fun a b h x hx => by
        rcases h with h | ⟨rfl, h⟩
        · obtain ⟨y, hy, z⟩ := B.f a b h x hx
          exact ⟨y, hy, .inl z⟩
        · exact ⟨x, hx, .inr ⟨rfl, ok.row hx⟩⟩
      g := fun a b h x hx => by
        rcases h with h | ⟨rfl, h⟩
        · obtain ⟨y, hy, z⟩ := B.g a b h x hx
          exact ⟨y, hy, .inl z⟩
        · exact ⟨x, hx, .inr ⟨rfl, ok.row hx⟩⟩
      tl := fun a h => ⟨a, .inr ⟨rfl, h⟩⟩
      tr := fun a h => ⟨a, .inr ⟨rfl, h⟩⟩ }
  exact t.kd r a b (.inl h)

/-! ### reach -/
inductive Reach (w : Web) (a : Nat) : Nat → Prop
  | base : Reach w a a
  | step {x y : Nat} : Reach w a x → y ∈ row w x → Reach w a y
theorem Reach.lt {w : Web} (ok : Ok w) {a : Nat} (h : a < w.length) {x : Nat} : Reach w a x → x < w.length
  | .base => h
  | .step _ hy => ok.row hy
theorem Reach.sim {w v : Web} {R : Nat → Nat → Prop} (B : Bis w v R) {a b : Nat} (h : R a b) {x : Nat} (p : Reach w a x) : ∃ y, Reach v b y ∧ R x y := by
  induction p with
  | base => exact ⟨b, .base, h⟩
  | step _ hy ih =>
    obtain ⟨z, pz, rz⟩ := ih
    obtain ⟨u, hu, ru⟩ := B.f _ _ rz _ hy
    exact ⟨u, .step pz hu, ru⟩
structure Lists (w : Web) (a : Nat) (L : List Nat) : Prop where
  nd : L.Nodup
  mem : ∀ x, x ∈ L ↔ Reach w a x
open Classical in
noncomputable def come (w : Web) (a : Nat) : List Nat := (List.range w.length).filter fun x => decide (Reach w a x)
theorem come_pw (w : Web) (a : Nat) : (come w a).Pairwise (· < ·) := (range_pw _).sublist filter_sublist
theorem come_lists {w : Web} (ok : Ok w) {a : Nat} (h : a < w.length) : Lists w a (come w a) where
  nd := (nodup_range).sublist filter_sublist
  mem := fun x => by
    simp only [come, mem_filter, mem_range, decide_eq_true_eq]
    exact ⟨(·.2), fun z => ⟨z.lt ok h, z⟩⟩
/-! ### the web of some rows -/
def sub (w : Web) (L : List Nat) : Web := L.map fun a => (row w a).map fun x => L.idxOf x
theorem sub_len (w : Web) (L : List Nat) : (sub w L).length = L.length := by simp [sub]
theorem row_sub {w : Web} {L : List Nat} {a : Nat} (h : a ∈ L) : row (sub w L) (L.idxOf a) = (row w a).map fun x => L.idxOf x := by
  have i := idxOf_lt_length_iff.mpr h
  rw [row_get (by rw [sub_len]; exact i)]
  simp only [sub, getElem_map, getElem_idxOf]
theorem sub_idx {w : Web} {L : List Nat} {i : Nat} (nd : L.Nodup) (h : i < (sub w L).length) : ∃ a ∈ L, L.idxOf a = i := by
  rw [sub_len] at h
  exact ⟨L[i], getElem_mem h, nd.idxOf_getElem i h⟩
theorem ok_sub {w : Web} {a : Nat} {L : List Nat} (ls : Lists w a L) : Ok (sub w L) := by
  intro r hr x hx
  simp only [sub, mem_map] at hr
  obtain ⟨b, hb, rfl⟩ := hr
  obtain ⟨y, hy, rfl⟩ := mem_map.mp hx
  rw [sub_len]
  exact idxOf_lt_length_iff.mpr ((ls.mem y).mpr (.step ((ls.mem b).mp hb) hy))
def At (L : List Nat) (M : List Nat) (R : Nat → Nat → Prop) (i j : Nat) : Prop := ∃ x y, R x y ∧ x ∈ L ∧ y ∈ M ∧ i = L.idxOf x ∧ j = M.idxOf y
theorem tot_sub {w v : Web} {R : Nat → Nat → Prop} (B : Bis w v R) {a b : Nat} (h : R a b) {L M : List Nat} (hl : Lists w a L) (hm : Lists v b M) : Tot (sub w L) (sub v M) (At L M R) where
  l := by
    rintro i j ⟨x, y, _, hx, _, rfl, _⟩
    rw [sub_len]; exact idxOf_lt_length_iff.mpr hx
  r := by
    rintro i j ⟨x, y, _, _, hy, _, rfl⟩
    rw [sub_len]; exact idxOf_lt_length_iff.mpr hy
  f := by
    rintro i j ⟨x, y, r, hx, hy, rfl, rfl⟩ k hk
    rw [row_sub hx] at hk
    obtain ⟨u, hu, rfl⟩ := mem_map.mp hk
    obtain ⟨z, hz, rz⟩ := B.f _ _ r u hu
    exact ⟨M.idxOf z, by rw [row_sub hy]; exact mem_map_of_mem hz, u, z, rz, (hl.mem u).mpr (.step ((hl.mem x).mp hx) hu), (hm.mem z).mpr (.step ((hm.mem y).mp hy) hz), rfl, rfl⟩
  g := by
    rintro i j ⟨x, y, r, hx, hy, rfl, rfl⟩ k hk
    rw [row_sub hy] at hk
    obtain ⟨z, hz, rfl⟩ := mem_map.mp hk
    obtain ⟨u, hu, rz⟩ := B.g _ _ r z hz
    exact ⟨L.idxOf u, by rw [row_sub hx]; exact mem_map_of_mem hu, u, z, rz, (hl.mem u).mpr (.step ((hl.mem x).mp hx) hu), (hm.mem z).mpr (.step ((hm.mem y).mp hy) hz), rfl, rfl⟩
  tl := fun i hi => by
    obtain ⟨x, hx, rfl⟩ := sub_idx hl.nd hi
    obtain ⟨y, py, ry⟩ := Reach.sim B h ((hl.mem x).mp hx)
    exact ⟨M.idxOf y, x, y, ry, hx, (hm.mem y).mpr py, rfl, rfl⟩
  tr := fun i hi => by
    obtain ⟨y, hy, rfl⟩ := sub_idx hm.nd hi
    obtain ⟨x, px, rx⟩ := Reach.sim (bis_inv B) h ((hm.mem y).mp hy)
    exact ⟨L.idxOf x, x, y, rx, (hl.mem x).mpr px, hy, rfl, rfl⟩
/-- a row and its place among the rows that it comes to -/
theorem bis_place {w : Web} (ok : Ok w) {a : Nat} (ha : a < w.length) {L : List Nat} (hl : Lists w a L) : Bis w (sub w L) fun x i => x ∈ L ∧ i = L.idxOf x where
  l := fun x i h => ((hl.mem x).mp h.1).lt ok ha
  r := fun x i h => by rw [h.2, sub_len]; exact idxOf_lt_length_iff.mpr h.1
  f := by
    rintro x _ ⟨hx, rfl⟩ u hu
    exact ⟨L.idxOf u, by rw [row_sub hx]; exact mem_map_of_mem hu, (hl.mem u).mpr (.step ((hl.mem x).mp hx) hu), rfl⟩
  g := by
    rintro x _ ⟨hx, rfl⟩ k hk
    rw [row_sub hx] at hk
    obtain ⟨u, hu, rfl⟩ := mem_map.mp hk
    exact ⟨u, hu, (hl.mem u).mpr (.step ((hl.mem x).mp hx) hu), rfl⟩

/-! ### each kind once -/
def size (w : Web) : Nat := (SD (fin w)).length
theorem mem_fin {w : Web} {k : Nat} : k ∈ fin w ↔ k < size w := by
  obtain ⟨m, hm⟩ := tight w w.length
  have h : size w = m := by rw [size, fin, hm, length_range]
  rw [h, ← mem_range, ← hm, mem_SD]
  rfl
theorem size_le (w : Web) : size w ≤ w.length := cnt_le w _
theorem size_pos {w : Web} (h : 0 < w.length) : 0 < size w := Nat.lt_of_le_of_lt (Nat.zero_le _) (mem_fin.mp (fk_mem h))
def qrow (w : Web) (k : Nat) : List Nat := SD ((row w ((fin w).idxOf k)).map (fk w))
def quo (w : Web) : Web := (List.range (size w)).map (qrow w)
theorem fin_idx {w : Web} {k : Nat} (h : k < size w) : (fin w).idxOf k < w.length ∧ fk w ((fin w).idxOf k) = k := by
  have i := idxOf_lt_length_iff.mpr (mem_fin.mpr h)
  refine ⟨fin_len w ▸ i, ?_⟩
  simp only [fk, at_, getD_eq_getElem?_getD, getElem?_eq_getElem i, Option.getD_some, getElem_idxOf]
theorem qrow_of {w : Web} {a : Nat} (h : a < w.length) : qrow w (fk w a) = SD ((row w a).map (fk w)) := by
  obtain ⟨h1, h2⟩ := fin_idx (mem_fin.mp (fk_mem h))
  exact same_row h1 h h2
theorem quo_len (w : Web) : (quo w).length = size w := by simp [quo]
theorem row_quo {w : Web} {k : Nat} (h : k < size w) : row (quo w) k = qrow w k := by
  rw [row_get (by rw [quo_len]; exact h)]
  simp [quo]
theorem ok_quo {w : Web} (ok : Ok w) : Ok (quo w) := by
  intro r hr x hx
  simp only [quo, mem_map] at hr
  obtain ⟨k, hk, rfl⟩ := hr
  rw [qrow, mem_SD, mem_map] at hx
  obtain ⟨y, hy, rfl⟩ := hx
  rw [quo_len]
  exact mem_fin.mp (fk_mem (ok.row hy))
theorem tot_quo {w : Web} (ok : Ok w) : Tot w (quo w) fun a k => a < w.length ∧ k = fk w a where
  l := fun a k h => h.1
  r := fun a k h => by rw [h.2, quo_len]; exact mem_fin.mp (fk_mem h.1)
  f := by
    rintro a _ ⟨ha, rfl⟩ x hx
    refine ⟨fk w x, ?_, ok.row hx, rfl⟩
    rw [row_quo (mem_fin.mp (fk_mem ha)), qrow_of ha, mem_SD]
    exact mem_map_of_mem hx
  g := by
    rintro a _ ⟨ha, rfl⟩ x hx
    rw [row_quo (mem_fin.mp (fk_mem ha)), qrow_of ha, mem_SD, mem_map] at hx
    obtain ⟨y, hy, rfl⟩ := hx
    exact ⟨y, hy, ok.row hy, rfl⟩
  tl := fun a h => ⟨fk w a, h, rfl⟩
  tr := fun k h => by
    rw [quo_len] at h
    obtain ⟨h1, h2⟩ := fin_idx h
    exact ⟨_, h1, h2.symm⟩
theorem fk_quo {w : Web} (ok : Ok w) {k : Nat} (h : k < size w) : fk (quo w) k = k := by
  obtain ⟨h1, h2⟩ := fin_idx h
  have := (tot_quo ok).fk ⟨h1, h2.symm⟩
  rw [← this, h2]
theorem fin_quo {w : Web} (ok : Ok w) : fin (quo w) = List.range (size w) := by
  apply ext_getElem
  · rw [fin_len, quo_len, length_range]
  · intro i h1 h2
    rw [fin_len, quo_len] at h1
    have := fk_quo ok h1
    simp only [fk, at_, getD_eq_getElem?_getD] at this
    rw [getElem?_eq_getElem (by rw [fin_len, quo_len]; exact h1)] at this
    simpa using this
theorem quo_tot {w v : Web} {R : Nat → Nat → Prop} (t : Tot w v R) : quo w = quo v := by
  have hs : size w = size v := by
    have : ∀ k, k < size w ↔ k < size v := fun k => by
      rw [← mem_fin, ← mem_fin]
      constructor
      · intro h
        obtain ⟨a, ha, rfl⟩ := mem_fk h
        obtain ⟨b, hb⟩ := t.tl a ha
        rw [t.fk hb]
        exact fk_mem (t.r _ _ hb)
      · intro h
        obtain ⟨a, ha, rfl⟩ := mem_fk h
        obtain ⟨b, hb⟩ := t.tr a ha
        rw [← t.fk hb]
        exact fk_mem (t.l _ _ hb)
    have h1 := this (size v)
    have h2 := this (size w)
    omega
  unfold quo
  rw [hs]
  refine map_congr_left fun k hk => ?_
  rw [mem_range, ← hs] at hk
  obtain ⟨h1, h2⟩ := fin_idx hk
  obtain ⟨b, hb⟩ := t.tl _ h1
  have e := t.fk hb
  rw [h2] at e
  rw [e, qrow_of (t.r _ _ hb), ← e]
  exact map_ext t.toBis (fun a b r => t.fk r) hb

/-! ### the picture of a row -/
noncomputable def pic (w : Web) (a : Nat) : Nat × Web := (fk (sub w (come w a)) ((come w a).idxOf a), quo (sub w (come w a)))
theorem pic_bis_lists {w v : Web} {R : Nat → Nat → Prop} (B : Bis w v R) {a b : Nat} (h : R a b) {L M : List Nat} (hl : Lists w a L) (hm : Lists v b M) :
    (fk (sub w L) (L.idxOf a), quo (sub w L)) = (fk (sub v M) (M.idxOf b), quo (sub v M)) := by
  have t := tot_sub B h hl hm
  rw [quo_tot t, t.fk ⟨a, b, h, (hl.mem a).mpr .base, (hm.mem b).mpr .base, rfl, rfl⟩]
theorem bis_id {w : Web} (ok : Ok w) : Bis w w fun a b => a = b ∧ a < w.length where
  l := fun _ _ h => h.2
  r := fun _ _ h => h.1 ▸ h.2
  f := by
    rintro a _ ⟨rfl, h⟩ x hx
    exact ⟨x, hx, rfl, ok.row hx⟩
  g := by
    rintro a _ ⟨rfl, h⟩ x hx
    exact ⟨x, hx, rfl, ok.row hx⟩
theorem pic_lists {w : Web} (ok : Ok w) {a : Nat} (h : a < w.length) {L : List Nat} (hl : Lists w a L) : pic w a = (fk (sub w L) (L.idxOf a), quo (sub w L)) :=
  pic_bis_lists (bis_id ok) ⟨rfl, h⟩ (come_lists ok h) hl
theorem pic_bis {w v : Web} (okw : Ok w) (okv : Ok v) {R : Nat → Nat → Prop} (B : Bis w v R) {a b : Nat} (h : R a b) : pic w a = pic v b :=
  pic_bis_lists B h (come_lists okw (B.l _ _ h)) (come_lists okv (B.r _ _ h))
theorem come_at {w : Web} (ok : Ok w) {a : Nat} (h : a < w.length) : a ∈ come w a := ((come_lists ok h).mem a).mpr .base
/-- a row and its place in its picture -/
theorem bis_pic {w : Web} (ok : Ok w) {a : Nat} (h : a < w.length) : Bis w (pic w a).2 fun x k => x ∈ come w a ∧ k = fk (sub w (come w a)) ((come w a).idxOf x) := by
  have hl := come_lists ok h
  have B := bis_comp (bis_place ok h hl) (tot_quo (ok_sub hl)).toBis
  have e : (fun x k => ∃ i, (x ∈ come w a ∧ i = (come w a).idxOf x) ∧ i < (sub w (come w a)).length ∧ k = fk (sub w (come w a)) i) = fun x k => x ∈ come w a ∧ k = fk (sub w (come w a)) ((come w a).idxOf x) := by
    funext x k
    apply propext
    constructor
    · rintro ⟨_, ⟨h1, rfl⟩, _, h2⟩
      exact ⟨h1, h2⟩
    · rintro ⟨h1, h2⟩
      exact ⟨_, ⟨h1, rfl⟩, by rw [sub_len]; exact idxOf_lt_length_iff.mpr h1, h2⟩
  rw [e] at B
  exact B
theorem bis_pic_at {w : Web} (ok : Ok w) {a : Nat} (h : a < w.length) : a ∈ come w a ∧ (pic w a).1 = fk (sub w (come w a)) ((come w a).idxOf a) := ⟨come_at ok h, rfl⟩
theorem pic_ok {w : Web} (ok : Ok w) {a : Nat} (h : a < w.length) : Ok (pic w a).2 := ok_quo (ok_sub (come_lists ok h))
theorem pic_lt {w : Web} (ok : Ok w) {a : Nat} (h : a < w.length) : (pic w a).1 < (pic w a).2.length := (bis_pic ok h).r _ _ (bis_pic_at ok h)
theorem come_len (w : Web) (a : Nat) : (come w a).length ≤ w.length := by
  have := (filter_sublist (l := List.range w.length) (p := fun x => @decide (Reach w a x) (Classical.propDecidable _))).length_le
  rw [length_range] at this
  exact this
theorem row_pic_SD {w : Web} {a k : Nat} (h : k < (pic w a).2.length) : SD (row (pic w a).2 k) = row (pic w a).2 k := by
  have h' : k < size (sub w (come w a)) := by rw [← quo_len]; exact h
  show SD (row (quo _) k) = row (quo _) k
  rw [row_quo h', qrow]
  exact (SD_unique (SD_lt _) fun _ => Iff.rfl).symm
theorem idxOf_range {n i : Nat} (h : i < n) : (List.range n).idxOf i = i := by
  have := (nodup_range (n := n)).idxOf_getElem i (by rw [length_range]; exact h)
  rwa [getElem_range] at this
/-- the picture of a set's own web -/
theorem pic_pic {w : Web} (ok : Ok w) {a : Nat} (h : a < w.length) : pic (pic w a).2 (pic w a).1 = pic w a := by
  have hl := come_lists ok h
  have okq := pic_ok ok h
  have hlt := pic_lt ok h
  -- each row is come to
  have all : ∀ k, Reach (pic w a).2 (pic w a).1 k ↔ k < (pic w a).2.length := fun k => by
    refine ⟨fun p => p.lt okq hlt, fun hk => ?_⟩
    have hk' : k < size (sub w (come w a)) := by rw [← quo_len]; exact hk
    obtain ⟨h1, h2⟩ := fin_idx hk'
    obtain ⟨x, hx, ex⟩ := sub_idx hl.nd h1
    obtain ⟨y, py, _, ry⟩ := Reach.sim (bis_pic ok h) (bis_pic_at ok h) ((hl.mem x).mp hx)
    rw [ex, h2] at ry
    exact ry ▸ py
  have ls : Lists (pic w a).2 (pic w a).1 (List.range (pic w a).2.length) := ⟨nodup_range, fun x => by rw [mem_range, all]⟩
  have es : sub (pic w a).2 (List.range (pic w a).2.length) = (pic w a).2 := by
    refine web_ext (by rw [sub_len, length_range]) fun i hi => ?_
    rw [sub_len, length_range] at hi
    have := row_sub (w := (pic w a).2) (L := List.range (pic w a).2.length) (mem_range.mpr hi)
    rw [idxOf_range hi] at this
    rw [this]
    exact (map_congr_left fun x hx => idxOf_range (okq.row hx)).trans (map_id _)
  rw [pic_lists okq hlt ls, es, idxOf_range hlt]
  have oks := ok_sub hl
  have hf : ∀ k, k < (pic w a).2.length → fk (pic w a).2 k = k := fun k hk => fk_quo oks (by rw [← quo_len]; exact hk)
  refine Prod.ext (hf _ hlt) (web_ext ?_ fun k hk => ?_)
  · show (quo (quo _)).length = (quo _).length
    rw [quo_len, quo_len, size, fin_quo oks, ← SD_unique (range_pw _) fun _ => Iff.rfl, length_range]
  · rw [quo_len] at hk
    rw [row_quo hk]
    have hk2 : k < (pic w a).2.length := by
      have := size_le (pic w a).2
      omega
    have e := qrow_of hk2
    rw [hf k hk2] at e
    rw [e, ← row_pic_SD hk2]
    congr 1
    rw [row_pic_SD hk2]
    exact (map_congr_left fun x hx => hf x (okq.row hx)).trans (map_id _)
theorem fin_pic {w : Web} (ok : Ok w) {a : Nat} (h : a < w.length) : fin (pic w a).2 = List.range (pic w a).2.length := by
  have := fin_quo (ok_sub (come_lists ok h))
  show fin (quo _) = List.range (quo _).length
  rw [this, quo_len]
/-- like pictures are like rows -/
theorem pic_eq {w : Web} (ok : Ok w) {a b : Nat} (ha : a < w.length) (hb : b < w.length) : pic w a = pic w b ↔ fk w a = fk w b := by
  constructor
  · intro e
    have B1 := bis_pic ok ha
    have B2 := bis_pic ok hb
    rw [← e] at B2
    have B := bis_comp B1 (bis_inv B2)
    rw [← fk_kd (Nat.le_refl _), ← fk_kd (Nat.le_refl _)]
    exact bis_self ok B ⟨(pic w a).1, bis_pic_at ok ha, come_at ok hb, by rw [e]; rfl⟩ _
  · intro e
    exact pic_bis ok ok (bis_fk ok) ⟨ha, hb, e⟩

/-! ### a web laid by another -/
def lay (w v : Web) : Web := w ++ v.map fun r => r.map fun x => x + w.length
theorem lay_len (w v : Web) : (lay w v).length = w.length + v.length := by simp [lay]
theorem lay_l {w v : Web} {a : Nat} (h : a < w.length) : row (lay w v) a = row w a := by
  rw [row_get h, row_get (by rw [lay_len]; omega)]
  simp [lay, getElem_append_left h]
theorem lay_r {w v : Web} {a : Nat} (h : a < v.length) : row (lay w v) (w.length + a) = (row v a).map fun x => x + w.length := by
  simp [row, lay, h]
theorem ok_lay {w v : Web} (okw : Ok w) (okv : Ok v) : Ok (lay w v) := by
  intro r hr x hx
  rw [lay_len]
  rcases mem_append.mp hr with h | h
  · exact Nat.lt_of_lt_of_le (okw r h x hx) (Nat.le_add_right _ _)
  · obtain ⟨q, hq, rfl⟩ := mem_map.mp h
    obtain ⟨y, hy, rfl⟩ := mem_map.mp hx
    have := okv q hq y hy
    omega
end Wt

set_option Elab.async false
set_option linter.all false
set_option maxRecDepth 100000
set_option maxHeartbeats 1000000
/-! rows, kinds and keys as the mirrors hold them -/
namespace Lib
open PySem PySem.Spec PyProof.Rows L2 Mx NSet
def nD (n : Nat) : D := .int n
def ND (l : List Nat) : List D := l.map nD
def rowD (r : List Nat) : D := .tup (ND r)
def rowsD (w : Wt.Web) : List D := w.map rowD
def keyD (k : Wt.Key) : D := .tup [nD k.1, rowD k.2]
def numN (n : Nat) : Nk := .num n
def keyN (k : Wt.Key) : Nk := .tup [numN k.1, .tup (k.2.map numN)]
theorem ND_len (l : List Nat) : (ND l).length = l.length := List.length_map _
theorem rowsD_len (w : Wt.Web) : (rowsD w).length = w.length := List.length_map _
theorem ND_cast (l : List Nat) : ND l = (l.map fun n : Nat => (n : Int)).map D.int := by simp [ND, nD, Function.comp_def]
theorem intsD_ints : ∀ r : List Int, intsD (r.map D.int) = some r
  | [] => rfl
  | i :: r => by simp [intsD, intsD_ints r]
theorem intsD_ND (l : List Nat) : intsD (ND l) = some (l.map fun n : Nat => (n : Int)) := by rw [ND_cast, intsD_ints]
/-! ### sets of numbers -/
theorem mem_ins {l : List Int} {k x : Int} : x ∈ ins l k ↔ x ∈ l ∨ x = k := by
  unfold ins
  split
  · constructor
    · exact .inl
    · rintro (h | rfl)
      · exact h
      · assumption
  · simp
theorem mem_insAll {x : Int} : ∀ {l : List Int}, x ∈ insAll l ↔ x ∈ l := by
  have go : ∀ (l acc : List Int), x ∈ l.foldl ins acc ↔ x ∈ acc ∨ x ∈ l := by
    intro l
    induction l with
    | nil => simp
    | cons k l ih =>
      intro acc
      rw [List.foldl_cons, ih, mem_ins, List.mem_cons]
      simp only [or_assoc]
  intro l
  have := go l []
  simpa [insAll] using this
theorem sort_nats (l : List Nat) : sortI (insAll (l.map fun n : Nat => (n : Int))) = (Wt.SD l).map fun n : Nat => (n : Int) := by
  refine (lt_unique ?_ (fun k => ?_) (insAll_nodup _)).symm
  · rw [List.pairwise_map]
    exact (Wt.SD_lt l).imp fun h => by omega
  · rw [mem_insAll]
    simp only [List.mem_map, Wt.mem_SD]
theorem sort_ND (l : List Nat) : (sortI (insAll (l.map fun n : Nat => (n : Int)))).map D.int = ND (Wt.SD l) := by rw [sort_nats, ← ND_cast]
/-! ### sets of keys -/
theorem nkOf_nums : ∀ l : List Nat, nkOfs (ND l) = some (l.map numN)
  | [] => rfl
  | n :: l => by
    have := nkOf_nums l
    simp only [ND] at this
    simp [ND, nD, nkOfs, nkOf, this, numN]
theorem nkOf_keyD (k : Wt.Key) : nkOf (keyD k) = some (keyN k) := by
  simp only [keyD, rowD, nkOf, nkOfs, nkOf_nums, nD, keyN, numN, Option.map_some]
theorem nkOf_keys : ∀ l : List Wt.Key, nkOfs (l.map keyD) = some (l.map keyN)
  | [] => rfl
  | k :: l => by simp only [List.map_cons, nkOfs, nkOf_keyD, nkOf_keys l]
theorem dOf_keyN (k : Wt.Key) : dOf (keyN k) = keyD k := (nkOf_eq _ _ (nkOf_keyD k)).symm
theorem num_inj : ∀ {a b : List Nat}, a.map numN = b.map numN → a = b
  | [], [], _ => rfl
  | [], _ :: _, h => by cases h
  | _ :: _, [], h => by cases h
  | x :: a, y :: b, h => by
    rw [List.map_cons, List.map_cons] at h
    injection h with h1 h2
    have h1 : (.num (x : Int) : Nk) = .num (y : Int) := h1
    injection h1 with h1
    rw [num_inj h2]
    congr 1
    exact Int.ofNat.inj h1
theorem keyN_inj {a b : Wt.Key} (h : keyN a = keyN b) : a = b := by
  have h : (.tup [.num (a.1 : Int), .tup (a.2.map numN)] : Nk) = .tup [.num (b.1 : Int), .tup (b.2.map numN)] := h
  injection h with h
  injection h with h1 h2
  injection h1 with h1
  injection h2 with h2
  injection h2 with h2
  exact Prod.ext (Int.ofNat.inj h1) (num_inj h2)
theorem like_nums : ∀ a b : List Nat, likeNs (a.map numN) (b.map numN) = true
  | [], [] => rfl
  | [], _ :: _ => rfl
  | _ :: _, [] => rfl
  | _ :: a, _ :: b => by simp [likeNs, numN, likeN, like_nums a b]
theorem like_keys (a b : Wt.Key) : likeN (keyN a) (keyN b) = true := by
  simp only [keyN, likeN, likeNs, like_nums, numN, Bool.and_self, Bool.and_true]
theorem toks_le : ∀ {a b : List Nat} (r s : List Int), a ≤ b → r ≤ s → toksNs (a.map numN) ++ r ≤ toksNs (b.map numN) ++ s
  | [], [], r, s, _, h => by
    simp only [List.map_nil, toksNs, List.cons_append, List.nil_append]
    rw [List.cons_le_cons_iff]
    exact .inr ⟨rfl, h⟩
  | [], _ :: _, r, s, _, _ => by
    simp only [List.map_nil, List.map_cons, toksNs, List.cons_append, List.nil_append]
    rw [List.cons_le_cons_iff]
    exact .inl (by omega)
  | x :: a, [], _, _, h, _ => by simp at h
  | x :: a, y :: b, r, s, h, h' => by
    rw [List.cons_le_cons_iff] at h
    simp only [List.map_cons, toksNs, numN, toksN, List.cons_append, List.nil_append, List.append_assoc]
    rw [List.cons_le_cons_iff]
    refine .inr ⟨rfl, ?_⟩
    rw [List.cons_le_cons_iff]
    rcases h with h | ⟨rfl, h⟩
    · exact .inl (by omega)
    · exact .inr ⟨rfl, toks_le r s h h'⟩
theorem le_keys {a b : Wt.Key} (h : Wt.leK a b = true) : leN (keyN a) (keyN b) = true := by
  simp only [Wt.leK, Bool.or_eq_true, Bool.and_eq_true, decide_eq_true_eq] at h
  simp only [leN, decide_eq_true_eq, keyN, toksN, toksNs, numN, List.cons_append, List.nil_append]
  rw [List.cons_le_cons_iff]
  refine .inr ⟨rfl, ?_⟩
  rw [List.cons_le_cons_iff]
  rcases h with h | ⟨h1, h2⟩
  · exact .inl (by omega)
  · refine .inr ⟨by omega, ?_⟩
    rw [List.cons_le_cons_iff]
    exact .inr ⟨rfl, toks_le _ _ h2 (List.le_refl _)⟩
theorem nodup_keys {l : List Wt.Key} (h : l.Nodup) : (l.map keyN).Nodup := by
  rw [List.nodup_iff_pairwise_ne] at *
  rw [List.pairwise_map]
  exact h.imp fun ne e => ne (keyN_inj e)
theorem sort_keys (l : List Wt.Key) : sortN (l.map keyN) = (Wt.sd Wt.leK l).map keyN := by
  refine (sortN_unique (fun k hk k' hk' => ?_) (nodup_keys (Wt.nodup_sd l)) ?_ fun k => ?_).symm
  · obtain ⟨a, _, rfl⟩ := List.mem_map.mp hk
    obtain ⟨b, _, rfl⟩ := List.mem_map.mp hk'
    exact like_keys a b
  · rw [List.pairwise_map]
    exact (Wt.pw_sd Wt.ordK l).imp le_keys
  · simp only [List.mem_map, Wt.mem_sd]
theorem depth_nums : ∀ l : List Nat, NestedKey.depthAll (l.map numN) ≤ 1
  | [] => by simp [NestedKey.depthAll]
  | n :: l => by
    have := depth_nums l
    simp only [List.map_cons, NestedKey.depthAll, numN, NestedKey.depth] at *
    omega
theorem depth_key (k : Wt.Key) : (keyN k).depth ≤ 8 := by
  have := depth_nums k.2
  simp only [keyN, NestedKey.depth, NestedKey.depthAll, numN]
  omega
theorem keyT_key (k : Wt.Key) : keyT (keyD k) = some (keyN k) := by
  have h := nkOf_keyD k
  show ((nkOf (keyD k)).bind fun k => if k.depth ≤ 8 then some k else none) = _
  rw [h, Option.bind_some, if_pos (depth_key k)]
theorem goodB_keys (l : List Wt.Key) : goodB (l.map keyN) = true := by
  simp only [goodB, Bool.and_eq_true, List.all_eq_true, List.mem_map]
  refine ⟨?_, ?_⟩
  · rintro _ ⟨k, _, rfl⟩
    rfl
  · rintro _ ⟨k, _, rfl⟩ _ ⟨k', _, rfl⟩
    exact like_keys k k'
theorem sortSet_keys {l : List Wt.Key} (h : l.length < 4096) : sortSetA (l.map keyD) = some ((Wt.sd Wt.leK l).map keyD) := by
  cases l with
  | nil => simp [sortSetA, intsD, sortI, insAll, Wt.sd, Wt.dd]
  | cons k l =>
    have e : intsD ((k :: l).map keyD) = none := rfl
    simp only [sortSetA, e, sortSetN, nkOf_keys, List.length_map]
    have dp : (((k :: l).map keyN).all fun k => decide (k.depth ≤ 8)) = true := by
      rw [List.all_eq_true]
      intro n hn
      obtain ⟨k', _, rfl⟩ := List.mem_map.mp hn
      simpa using depth_key k'
    rw [if_pos ⟨h, goodB_keys _, dp⟩, sort_keys, List.map_map]
    exact congrArg some (List.map_congr_left fun k _ => dOf_keyN k)
/-! ### places -/
theorem lookT_keys {k : Wt.Key} : ∀ {l : List Wt.Key} {n : Nat}, k ∈ l → lookT (keyN k) ((l.zipIdx n).map fun p => (keyD p.1, nD p.2)) = some (nD (n + Wt.pos l k))
  | x :: l, n, h => by
    simp only [List.zipIdx_cons, List.map_cons, lookT, nkOf_keyD]
    by_cases e : x = k
    · subst e
      simp [Wt.pos_eq]
    · rw [if_neg (fun z => e (keyN_inj (Option.some.inj z)))]
      rcases List.mem_cons.mp h with z | z
      · exact absurd z.symm e
      · rw [lookT_keys (n := n + 1) z, Wt.pos_ne e, Nat.add_assoc, Nat.add_comm 1]
theorem ix_places {l : List Wt.Key} {k : Wt.Key} (h : k ∈ l) : fIxA (.tdc (l.zipIdx.map fun p => (keyD p.1, nD p.2))) (keyD k) = some (.d (nD (Wt.pos l k))) := by
  show ((keyT (keyD k)).bind fun k => (lookT k _).map RN.d) = _
  rw [keyT_key, Option.bind_some, lookT_keys h, Option.map_some, Nat.zero_add]
theorem enum_zip : ∀ (xs : List D) (n : Nat), enumD n xs = (xs.zipIdx n).map fun p => .tup [nD p.2, p.1]
  | [], _ => rfl
  | x :: xs, n => by simp only [enumD, List.zipIdx_cons, List.map_cons, enum_zip xs (n + 1), nD]
theorem enum_map {α : Type} (f : α → D) (l : List α) (n : Nat) : enumD n (l.map f) = (l.zipIdx n).map fun p => .tup [nD p.2, f p.1] := by
  rw [enum_zip, List.zipIdx_map, List.map_map]
  rfl
theorem enum_rows (w : Wt.Web) : enumD 0 (rowsD w) = (List.range w.length).map fun a => .tup [nD a, rowD (Wt.row w a)] := by
  rw [rowsD, enum_map]
  apply List.ext_getElem
  · simp
  · intro i h1 h2
    have h : i < w.length := by simpa using h1
    simp [Wt.row, h]
/-! ### reading a list of numbers -/
theorem ixN_nat {n i : Nat} (h : i < n) : ixN n (i : Int) = some i := by
  unfold ixN
  rw [if_pos (by omega), if_pos (by omega)]
  simp
theorem ix_ND {l : List Nat} {i : Nat} (h : i < l.length) : fIx (.lst (ND l)) (nD i) = some (.d (nD (Wt.at_ l i))) := by
  refine f_ixL ?_
  simp [ND, h, Wt.at_]
theorem ix_rows {w : Wt.Web} {i : Nat} (h : i < w.length) (d : D) (hd : d = .lst (rowsD w) ∨ d = .tup (rowsD w)) : fIxA d (nD i) = some (.d (rowD (Wt.row w i))) := by
  have e : (rowsD w)[i]? = some (rowD (Wt.row w i)) := by simp [rowsD, h, Wt.row]
  rcases hd with rfl | rfl
  · exact f_ixL e
  · exact f_ixT e
end Lib

set_option Elab.async false
set_option linter.all false
set_option maxRecDepth 100000
set_option maxHeartbeats 2000000
/-! next_round and the law's own next round -/
namespace Lib
open PySem PySem.Spec PyProof.Rows L2 Mx NSet
structure Fit (w : Wt.Web) : Prop where
  ok : Wt.Ok w
  len : w.length < 4096
  row : ∀ a, (Wt.row w a).length < 4096
def IsW (w : Wt.Web) (d : D) : Prop := d = .lst (rowsD w) ∨ d = .tup (rowsD w)
theorem IsW.look {w : Wt.Web} {d : D} (h : IsW w d) (g : Sg) : look d g = some d := by rcases h with rfl | rfl <;> rfl
theorem IsW.enum {w : Wt.Web} {d : D} (h : IsW w d) : fEnumA [d] = some ((List.range w.length).map fun a => .tup [nD a, rowD (Wt.row w a)]) := by
  rw [← enum_rows]
  rcases h with rfl | rfl <;> rfl
theorem IsW.len {w : Wt.Web} {d : D} (h : IsW w d) : fLenA [d] = some (.d (nD w.length)) := by
  rcases h with rfl | rfl <;> simp [x_lAl, x_lAt, rowsD_len, nD]
structure Szd (w : Wt.Web) (d : D) : Prop where
  look : ∀ g, Mx.look d g = some d
  len : fLenA [d] = some (.d (nD w.length))
theorem IsW.szd {w : Wt.Web} {d : D} (h : IsW w d) : Szd w d := ⟨h.look, h.len⟩
/-- the rows, as lists or as tuples -/
structure Rws (w : Wt.Web) (d : D) (rf : List Nat → D) : Prop extends Szd w d where
  it : ∀ r, Mx.items (rf r) = some (ND r)
  lk : ∀ r g, Mx.look (rf r) g = some (rf r)
  enum : fEnumA [d] = some ((List.range w.length).map fun a => .tup [nD a, rf (Wt.row w a)])
theorem enum_lst (xs : List D) : fEnumA [.lst xs] = some (enumD 0 xs) := rfl
theorem line4 : 4096 ≤ sizeLine := by decide
theorem look_ND (l : List Nat) (g : Sg) : look (.lst (ND l)) g = some (.lst (ND l)) := rfl
theorem look_nD (n : Nat) (g : Sg) : look (nD n) g = some (nD n) := rfl
theorem look_rowD (r : List Nat) (g : Sg) : look (rowD r) g = some (rowD r) := rfl
theorem look_keyD (k : Wt.Key) (g : Sg) : look (keyD k) g = some (keyD k) := rfl
theorem items_row (r : List Nat) : items (rowD r) = some (ND r) := rfl
theorem items_ND (r : List Nat) : items (.lst (ND r)) = some (ND r) := rfl
theorem env0_8_2 (a b : D) : env0 8 [a, b] = [some (.d a), some (.d b), none, none, none, none, none, none] := rfl
theorem ixA_ND {l : List Nat} {i : Nat} (h : i < l.length) : fIxA (.lst (ND l)) (nD i) = some (.d (nD (Wt.at_ l i))) := ix_ND h
/-- a key -/
theorem kinds_below {w : Wt.Web} (f : Fit w) {ks : List Nat} (hk : ks.length = w.length) (a : Nat) : (sortI (insAll ((Wt.row w a).map fun x => ((Wt.at_ ks x : Nat) : Int)))).map D.int = ND (Wt.SD ((Wt.row w a).map (Wt.at_ ks))) := by
  rw [← sort_ND, List.map_map]
  rfl
theorem keys_len (w : Wt.Web) (ks : List Nat) : (Wt.keys w ks).length = w.length := by simp [Wt.keys]
theorem next_round_ok {w : Wt.Web} (f : Fit w) {ks : List Nat} (hk : ks.length = w.length) {d : D} (hd : IsW w d) (S : List C) :
    m_next_round [d, .lst (ND ks)] S = .ok (.new (.lst (ND (Wt.next w ks)))) S := by
  have k1 : ∀ (e2 e3 e6 : Option SD), mComp (mRange fEnumA [mVar 0]) [4, 5] (tPair [4, 5]) (mYes) (mTup [mBin fIxA (mVar 1) (mVar 4), mAps fTuple [mSortC (mItems (mVar 5)) [3] (tName 3) (mYes) (mBin fIxA (mVar 1) (mVar 3))]]) ⟨[some (.d d), some (.d (.lst (ND ks))), none, none, none, none, none, none], S⟩
      = .ok (.tmp (.lst ((Wt.keys w ks).map keyD))) ⟨[some (.d d), some (.d (.lst (ND ks))), none, none, none, none, none, none], S⟩ := by
    intro _ _ _
    have := comp_l (vs := [4, 5]) (t := tPair [4, 5]) (mi := mRange fEnumA [mVar 0]) (me := mTup [mBin fIxA (mVar 1) (mVar 4), mAps fTuple [mSortC (mItems (mVar 5)) [3] (tName 3) (mYes) (mBin fIxA (mVar 1) (mVar 3))]])
      (g := ⟨[some (.d d), some (.d (.lst (ND ks))), none, none, none, none, none, none], S⟩) (g0 := ⟨[some (.d d), some (.d (.lst (ND ks))), none, none, none, none, none, none], S⟩)
      (l := List.range w.length) (e := fun a => .tup [nD a, rowD (Wt.row w a)]) (f := fun a => keyD (Wt.keyAt w ks a)) (by simp only [XX, hd.enum]) (by rw [List.length_range]; exact Nat.le_of_lt (Nat.lt_of_lt_of_le f.len line4)) fun a ha => ?_
    · rw [this]
      simp only [XX, Wt.keys, List.map_map, Function.comp_def]
    · have ha := List.mem_range.mp ha
      have sc := sortC_l (vs := [3]) (t := tName 3) (mi := mItems (mVar 5)) (me := mBin fIxA (mVar 1) (mVar 3)) (g := ⟨[some (.d d), some (.d (.lst (ND ks))), none, none, some (.d (nD a)), some (.d (rowD (Wt.row w a))), none, none], S⟩) (g0 := ⟨[some (.d d), some (.d (.lst (ND ks))), none, none, some (.d (nD a)), some (.d (rowD (Wt.row w a))), none, none], S⟩)
        (l := Wt.row w a) (e := nD) (f := fun x => ((Wt.at_ ks x : Nat) : Int)) (by simp only [XX, items_row]; rfl) (f.row a) fun x hx => ?_
      · rw [kinds_below f hk a] at sc
        refine ⟨⟨[some (.d d), some (.d (.lst (ND ks))), none, none, some (.d (nD a)), some (.d (rowD (Wt.row w a))), none, none], S⟩, rfl, ?_⟩
        have e2' : (2 : Nat) ≤ sizeLine := by decide
        simp only [XX, RI, ixA_ND (hk ▸ ha : a < ks.length), look_ND, look_nD, sc, fTuple, Nat.zero_add, Nat.reduceAdd, e2']
        exact ⟨trivial, rfl, trivial⟩
      · have hx : x < ks.length := hk ▸ f.ok.row hx
        refine ⟨⟨[some (.d d), some (.d (.lst (ND ks))), none, some (.d (nD x)), some (.d (nD a)), some (.d (rowD (Wt.row w a))), none, none], S⟩, ⟨[some (.d d), some (.d (.lst (ND ks))), none, some (.d (nD x)), some (.d (nD a)), some (.d (rowD (Wt.row w a))), none, none], S⟩, rfl, ?_, rfl, rfl⟩
        simp only [XX, ixA_ND hx, look_ND, look_nD]
        rfl
  have k2 : mDictC (mRange fEnumA [mSortSetA (mVar 2)]) [4, 7] (tPair [4, 7]) (mYes) (mVar 7) (mVar 4) ⟨[some (.d d), some (.d (.lst (ND ks))), some (.own (.lst ((Wt.keys w ks).map keyD))), none, none, none, none, none], S⟩
      = .ok (.tmp (.tct ((Wt.sd Wt.leK (Wt.keys w ks)).zipIdx.map fun p => (keyD p.1, nD p.2)))) ⟨[some (.d d), some (.d (.lst (ND ks))), some (.own (.lst ((Wt.keys w ks).map keyD))), none, none, none, none, none], S⟩ := by
    have hl : (Wt.sd Wt.leK (Wt.keys w ks)).length < 4096 := Nat.lt_of_le_of_lt (Wt.sd_length_le _) (by rw [keys_len]; exact f.len)
    have := dictC_l (vs := [4, 7]) (t := tPair [4, 7]) (mi := mRange fEnumA [mSortSetA (mVar 2)]) (mk := mVar 7) (mv := mVar 4) (g := ⟨[some (.d d), some (.d (.lst (ND ks))), some (.own (.lst ((Wt.keys w ks).map keyD))), none, none, none, none, none], S⟩) (g0 := ⟨[some (.d d), some (.d (.lst (ND ks))), some (.own (.lst ((Wt.keys w ks).map keyD))), none, none, none, none, none], S⟩)
      (l := (Wt.sd Wt.leK (Wt.keys w ks)).zipIdx) (e := fun p => .tup [nD p.2, keyD p.1]) (k := fun p => keyD p.1) (v := fun p => nD p.2) (n := fun p => keyN p.1) ?_ ?_ (fun p _ => keyT_key p.1) ?_ fun p _ => ?_
    · exact this
    · have ss := sortSet_keys (l := Wt.keys w ks) (by rw [keys_len]; exact f.len)
      simp only [XX, ss, enum_lst, enum_map]
    · rw [List.length_zipIdx]
      exact Nat.le_of_lt (Nat.lt_of_lt_of_le hl line4)
    · rw [show (fun p : Wt.Key × Nat => keyN p.1) = keyN ∘ Prod.fst from rfl, ← List.map_map, List.zipIdx_map_fst]
      exact nodup_keys (Wt.nodup_sd _)
    · exact ⟨_, _, _, _, _, _, _, rfl, rfl, rfl, rfl, rfl, rfl, rfl⟩
  have k3 : mComp (mItems (mVar 2)) [7] (tName 7) (mYes) (mBin fIxA (mVar 6) (mVar 7)) ⟨[some (.d d), some (.d (.lst (ND ks))), some (.own (.lst ((Wt.keys w ks).map keyD))), none, none, none, some (.own (.tct ((Wt.sd Wt.leK (Wt.keys w ks)).zipIdx.map fun p => (keyD p.1, nD p.2)))), none], S⟩
      = .ok (.tmp (.lst (ND (Wt.next w ks)))) ⟨[some (.d d), some (.d (.lst (ND ks))), some (.d (.lst ((Wt.keys w ks).map keyD))), none, none, none, some (.own (.tct ((Wt.sd Wt.leK (Wt.keys w ks)).zipIdx.map fun p => (keyD p.1, nD p.2)))), none], S⟩ := by
    have := comp_l (vs := [7]) (t := tName 7) (mi := mItems (mVar 2)) (me := mBin fIxA (mVar 6) (mVar 7)) (g := ⟨[some (.d d), some (.d (.lst (ND ks))), some (.own (.lst ((Wt.keys w ks).map keyD))), none, none, none, some (.own (.tct ((Wt.sd Wt.leK (Wt.keys w ks)).zipIdx.map fun p => (keyD p.1, nD p.2)))), none], S⟩)
      (g0 := ⟨[some (.d d), some (.d (.lst (ND ks))), some (.d (.lst ((Wt.keys w ks).map keyD))), none, none, none, some (.own (.tct ((Wt.sd Wt.leK (Wt.keys w ks)).zipIdx.map fun p => (keyD p.1, nD p.2)))), none], S⟩)
      (l := Wt.keys w ks) (e := keyD) (f := fun k => nD (Wt.idx Wt.leK (Wt.keys w ks) k)) (by simp only [XX, items]) (by rw [keys_len]; exact Nat.le_of_lt (Nat.lt_of_lt_of_le f.len line4)) fun k hk' => ?_
    · rw [this]
      simp only [XX, ND, Wt.next, List.map_map, Function.comp_def]
    · have fx := ix_places (l := Wt.sd Wt.leK (Wt.keys w ks)) (Wt.mem_sd.mpr hk')
      refine ⟨⟨[some (.d d), some (.d (.lst (ND ks))), some (.d (.lst ((Wt.keys w ks).map keyD))), none, none, none, some (.own (.tct ((Wt.sd Wt.leK (Wt.keys w ks)).zipIdx.map fun p => (keyD p.1, nD p.2)))), some (.d (keyD k))], S⟩, rfl, ?_⟩
      simp only [XX, RI, look_keyD, fx]
      exact ⟨trivial, rfl, trivial⟩
  simp only [m_next_round, fnM, b_next_round, env0_8_2, XX, k1 none none none, k2, k3]
end Lib

set_option Elab.async false
set_option linter.all false
set_option maxRecDepth 100000
set_option maxHeartbeats 2000000
/-! the law's own next round -/
namespace Lib
open PySem PySem.Spec PyProof.Rows L2 Mx NSet
end Lib

set_option Elab.async false
set_option linter.all false
set_option maxRecDepth 100000
set_option maxHeartbeats 2000000
/-! the rounds, till none parts any more -/
namespace Lib
open PySem PySem.Spec PyProof.Rows L2 Mx NSet
theorem fits_ND (l : List Nat) : ∀ n, fitsA n (ND l) = true := by
  intro n
  induction l with
  | nil => rfl
  | cons a l ih =>
    show (fits n (nD a) && fitsA n (ND l)) = true
    rw [ih]
    cases n <;> rfl
theorem eq_ND : ∀ a b : List Nat, eqA (ND a) (ND b) = decide (a = b)
  | [], [] => rfl
  | [], _ :: _ => rfl
  | _ :: _, [] => rfl
  | x :: a, y :: b => by
    show (((x : Int) == (y : Int)) && eqA (ND a) (ND b)) = _
    rw [eq_ND a b]
    by_cases h : x = y
    · subst h; simp
    · have : ((x : Int) == (y : Int)) = false := by simp only [beq_eq_false_iff_ne, ne_eq]; omega
      rw [this]
      simp [h]
theorem f_eqND (ng : Bool) (a b : List Nat) : fEq ng (.lst (ND a)) (.lst (ND b)) = some (.d (.bl (if ng then !decide (a = b) else decide (a = b)))) := by
  unfold fEq
  rw [show fits 64 (.lst (ND a)) = true from fits_ND a 63, show fits 64 (.lst (ND b)) = true from fits_ND b 63]
  simp only [Bool.and_self, if_true, eqD, eq_ND]
theorem f_neND (a b : List Nat) : fEq true (.lst (ND a)) (.lst (ND b)) = some (.d (.bl (!decide (a = b)))) := f_eqND true a b
theorem zeros (w : Wt.Web) (h : w.length < 4096) : fMul (.lst [.int 0]) (nD w.length) = some (.new (.lst (ND (Wt.rnd w 0)))) := by
  have e := line4
  have c : ((w.length : Int).natAbs < 2 ^ 63 ∧ [D.int 0].length * (w.length : Int).toNat ≤ sizeLine) := ⟨by omega, by simp only [List.length_cons, List.length_nil, Int.toNat_natCast]; omega⟩
  simp only [fMul, nD, c, and_self, if_true]
  simp [Wt.rnd, ND, nD]
theorem bin_run {F : D → D → Option RN} {ma mb : ST RV} {g ga gb : Sg} {a b : RV} {x y : D} {r : RN} (ha : ma g = .ok a ga) (hb : mb ga = .ok b gb) (pa : peek (frz a) gb = some x) (pb : peek (frz b) gb = some y) (h : F x y = some r) : mBin F ma mb g = .ok r.rv gb := by
  rw [x_bin, ha, bind_ok, hb, bind_ok, x_pk2, pa, pb]
  simp only [h, x_opts]
theorem zeros_run {w : Wt.Web} {d : D} (hd : Szd w d) (fn : w.length < 4096) (E : List (Option SD)) (S : List C) : mBin fMul (mLst [mD (.int 0)]) (mAps fLenA [mVar 0]) ⟨some (.d d) :: E, S⟩ = .ok (.tmp (.lst (ND (Wt.rnd w 0)))) ⟨some (.d d) :: E, S⟩ := by
  have e1 : (1 : Nat) ≤ sizeLine := by decide
  refine bin_run (a := .tmp (.lst [.int 0])) (ga := ⟨some (.d d) :: E, S⟩) (b := .d (nD w.length)) (r := .new (.lst (ND (Wt.rnd w 0)))) ?_ ?_ rfl rfl (zeros w fn)
  · simp only [XX, Nat.zero_add, e1]
  · simp only [XX, hd.look, hd.len]
theorem rnd_len4 {w : Wt.Web} {r : Nat} : (Wt.rnd w r).length = w.length := Wt.rnd_len w r
theorem env0_3_1' (a : D) : env0 3 [a] = [some (.d a), none, none] := rfl
theorem last_round_ok {w : Wt.Web} (f : Fit w) {d : D} (hd : IsW w d) (S : List C) : m_last_round [d] S = .ok (.d (.lst (ND (Wt.fin w)))) S := by
  have key : FI (m_last_round [d] S) fun r S' => r = .d (.lst (ND (Wt.fin w))) ∧ S' = S := by
    refine FI.fnM ?_
    rw [env0_3_1', b_last_round]
    have fn := f.len
    refine SI.seq_eq (g' := ⟨[some (.d d), some (.own (.lst (ND (Wt.rnd w 0)))), none], S⟩) ?_ ?_
    · rw [x_set, zeros_run hd.szd fn [none, none] S, R.to_ok]
      rfl
    refine SI.seq_eq (g' := ⟨[some (.d d), some (.d (.lst (ND (Wt.rnd w 0)))), some (.own (.lst (ND (Wt.rnd w 1))))], S⟩) ?_ ?_
    · simp only [XX, next_round_ok f (rnd_len4 (r := 0)) hd]
      rfl
    refine SI.seqx ?_
    refine SI.while_ (fun n g => ∃ r c, n + r = 10000 ∧ r ≤ w.length ∧ g = ⟨[some (.d d), some (.d (.lst (ND (Wt.rnd w r)))), c], S⟩ ∧ (c = some (.own (.lst (ND (Wt.rnd w (r + 1))))) ∨ c = some (.d (.lst (ND (Wt.rnd w (r + 1))))))) ⟨0, _, Nat.add_zero _, Nat.zero_le _, rfl, .inl rfl⟩ ?_ ?_
    · rintro n g ⟨r, c, hn, hr, rfl, hc⟩
      have t : RI (mTest (mBin (fEq true) (mVar 2) (mVar 1)) ⟨[some (.d d), some (.d (.lst (ND (Wt.rnd w r)))), c], S⟩) fun k g => k = !decide (Wt.rnd w (r + 1) = Wt.rnd w r) ∧ g = ⟨[some (.d d), some (.d (.lst (ND (Wt.rnd w r)))), c], S⟩ := by
        rcases hc with rfl | rfl <;> simp only [XX, look_ND, f_neND] <;> exact ⟨rfl, rfl⟩
      refine t.mono ?_
      rintro k g ⟨rfl, rfl⟩
      by_cases h : Wt.rnd w (r + 1) = Wt.rnd w r
      · simp only [h, decide_true, Bool.not_true, Bool.false_eq_true, if_false]
        have := Wt.fin_stable h
        simp only [XX]
        exact ⟨by rw [this], rfl⟩
      · simp only [h, decide_false, Bool.not_false, if_true]
        have lt : r < w.length := by
          rcases Nat.lt_or_ge r w.length with z | z
          · exact z
          · exact absurd ((Wt.fin_le (Nat.le_succ_of_le z)).trans (Wt.fin_le z).symm) h
        refine ⟨n - 1, by omega, ?_⟩
        have nr := next_round_ok f (rnd_len4 (r := r + 1)) hd S
        rcases hc with rfl | rfl <;> simp only [XX, nr] <;> exact ⟨r + 1, _, by omega, lt, rfl, .inr rfl⟩
    · rintro n g ⟨r, c, hn, hr, _⟩
      omega
  obtain ⟨r, S', e, rfl, rfl⟩ := key.of
  exact e
end Lib

set_option Elab.async false
set_option linter.all false
set_option maxRecDepth 100000
set_option maxHeartbeats 2000000
/-! the law's own kinds; all rounds -/
namespace Lib
open PySem PySem.Spec PyProof.Rows L2 Mx NSet
theorem rng1_nD (n : Nat) (h : n < 4096) : rng1 [nD n] = some (rng 0 n) := by
  have e : (n : Int).natAbs < 2 ^ 62 := by omega
  simp only [rng1, nD, e, if_true, Int.toNat_natCast]
theorem range_run {f : List D → Option (List D)} {ms : List (ST RV)} {g g' : Sg} {xs ys : List D} (h : argsD ms g = .ok xs g') (e : f xs = some ys) : mRange f ms g = .ok ys g' := by
  rw [x_range, h, bind_ok, e]
end Lib

set_option Elab.async false
set_option linter.all false
set_option maxRecDepth 100000
set_option maxHeartbeats 1000000
/-! what is a web; ranks and round_of -/
namespace Lib
open PySem PySem.Spec PyProof.Rows L2 Mx NSet
theorem env0_1_1 (a : D) : env0 1 [a] = [some (.d a)] := rfl
theorem isB_ii : isB "int" "int" = true := by decide
theorem isB_ib : isB "int" "bool" = false := by decide
theorem isB_tt : isB "tuple" "tuple" = true := by decide
theorem is_whole_int (i : Int) (S : List C) : m_is_whole [.int i] S = .ok (.d (.bl true)) S := by
  have t : tyN (.int i) = some "int" := rfl
  simp only [m_is_whole, fnM, b_is_whole, env0_1_1, XX, f_isi t c_int, f_isi t c_bool, isB_ii, isB_ib]
theorem is_whole_nD (n : Nat) (S : List C) : m_is_whole [nD n] S = .ok (.d (.bl true)) S := is_whole_int n S
theorem le0 (n : Nat) : fLe (.int 0) (nD n) = some (.d (.bl true)) := by
  have : (0 : Int) ≤ (n : Int) := by omega
  rw [nD, f_leI, decide_eq_true this]
theorem ltN {n m : Nat} (h : n < m) : fLt (nD n) (nD m) = some (.d (.bl true)) := by
  have : (n : Int) < (m : Int) := by omega
  rw [nD, nD, f_ltI, decide_eq_true this]
theorem leN1 {n : Nat} (h : 1 ≤ n) : fLe (.int 1) (nD n) = some (.d (.bl true)) := by
  have : (1 : Int) ≤ (n : Int) := by omega
  rw [nD, f_leI, decide_eq_true this]
theorem le512 {n : Nat} (h : n ≤ 512) : fLe (nD n) (.int 512) = some (.d (.bl true)) := by
  have : (n : Int) ≤ (512 : Int) := by omega
  rw [nD, f_leI, decide_eq_true this]
theorem all_true {α : Type} (l : List α) : fAll [.lst (l.map fun _ => D.bl true)] = some (.d (.bl true)) := by
  rw [f_allL (fun _ => true)]
  simp
theorem is_row_ok (r : List Nat) (n : Nat) (h : r.length ≤ sizeLine) (hr : ∀ x ∈ r, x < n) (S : List C) : m_is_row [rowD r, nD n] S = .ok (.d (.bl true)) S := by
  have t : tyN (rowD r) = some "tuple" := rfl
  have cm := comp_l (vs := [2]) (t := tName 2) (mi := mItems (mVar 0)) (me := mAndV (mCall (m_is_whole) [mVar 2]) (mChain fLe fLt (mD (.int 0)) (mVar 2) (mVar 1))) (g := ⟨[some (.d (rowD r)), some (.d (nD n)), none], S⟩) (g0 := ⟨[some (.d (rowD r)), some (.d (nD n)), none], S⟩)
    (l := r) (e := nD) (f := fun _ => D.bl true) (by simp only [XX, items_row]; rfl) h fun x hx => ?_
  · simp only [m_is_row, fnM, b_is_row, env0_3_2, XX, look_rowD, f_isi t c_tuple, isB_tt, cm, all_true]
  · refine ⟨⟨[some (.d (rowD r)), some (.d (nD n)), some (.d (nD x))], S⟩, rfl, ?_⟩
    simp only [XX, RI, is_whole_nD, look_nD, le0, ltN (hr x hx)]
    exact ⟨trivial, trivial, trivial⟩
theorem IsW.isi {w : Wt.Web} {d : D} (h : IsW w d) : fIsi [d, .tup [.ty "tuple", .ty "list"]] = some (.d (.bl true)) := by rcases h with rfl | rfl <;> rfl
theorem IsW.items {w : Wt.Web} {d : D} (h : IsW w d) : Mx.items d = some (rowsD w) := by rcases h with rfl | rfl <;> rfl
theorem is_web_ok {w : Wt.Web} (f : Fit w) (h1 : 1 ≤ w.length) (h2 : w.length ≤ 512) {d : D} (hd : IsW w d) (S : List C) : m_is_web [d] S = .ok (.d (.bl true)) S := by
  have v5 : v_MOST_WEB = .int 512 := rfl
  have e2 : (2 : Nat) ≤ sizeLine := by decide
  have e4 := line4
  have cm := comp_l (vs := [1]) (t := tName 1) (mi := mItems (mVar 0)) (me := mCall (m_is_row) [mVar 1, mAps fLenA [mVar 0]]) (g := ⟨[some (.d d), none], S⟩) (g0 := ⟨[some (.d d), none], S⟩)
    (l := w) (e := rowD) (f := fun _ => D.bl true) (by simp only [XX, hd.items]; rfl) (by have := f.len; omega) fun r hr => ?_
  · simp only [m_is_web, fnM, b_is_web, env0_2_1, XX, hd.look, Nat.zero_add, Nat.reduceAdd, e2, hd.isi, hd.len, look_nD, v5, leN1 h1, le512 h2, cm, all_true]
  · refine ⟨⟨[some (.d d), some (.d (rowD r))], S⟩, rfl, ?_⟩
    have rl : r.length ≤ sizeLine := by
      obtain ⟨a, ha, rfl⟩ := List.getElem_of_mem hr
      have := f.row a
      rw [Wt.row_get ha] at this
      omega
    simp only [XX, RI, look_rowD, hd.look, hd.len, look_nD, is_row_ok r w.length rl (fun x hx => f.ok r hr x hx)]
    exact ⟨trivial, trivial, trivial⟩
structure IsWeb (w : Wt.Web) (d : D) : Prop extends Fit w where
  one : 1 ≤ w.length
  most : w.length ≤ 512
  is : IsW w d
theorem need_web_ok {w : Wt.Web} {d : D} (h : IsWeb w d) (S : List C) : m_need_web [d] S = .ok (.d .non) S := by
  simp only [m_need_web, fnM, b_need_web, env0_1_1, XX, is_web_ok h.toFit h.one h.most h.is]
theorem need_row_ok {w : Wt.Web} {d : D} (h : IsWeb w d) {a : Nat} (ha : a < w.length) (S : List C) : m_need_row [d, nD a] S = .ok (.d .non) S := by
  simp only [m_need_row, fnM, b_need_row, env0_2_2, XX, h.is.look, is_whole_nD, look_nD, le0, h.is.len, ltN ha]
end Lib

set_option Elab.async false
set_option linter.all false
set_option maxRecDepth 100000
set_option maxHeartbeats 1000000
/-! the rows that a row comes to -/
namespace Lib
open PySem PySem.Spec PyProof.Rows L2 Mx NSet
def fdD (F : List Nat) : List (D × D) := F.map fun n => (nD n, .bl true)
theorem kEq_nD (a b : Nat) : kEq (nD a) (nD b) = decide (a = b) := by
  show decide ((a : Int) = (b : Int)) = _
  by_cases h : a = b
  · subst h; simp
  · have : ¬ (a : Int) = (b : Int) := by omega
    simp [h, this]
theorem look_fd (y : Nat) : ∀ F : List Nat, (lookD (nD y) (fdD F)).isSome = decide (y ∈ F)
  | [] => rfl
  | x :: F => by
    have ih := look_fd y F
    simp only [fdD] at ih
    simp only [fdD, List.map_cons, lookD, kEq_nD, decide_eq_true_eq]
    by_cases h : x = y
    · subst h; simp
    · have h' : ¬ y = x := fun z => h z.symm
      rw [if_neg h, ih]
      simp [h']
theorem in_fd (y : Nat) (F : List Nat) : fInA true (nD y) (.dct (fdD F)) = some (.d (.bl (!decide (y ∈ F)))) := by
  show (if isKey (nD y) = true then some (RN.d (.bl (if true = true then !(lookD (nD y) (fdD F)).isSome else _))) else none) = _
  rw [look_fd]
  rfl
theorem put_fd {y : Nat} {F : List Nat} (h : y ∉ F) (hl : F.length < sizeLine) : fSetA (.dct (fdD F)) (nD y) (.bl true) = some (.dct (fdD (F ++ [y]))) := by
  show (if isKey (nD y) = true ∧ (fdD F).length < sizeLine then some (C.dct (putD (fdD F) (nD y) (.bl true))) else none) = _
  rw [if_pos ⟨rfl, by simpa [fdD] using hl⟩]
  have na : (fdD F).any (fun p => kEq p.1 (nD y)) = false := by
    rw [List.any_eq_false]
    intro p hp
    obtain ⟨n, hn, rfl⟩ := List.mem_map.mp hp
    simp only [kEq_nD, decide_eq_true_eq]
    intro z
    exact h (z ▸ hn)
  unfold putD
  rw [na, if_neg (by simp)]
  simp [fdD]
theorem keys_fd : ∀ F : List Nat, keysI (fdD F) = some (F.map fun n : Nat => (n : Int))
  | [] => rfl
  | x :: F => by
    have ih := keys_fd F
    show (keysI (fdD F)).map _ = _
    rw [ih]
    rfl
theorem pop_ND (W : List Nat) (p : Nat) : fPop (.lst (ND (W ++ [p]))) [] = some (nD p, .lst (ND W)) := by
  simp [fPop, ND]
structure Seen (w : Wt.Web) (a : Nat) (F W : List Nat) (q : Nat → Prop) : Prop where
  nd : F.Nodup
  wnd : W.Nodup
  re : ∀ x ∈ F, Wt.Reach w a x
  at_ : a ∈ F
  sub : ∀ x ∈ W, x ∈ F
  cl : ∀ x ∈ F, x ∉ W → ¬ q x → ∀ y ∈ Wt.row w x, y ∈ F
theorem Seen.le {w : Wt.Web} {a : Nat} {F W : List Nat} {q : Nat → Prop} (s : Seen w a F W q) (ok : Wt.Ok w) (h : a < w.length) : F.length ≤ w.length := by
  have := s.nd.length_le_of_subset (l₂ := List.range w.length) fun x hx => List.mem_range.mpr ((s.re x hx).lt ok h)
  rwa [List.length_range] at this
theorem Seen.done {w : Wt.Web} {a : Nat} {F : List Nat} (s : Seen w a F [] fun _ => False) (x : Nat) : x ∈ F ↔ Wt.Reach w a x := by
  refine ⟨s.re x, fun p => ?_⟩
  induction p with
  | base => exact s.at_
  | step _ hy ih => exact s.cl _ ih (by simp) id _ hy
theorem come_sorted {w : Wt.Web} (ok : Wt.Ok w) {a : Nat} (h : a < w.length) {F : List Nat} (nd : F.Nodup) (m : ∀ x, x ∈ F ↔ Wt.Reach w a x) : sortI (F.map fun n : Nat => (n : Int)) = (Wt.come w a).map fun n : Nat => (n : Int) := by
  refine (lt_unique ?_ (fun k => ?_) ?_).symm
  · rw [List.pairwise_map]
    exact (Wt.come_pw w a).imp fun h => by omega
  · simp only [List.mem_map, m, (Wt.come_lists ok h).mem]
  · rw [List.nodup_iff_pairwise_ne] at *
    rw [List.pairwise_map]
    exact nd.imp fun ne e => ne (Int.ofNat.inj e)
theorem disp_at (a : Nat) (E : List (Option SD)) (x : Option SD) (S : List C) : mDisp [(mVar 1, mD (.bl true))] ⟨x :: some (.d (nD a)) :: E, S⟩ = .ok (.tmp (.dct (fdD [a]))) ⟨x :: some (.d (nD a)) :: E, S⟩ := by
  simp only [XX]
  rfl
theorem come_to_ok {w : Wt.Web} (f : Fit w) {a : Nat} (ha : a < w.length) {d : D} (hd : IsW w d) (S : List C) : m_come_to [d, nD a] S = .ok (.new (.lst (ND (Wt.come w a)))) S := by
  have key : FI (m_come_to [d, nD a] S) fun r S' => r = .new (.lst (ND (Wt.come w a))) ∧ S' = S := by
    refine FI.fnM ?_
    have fn := f.len
    have e4 := line4
    rw [show env0 5 [d, nD a] = [some (.d d), some (.d (nD a)), none, none, none] from rfl, b_come_to]
    refine SI.seq_eq (g' := ⟨[some (.d d), some (.d (nD a)), some (.own (.dct (fdD [a]))), none, none], S⟩) ?_ ?_
    · rw [x_set, disp_at, R.to_ok]
      rfl
    refine SI.seq_eq (g' := ⟨[some (.d d), some (.d (nD a)), some (.own (.dct (fdD [a]))), some (.own (.lst (ND [a]))), none], S⟩) ?_ ?_
    · have e1 : (1 : Nat) ≤ sizeLine := by decide
      simp only [XX, Nat.zero_add, e1]
      rfl
    refine SI.seqx ?_
    refine SI.while_ (fun n g => ∃ F W c, W.length + (w.length - F.length) < n ∧ Seen w a F W (fun _ => False) ∧ g = ⟨[some (.d d), some (.d (nD a)), some (.own (.dct (fdD F))), some (.own (.lst (ND W))), c], S⟩) ⟨[a], [a], _, by simp only [List.length_cons, List.length_nil]; omega, ?_, rfl⟩ ?_ ?_
    · exact ⟨by simp, by simp, fun x hx => by rw [List.mem_singleton] at hx; subst hx; exact .base, by simp, fun x hx => hx, fun x hx nx => absurd hx nx⟩
    · rintro n g ⟨F, W, c, hn, s, rfl⟩
      have t : mTest (mBin (fEq true) (mVar 3) (mLst [])) ⟨[some (.d d), some (.d (nD a)), some (.own (.dct (fdD F))), some (.own (.lst (ND W))), c], S⟩ = .ok (!decide (W = [])) ⟨[some (.d d), some (.d (nD a)), some (.own (.dct (fdD F))), some (.own (.lst (ND W))), c], S⟩ := by
        have e0 : (0 : Nat) ≤ sizeLine := Nat.zero_le _
        have ne : fEq true (.lst (ND W)) (.lst []) = some (.d (.bl (!decide (W = [])))) := f_neND W []
        simp only [XX, e0, look_ND, ne]
      rw [t]
      rcases List.eq_nil_or_concat W with rfl | ⟨W, p, rfl⟩
      · simp only [decide_true, Bool.not_true, RI, Bool.false_eq_true, if_false]
        have m := s.done
        simp only [XX, fSorted, keys_fd, come_sorted f.ok ha s.nd m, ← ND_cast]
        exact ⟨rfl, rfl⟩
      · have ne : ¬ (W ++ [p] = []) := by simp
        rw [List.concat_eq_append] at *
        simp only [ne, decide_false, Bool.not_false, RI, if_true]
        refine ⟨n - 1, by omega, ?_⟩
        have hp : p ∈ F := s.sub p (by simp)
        have pl : p < w.length := (s.re p hp).lt f.ok ha
        have hi : mItems (mBin fIxA (mVar 0) (mMut fPop (mVar 3) [])) ⟨[some (.d d), some (.d (nD a)), some (.own (.dct (fdD F))), some (.own (.lst (ND (W ++ [p])))), c], S⟩ = .ok (ND (Wt.row w p)) ⟨[some (.d d), some (.d (nD a)), some (.own (.dct (fdD F))), some (.own (.lst (ND W))), c], S⟩ := by
          simp only [XX, pop_ND, hd.look, look_nD, ix_rows pl d hd, items_row]
        rw [x_for, hi, R.to_ok]
        simp only [List.length_append, List.length_cons, List.length_nil] at hn
        refine SI.for_ (fun rest g => ∃ l F W c, rest = ND l ∧ (∀ y ∈ l, y ∈ Wt.row w p) ∧ (∀ y ∈ Wt.row w p, y ∈ F ∨ y ∈ l) ∧ p ∈ F ∧ W.length + (w.length - F.length) < n - 1 ∧ Seen w a F W (fun x => x = p) ∧ g = ⟨[some (.d d), some (.d (nD a)), some (.own (.dct (fdD F))), some (.own (.lst (ND W))), c], S⟩)
          ⟨Wt.row w p, F, W, _, rfl, fun _ h => h, fun _ h => .inr h, hp, by omega, ⟨s.nd, (List.nodup_append.mp s.wnd).1, s.re, s.at_, fun x hx => s.sub x (List.mem_append_left _ hx), fun x hx nx np => s.cl x hx (fun z => by
            rcases List.mem_append.mp z with z | z
            · exact nx z
            · exact np (List.mem_singleton.mp z)) id⟩, rfl⟩ ?_ ?_
        · rintro x xs g ⟨l, F, W, c, hl, lr, all, hp, hn, s, rfl⟩
          cases l with
          | nil => cases hl
          | cons y l =>
            cases hl
            refine ⟨_, rfl, ?_⟩
            have yr := lr y List.mem_cons_self
            by_cases hy : y ∈ F
            · simp only [XX, look_nD, in_fd, hy, decide_true]
              exact ⟨l, F, W, _, rfl, fun z hz => lr z (List.mem_cons_of_mem _ hz), fun z hz => by
                rcases all z hz with q | q
                · exact .inl q
                · rcases List.mem_cons.mp q with q | q
                  · exact .inl (q ▸ hy)
                  · exact .inr q, hp, hn, s, rfl⟩
            · have le := s.le f.ok ha
              have s' : Seen w a (F ++ [y]) (W ++ [y]) (fun x => x = p) := by
                refine ⟨?_, List.nodup_append.mpr ⟨s.wnd, by simp, fun x hx z hz e => ?_⟩, fun x hx => ?_, List.mem_append_left _ s.at_, fun x hx => ?_, fun x hx nx np z hz => ?_⟩
                · refine List.nodup_append.mpr ⟨s.nd, by simp, fun x hx z hz e => ?_⟩
                  rw [List.mem_singleton] at hz
                  exact hy (hz ▸ e ▸ hx)
                · rw [List.mem_singleton] at hz
                  exact hy (hz ▸ e ▸ s.sub x hx)
                · rcases List.mem_append.mp hx with q | q
                  · exact s.re x q
                  · rw [List.mem_singleton] at q
                    subst q
                    exact .step (s.re p hp) yr
                · rcases List.mem_append.mp hx with q | q
                  · exact List.mem_append_left _ (s.sub x q)
                  · exact List.mem_append_right _ q
                · rcases List.mem_append.mp hx with q | q
                  · exact List.mem_append_left _ (s.cl x q (fun u => nx (List.mem_append_left _ u)) np z hz)
                  · exact absurd (List.mem_append_right _ q) nx
              have le' := s'.le f.ok ha
              simp only [List.length_append, List.length_cons, List.length_nil] at le'
              have Wl : (ND W).length < sizeLine := by
                have := s.wnd.length_le_of_subset (l₂ := F) s.sub
                rw [ND_len]
                omega
              simp only [XX, look_nD, in_fd, hy, decide_false, put_fd hy (by omega : F.length < sizeLine), fAppend, Wl]
              refine ⟨l, F ++ [y], W ++ [y], some (.d (nD y)), rfl, fun z hz => lr z (List.mem_cons_of_mem _ hz), fun z hz => ?_, List.mem_append_left _ hp, ?_, s', ?_⟩
              · rcases all z hz with q | q
                · exact .inl (List.mem_append_left _ q)
                · rcases List.mem_cons.mp q with q | q
                  · exact .inl (List.mem_append_right _ (List.mem_singleton.mpr q))
                  · exact .inr q
              · simp only [List.length_append, List.length_cons, List.length_nil]
                omega
              · simp [ND]
        · rintro g ⟨l, F, W, c, hl, _, all, hp, hn, s, rfl⟩
          cases l with
          | cons => cases hl
          | nil =>
            refine ⟨F, W, _, hn, ⟨s.nd, s.wnd, s.re, s.at_, s.sub, fun x hx nx _ y hy => ?_⟩, rfl⟩
            by_cases c : x = p
            · subst c
              rcases all y hy with q | q
              · exact q
              · cases q
            · exact s.cl x hx nx c y hy
    · rintro n g ⟨F, W, c, hn, _⟩
      omega
  obtain ⟨r, S', e, rfl, rfl⟩ := key.of
  exact e
end Lib

set_option Elab.async false
set_option linter.all false
set_option maxRecDepth 100000
set_option maxHeartbeats 1000000
/-! the picture of a row -/
namespace Lib
open PySem PySem.Spec PyProof.Rows L2 Mx NSet
def plN (L : List Nat) : List (D × D) := L.zipIdx.map fun p => (nD p.1, nD p.2)
theorem look_plN {y : Nat} : ∀ {L : List Nat} {n : Nat}, y ∈ L → lookD (nD y) ((L.zipIdx n).map fun p => (nD p.1, nD p.2)) = some (nD (n + L.idxOf y))
  | x :: L, n, h => by
    simp only [List.zipIdx_cons, List.map_cons, lookD, kEq_nD, decide_eq_true_eq]
    by_cases e : x = y
    · subst e; simp
    · rw [if_neg e]
      rcases List.mem_cons.mp h with z | z
      · exact absurd z.symm e
      · rw [look_plN (n := n + 1) z, List.idxOf_cons, beq_eq_false_iff_ne.mpr e, Nat.add_assoc, Nat.add_comm 1]
        rfl
theorem isKey_nD (n : Nat) : isKey (nD n) = true := rfl
theorem ix_plN {y : Nat} {L : List Nat} (h : y ∈ L) : fIxA (.dct (plN L)) (nD y) = some (.d (nD (L.idxOf y))) := by
  show (if isKey (nD y) = true then (lookD (nD y) (plN L)).map RN.d else none) = _
  rw [if_pos (isKey_nD y), plN, look_plN h, Nat.zero_add]
  rfl
theorem look_rows (w : Wt.Web) (g : Sg) : look (.lst (rowsD w)) g = some (.lst (rowsD w)) := rfl
theorem enum_ND (l : List Nat) : enumD 0 (ND l) = l.zipIdx.map fun p => .tup [nD p.2, nD p.1] := enum_map nD l 0
theorem enum_kinds (l : List Nat) : enumD 0 (ND l) = (List.range l.length).map fun i => .tup [nD i, nD (Wt.at_ l i)] := by
  rw [enum_ND]
  apply List.ext_getElem
  · simp
  · intro i h1 h2
    have h : i < l.length := by simpa using h1
    simp [Wt.at_, h]
/-- the largest -/
theorem maxL_le : ∀ {l : List Int} {m : Int}, l ≠ [] → (∀ x ∈ l, x ≤ m) → m ∈ l → maxL l = m
  | [], _, h, _, _ => absurd rfl h
  | [a], m, _, _, hm => by
    rw [List.mem_singleton] at hm
    exact hm.symm
  | a :: b :: r, m, _, h, hm => by
    show max a (maxL (b :: r)) = m
    have ha := h a List.mem_cons_self
    by_cases c : m ∈ b :: r
    · rw [maxL_le (by simp) (fun x hx => h x (List.mem_cons_of_mem _ hx)) c]
      omega
    · have e : m = a := by
        rcases List.mem_cons.mp hm with z | z
        · exact z
        · exact absurd z c
      subst e
      have : ∀ {l : List Int}, l ≠ [] → (∀ x ∈ l, x ≤ m) → maxL l ≤ m := by
        intro l
        induction l with
        | nil => intro h; exact absurd rfl h
        | cons x l ih =>
          intro _ h
          cases l with
          | nil => exact h x List.mem_cons_self
          | cons y l =>
            show max x (maxL (y :: l)) ≤ m
            have h1 := h x List.mem_cons_self
            have h2 := ih (by simp) fun z hz => h z (List.mem_cons_of_mem _ hz)
            omega
      have := this (l := b :: r) (by simp) fun x hx => h x (List.mem_cons_of_mem _ hx)
      omega
theorem max_fin {v : Wt.Web} (h : 1 ≤ v.length) : fMax [.lst (ND (Wt.fin v))] = some (.d (.int ((Wt.size v : Int) - 1))) := by
  have sp := Wt.size_pos (w := v) (by omega)
  have ne : (Wt.fin v).map (fun n : Nat => (n : Int)) ≠ [] := by
    intro z
    have := congrArg List.length z
    rw [List.length_map, Wt.fin_len] at this
    simp only [List.length_nil] at this
    omega
  have mx : maxL ((Wt.fin v).map fun n : Nat => (n : Int)) = (Wt.size v : Int) - 1 := by
    refine maxL_le ne (fun x hx => ?_) ?_
    · obtain ⟨n, hn, rfl⟩ := List.mem_map.mp hx
      have := Wt.mem_fin.mp hn
      show (n : Int) ≤ _
      omega
    · have := Wt.mem_fin (w := v) (k := Wt.size v - 1) |>.mpr (by omega)
      have z := List.mem_map_of_mem (f := fun n : Nat => (n : Int)) this
      have e : ((Wt.size v - 1 : Nat) : Int) = (Wt.size v : Int) - 1 := by omega
      rwa [e] at z
  show (intsD (ND (Wt.fin v))).bind _ = _
  rw [intsD_ND, Option.bind_some, mx]
  have : ((Wt.fin v).map fun n : Nat => (n : Int)).isEmpty = false := by
    cases c : (Wt.fin v).map fun n : Nat => (n : Int) with
    | nil => exact absurd c ne
    | cons => rfl
  rw [this]
  rfl
theorem set_ND {X : List D} {k : Nat} (y : D) (h : k < X.length) : fSetL (.lst X) (nD k) y = some (.lst (X.set k y)) := by
  simp only [fSetL, nD, ixN_nat h, Option.map_some]
theorem fit_sub {w : Wt.Web} (f : Fit w) {a : Nat} {L : List Nat} (ls : Wt.Lists w a L) (hl : L.length < 4096) : Fit (Wt.sub w L) where
  ok := Wt.ok_sub ls
  len := by rw [Wt.sub_len]; exact hl
  row := fun i => by
    by_cases h : i < (Wt.sub w L).length
    · obtain ⟨b, hb, rfl⟩ := Wt.sub_idx ls.nd h
      rw [Wt.row_sub hb, List.length_map]
      exact f.row b
    · rw [Wt.row_out (by omega)]
      simp
def picD (p : Nat × Wt.Web) : D := .tup [nD p.1, .tup (rowsD p.2)]
theorem empties (n : Nat) (h : n < 4096) : fMul (.lst [.tup []]) (nD n) = some (.new (.lst (List.replicate n (.tup [])))) := by
  have e := line4
  have c : ((n : Int).natAbs < 2 ^ 63 ∧ [D.tup []].length * (n : Int).toNat ≤ sizeLine) := ⟨by omega, by simp only [List.length_cons, List.length_nil, Int.toNat_natCast]; omega⟩
  simp only [fMul, nD, c, and_self, if_true]
  simp
theorem env0_12_2 (a b : D) : env0 12 [a, b] = [some (.d a), some (.d b), none, none, none, none, none, none, none, none, none, none] := rfl
theorem inner_ok {w : Wt.Web} (f : Fit w) {a : Nat} {L : List Nat} (ls : Wt.Lists w a L) (ha : a < w.length) (hl : L.length < 4096) {d : D} (hd : IsW w d) (S : List C) :
    mComp (mItems (mVar 2)) [5] (tName 5) (mYes) (mAps fTuple [mComp (mItems (mBin fIxA (mVar 0) (mVar 5))) [7] (tName 7) (mYes) (mBin fIxA (mVar 3) (mVar 7))]) ⟨[some (.d d), some (.d (nD a)), some (.d (.lst (ND L))), some (.own (.dct (plN L))), none, none, none, none, none, none, none, none], S⟩
      = .ok (.tmp (.lst (rowsD (Wt.sub w L)))) ⟨[some (.d d), some (.d (nD a)), some (.d (.lst (ND L))), some (.own (.dct (plN L))), none, none, none, none, none, none, none, none], S⟩ := by
  have e4 := line4
  have := comp_l (vs := [5]) (t := tName 5) (mi := mItems (mVar 2)) (me := mAps fTuple [mComp (mItems (mBin fIxA (mVar 0) (mVar 5))) [7] (tName 7) (mYes) (mBin fIxA (mVar 3) (mVar 7))]) (g := ⟨[some (.d d), some (.d (nD a)), some (.d (.lst (ND L))), some (.own (.dct (plN L))), none, none, none, none, none, none, none, none], S⟩) (g0 := ⟨[some (.d d), some (.d (nD a)), some (.d (.lst (ND L))), some (.own (.dct (plN L))), none, none, none, none, none, none, none, none], S⟩)
    (l := L) (e := nD) (f := fun b => rowD ((Wt.row w b).map fun x => L.idxOf x)) (by simp only [XX, items_ND]; rfl) (by omega) fun b hb => ?_
  · rw [this]
    simp only [XX, rowsD, Wt.sub, List.map_map, Function.comp_def]
  · have bl : b < w.length := ((ls.mem b).mp hb).lt f.ok ha
    have c := comp_l (vs := [7]) (t := tName 7) (mi := mItems (mBin fIxA (mVar 0) (mVar 5))) (me := mBin fIxA (mVar 3) (mVar 7)) (g := ⟨[some (.d d), some (.d (nD a)), some (.d (.lst (ND L))), some (.own (.dct (plN L))), none, some (.d (nD b)), none, none, none, none, none, none], S⟩) (g0 := ⟨[some (.d d), some (.d (nD a)), some (.d (.lst (ND L))), some (.own (.dct (plN L))), none, some (.d (nD b)), none, none, none, none, none, none], S⟩)
      (l := Wt.row w b) (e := nD) (f := fun x => nD (L.idxOf x)) (by simp only [XX, hd.look, look_nD, ix_rows bl d hd, items_row]; rfl) (by have := f.row b; omega) fun x hx => ?_
    · have em : ((Wt.row w b).map fun x => nD (L.idxOf x)) = ND ((Wt.row w b).map fun x => L.idxOf x) := by simp [ND, Function.comp_def]
      rw [em] at c
      refine ⟨⟨[some (.d d), some (.d (nD a)), some (.d (.lst (ND L))), some (.own (.dct (plN L))), none, some (.d (nD b)), none, none, none, none, none, none], S⟩, rfl, ?_⟩
      simp only [XX, RI, c, fTuple]
      exact ⟨trivial, rfl, trivial⟩
    · have hx' : x ∈ L := (ls.mem x).mpr (.step ((ls.mem b).mp hb) hx)
      refine ⟨⟨[some (.d d), some (.d (nD a)), some (.d (.lst (ND L))), some (.own (.dct (plN L))), none, some (.d (nD b)), none, some (.d (nD x)), none, none, none, none], S⟩, rfl, ?_⟩
      simp only [XX, RI, look_nD, ix_plN hx']
      exact ⟨trivial, trivial, trivial⟩
theorem places_run {L : List Nat} (nd : L.Nodup) (hl : L.length < 4096) (d : D) (a : Nat) (S : List C) :
    mDictK (mRange fEnumA [mVar 2]) [4, 5] (tPair [4, 5]) (mYes) (mVar 5) (mVar 4) ⟨[some (.d d), some (.d (nD a)), some (.own (.lst (ND L))), none, none, none, none, none, none, none, none, none], S⟩
      = .ok (.tmp (.dct (plN L))) ⟨[some (.d d), some (.d (nD a)), some (.d (.lst (ND L))), none, none, none, none, none, none, none, none, none], S⟩ := by
  have e4 := line4
  have := dictK_l (vs := [4, 5]) (t := tPair [4, 5]) (mi := mRange fEnumA [mVar 2]) (mk := mVar 5) (mv := mVar 4) (g := ⟨[some (.d d), some (.d (nD a)), some (.own (.lst (ND L))), none, none, none, none, none, none, none, none, none], S⟩) (g0 := ⟨[some (.d d), some (.d (nD a)), some (.d (.lst (ND L))), none, none, none, none, none, none, none, none, none], S⟩)
    (l := L.zipIdx) (e := fun p => .tup [nD p.2, nD p.1]) (k := fun p => nD p.1) (v := fun p => nD p.2) (n := fun p => ((p.1 : Nat) : Int)) ?_ (by rw [List.length_zipIdx]; omega) (fun _ _ => rfl) ?_ fun p _ => ?_
  · exact this
  · simp only [XX, enum_lst, enum_ND]
  · rw [show (fun p : Nat × Nat => ((p.1 : Nat) : Int)) = (fun n : Nat => (n : Int)) ∘ Prod.fst from rfl, ← List.map_map, List.zipIdx_map_fst, List.nodup_iff_pairwise_ne, List.pairwise_map]
    rw [List.nodup_iff_pairwise_ne] at nd
    exact nd.imp fun ne e => ne (Int.ofNat.inj e)
  · exact ⟨_, _, _, _, _, _, _, rfl, rfl, rfl, rfl, rfl, rfl, rfl⟩
theorem pictured_run {w : Wt.Web} (f : Fit w) {a : Nat} (ha : a < w.length) {L : List Nat} (hL : Wt.come w a = L) (ls : Wt.Lists w a L) (cl : L.length < 4096) {v : Wt.Web} (hv : Wt.sub w L = v) (fv : Fit v) (v1 : 1 ≤ v.length) (ain : a ∈ L) (il : L.idxOf a < v.length) (h64 : Wt.size v ≤ 64) {d : D} (hd : IsW w d) (S : List C) :
    m_pictured [d, nD a] S = .ok (.d (picD (Wt.fk v (L.idxOf a), Wt.quo v))) S := by
  have e4 := line4
  have ki : fIxA (.lst (ND (Wt.fin v))) (nD (L.idxOf a)) = some (.d (nD (Wt.fk v (L.idxOf a)))) := ixA_ND (l := Wt.fin v) (i := L.idxOf a) (by rw [Wt.fin_len]; exact il)
  have inn := inner_ok f ls ha cl hd S
  rw [hv] at inn
  have lr := last_round_ok fv (.inl rfl) S
  have mx := max_fin v1
  have key : FI (m_pictured [d, nD a] S) fun r S' => r = .d (picD (Wt.fk v (L.idxOf a), Wt.quo v)) ∧ S' = S := by
    refine FI.fnM ?_
    rw [env0_12_2, b_pictured]
    have v8 : v_MOST_ROWS = .int 64 := rfl
    refine @SI.seq_eq _ _ _ _ _ _ _ ⟨[some (.d d), some (.d (nD a)), some (.own (.lst (ND L))), none, none, none, none, none, none, none, none, none], S⟩ ?_ ?_
    · have ct := come_to_ok f ha hd S
      rw [hL] at ct
      simp only [XX, ct]
    refine @SI.seq_eq _ _ _ _ _ _ _ ⟨[some (.d d), some (.d (nD a)), some (.d (.lst (ND L))), some (.own (.dct (plN L))), none, none, none, none, none, none, none, none], S⟩ ?_ ?_
    · rw [x_set, places_run ls.nd cl, R.to_ok]
      rfl
    refine @SI.seq_eq _ _ _ _ _ _ _ ⟨[some (.d d), some (.d (nD a)), some (.d (.lst (ND L))), some (.own (.dct (plN L))), none, none, some (.own (.lst (rowsD v))), none, none, none, none, none], S⟩ ?_ ?_
    · simp only [x_set, inn, R.to_ok, x_putt, List.set_cons_succ, List.set_cons_zero]
    refine @SI.seq_eq _ _ _ _ _ _ _ ⟨[some (.d d), some (.d (nD a)), some (.d (.lst (ND L))), some (.own (.dct (plN L))), none, none, some (.d (.lst (rowsD v))), none, some (.d (.lst (ND (Wt.fin v)))), none, none, none], S⟩ ?_ ?_
    · show ((ofF (m_last_round [.lst (rowsD v)] S) ⟨[some (.d d), some (.d (nD a)), some (.d (.lst (ND L))), some (.own (.dct (plN L))), none, none, some (.d (.lst (rowsD v))), none, none, none, none, none], S⟩).to (put 8)) = _
      rw [lr]
      rfl
    refine @SI.seq_eq _ _ _ _ _ _ _ ⟨[some (.d d), some (.d (nD a)), some (.d (.lst (ND L))), some (.own (.dct (plN L))), none, none, some (.d (.lst (rowsD v))), none, some (.d (.lst (ND (Wt.fin v)))), some (.d (nD (Wt.size v))), none, none], S⟩ ?_ ?_
    · have e : (Wt.size v : Int) - 1 + 1 = Wt.size v := by omega
      simp only [XX, look_ND, mx, f_addI, e]
      rfl
    refine @SI.seq_eq _ _ _ _ _ _ _ ⟨[some (.d d), some (.d (nD a)), some (.d (.lst (ND L))), some (.own (.dct (plN L))), none, none, some (.d (.lst (rowsD v))), none, some (.d (.lst (ND (Wt.fin v)))), some (.d (nD (Wt.size v))), none, none], S⟩ ?_ ?_
    · have gt : fGt (nD (Wt.size v)) (.int 64) = some (.d (.bl false)) := by
        have : ¬ (64 : Int) < (Wt.size v : Int) := by omega
        rw [nD, f_gtI, decide_eq_false this]
      simp only [XX, look_nD, v8, gt]
    refine @SI.seq_eq _ _ _ _ _ _ _ ⟨[some (.d d), some (.d (nD a)), some (.d (.lst (ND L))), some (.own (.dct (plN L))), none, none, some (.d (.lst (rowsD v))), none, some (.d (.lst (ND (Wt.fin v)))), some (.d (nD (Wt.size v))), some (.own (.lst (List.replicate (Wt.size v) (.tup [])))), none], S⟩ ?_ ?_
    · have mr : mBin fMul (mLst [mTup []]) (mVar 9) ⟨[some (.d d), some (.d (nD a)), some (.d (.lst (ND L))), some (.own (.dct (plN L))), none, none, some (.d (.lst (rowsD v))), none, some (.d (.lst (ND (Wt.fin v)))), some (.d (nD (Wt.size v))), none, none], S⟩ = .ok (.tmp (.lst (List.replicate (Wt.size v) (.tup [])))) ⟨[some (.d d), some (.d (nD a)), some (.d (.lst (ND L))), some (.own (.dct (plN L))), none, none, some (.d (.lst (rowsD v))), none, some (.d (.lst (ND (Wt.fin v)))), some (.d (nD (Wt.size v))), none, none], S⟩ := by
        have e1 : (1 : Nat) ≤ sizeLine := by decide
        have e0 : (0 : Nat) ≤ sizeLine := Nat.zero_le _
        refine bin_run (ga := ⟨[some (.d d), some (.d (nD a)), some (.d (.lst (ND L))), some (.own (.dct (plN L))), none, none, some (.d (.lst (rowsD v))), none, some (.d (.lst (ND (Wt.fin v)))), some (.d (nD (Wt.size v))), none, none], S⟩) (gb := ⟨[some (.d d), some (.d (nD a)), some (.d (.lst (ND L))), some (.own (.dct (plN L))), none, none, some (.d (.lst (rowsD v))), none, some (.d (.lst (ND (Wt.fin v)))), some (.d (nD (Wt.size v))), none, none], S⟩) (a := .tmp (.lst [.tup []])) (b := .d (nD (Wt.size v))) (r := .new (.lst (List.replicate (Wt.size v) (.tup [])))) ?_ rfl rfl rfl (empties _ (by omega))
        simp only [XX, Nat.zero_add, e1, e0]
      rw [x_set, mr, R.to_ok]
      rfl
    refine @SI.seqx _ _ _ _ _ _ _ ?_
    have hi : mRange fEnumA [mVar 8] ⟨[some (.d d), some (.d (nD a)), some (.d (.lst (ND L))), some (.own (.dct (plN L))), none, none, some (.d (.lst (rowsD v))), none, some (.d (.lst (ND (Wt.fin v)))), some (.d (nD (Wt.size v))), some (.own (.lst (List.replicate (Wt.size v) (.tup [])))), none], S⟩ = .ok ((List.range v.length).map fun i => .tup [nD i, nD (Wt.fk v i)]) ⟨[some (.d d), some (.d (nD a)), some (.d (.lst (ND L))), some (.own (.dct (plN L))), none, none, some (.d (.lst (rowsD v))), none, some (.d (.lst (ND (Wt.fin v)))), some (.d (nD (Wt.size v))), some (.own (.lst (List.replicate (Wt.size v) (.tup [])))), none], S⟩ := by
      refine range_run (xs := [.lst (ND (Wt.fin v))]) (by simp only [XX]) ?_
      rw [enum_lst, enum_kinds, Wt.fin_len]
      rfl
    rw [x_for, hi, R.to_ok]
    refine SI.for_ (fun rest g => ∃ (l : List Nat) (X : List D) (c4 c11 : Option SD), rest = (l.map fun i => .tup [nD i, nD (Wt.fk v i)]) ∧ (∀ i ∈ l, i < v.length) ∧ X.length = Wt.size v ∧ (∀ i, i < v.length → i ∈ l ∨ X[Wt.fk v i]? = some (rowD (Wt.qrow v (Wt.fk v i)))) ∧
      g = ⟨[some (.d d), some (.d (nD a)), some (.d (.lst (ND L))), some (.own (.dct (plN L))), c4, none, some (.d (.lst (rowsD v))), none, some (.d (.lst (ND (Wt.fin v)))), some (.d (nD (Wt.size v))), some (.own (.lst X)), c11], S⟩)
      ⟨List.range v.length, _, _, _, rfl, fun i hi => List.mem_range.mp hi, List.length_replicate, fun i hi => .inl (List.mem_range.mpr hi), rfl⟩ ?_ ?_
    · rintro x xs g ⟨l, X, c4, c11, hl, lt, hX, all, rfl⟩
      cases l with
      | nil => cases hl
      | cons i l =>
        cases hl
        have ilt := lt i List.mem_cons_self
        have klt : Wt.fk v i < Wt.size v := Wt.mem_fin.mp (Wt.fk_mem ilt)
        refine ⟨⟨[some (.d d), some (.d (nD a)), some (.d (.lst (ND L))), some (.own (.dct (plN L))), some (.d (nD i)), none, some (.d (.lst (rowsD v))), none, some (.d (.lst (ND (Wt.fin v)))), some (.d (nD (Wt.size v))), some (.own (.lst X)), some (.d (nD (Wt.fk v i)))], S⟩, rfl, ?_⟩
        have sc := sortC_l (vs := [7]) (t := tName 7) (mi := mItems (mBin fIxA (mVar 6) (mVar 4))) (me := mBin fIxA (mVar 8) (mVar 7)) (g := ⟨[some (.d d), some (.d (nD a)), some (.d (.lst (ND L))), some (.own (.dct (plN L))), some (.d (nD i)), none, some (.d (.lst (rowsD v))), none, some (.d (.lst (ND (Wt.fin v)))), some (.d (nD (Wt.size v))), some (.own (.lst X)), some (.d (nD (Wt.fk v i)))], S⟩) (g0 := ⟨[some (.d d), some (.d (nD a)), some (.d (.lst (ND L))), some (.own (.dct (plN L))), some (.d (nD i)), none, some (.d (.lst (rowsD v))), none, some (.d (.lst (ND (Wt.fin v)))), some (.d (nD (Wt.size v))), some (.own (.lst X)), some (.d (nD (Wt.fk v i)))], S⟩)
          (l := Wt.row v i) (e := nD) (f := fun x => ((Wt.at_ (Wt.fin v) x : Nat) : Int)) (by simp only [XX, look_rows, look_nD, ix_rows ilt _ (.inl rfl), items_row]; rfl) (fv.row i) fun x hx => ?_
        · rw [kinds_below fv (Wt.fin_len v) i] at sc
          have sk := set_ND (X := X) (k := Wt.fk v i) (rowD (Wt.SD ((Wt.row v i).map (Wt.at_ (Wt.fin v))))) (by rw [hX]; exact klt)
          have tp : fTuple [.lst (ND (Wt.SD ((Wt.row v i).map (Wt.at_ (Wt.fin v)))))] = some (.d (rowD (Wt.SD ((Wt.row v i).map (Wt.at_ (Wt.fin v)))))) := rfl
          simp only [XX, sc, tp, sk]
          refine ⟨l, _, _, _, rfl, fun j hj => lt j (List.mem_cons_of_mem _ hj), by rw [List.length_set]; exact hX, fun j hj => ?_, rfl⟩
          by_cases e : Wt.fk v j = Wt.fk v i
          · right
            rw [e, List.getElem?_set_self (by rw [hX]; exact klt), Wt.qrow_of ilt]
            rfl
          · rcases all j hj with z | z
            · rcases List.mem_cons.mp z with z | z
              · exact absurd (by rw [z]) e
              · exact .inl z
            · right
              rw [List.getElem?_set_ne (fun z => e z.symm)]
              exact z
        · have hx : x < (Wt.fin v).length := by rw [Wt.fin_len]; exact fv.ok.row hx
          refine ⟨⟨[some (.d d), some (.d (nD a)), some (.d (.lst (ND L))), some (.own (.dct (plN L))), some (.d (nD i)), none, some (.d (.lst (rowsD v))), some (.d (nD x)), some (.d (.lst (ND (Wt.fin v)))), some (.d (nD (Wt.size v))), some (.own (.lst X)), some (.d (nD (Wt.fk v i)))], S⟩, ⟨[some (.d d), some (.d (nD a)), some (.d (.lst (ND L))), some (.own (.dct (plN L))), some (.d (nD i)), none, some (.d (.lst (rowsD v))), some (.d (nD x)), some (.d (.lst (ND (Wt.fin v)))), some (.d (nD (Wt.size v))), some (.own (.lst X)), some (.d (nD (Wt.fk v i)))], S⟩, rfl, ?_, rfl, rfl⟩
          simp only [XX, ixA_ND hx, look_ND, look_nD]
          rfl
    · rintro g ⟨l, X, c4, c11, hl, _, hX, all, rfl⟩
      have : l = [] := by cases l with
        | nil => rfl
        | cons => cases hl
      subst this
      have eX : X = rowsD (Wt.quo v) := by
        apply List.ext_getElem?
        intro k
        by_cases hk : k < Wt.size v
        · obtain ⟨j1, j2⟩ := Wt.fin_idx hk
          rcases all _ j1 with z | z
          · cases z
          · rw [j2] at z
            rw [z]
            simp [rowsD, Wt.quo, hk]
        · rw [List.getElem?_eq_none (by omega), List.getElem?_eq_none (by rw [rowsD_len, Wt.quo_len]; omega)]
      subst eX
      have e2 : (2 : Nat) ≤ sizeLine := by decide
      have tp : fTuple [.lst (rowsD (Wt.quo v))] = some (.d (.tup (rowsD (Wt.quo v)))) := rfl
      simp only [XX, look_nD, ix_plN ain, look_ND, ki, tp, Nat.zero_add, Nat.reduceAdd, e2]
      exact ⟨rfl, rfl⟩
  obtain ⟨r, S', e, rfl, rfl⟩ := key.of
  exact e
theorem pictured_ok {w : Wt.Web} (f : Fit w) {a : Nat} (ha : a < w.length) (h64 : (Wt.pic w a).2.length ≤ 64) {d : D} (hd : IsW w d) (S : List C) : m_pictured [d, nD a] S = .ok (.d (picD (Wt.pic w a))) S := by
  have ls := Wt.come_lists f.ok ha
  have cl : (Wt.come w a).length < 4096 := Nat.lt_of_le_of_lt (Wt.come_len w a) f.len
  have ain : a ∈ Wt.come w a := Wt.come_at f.ok ha
  have il : (Wt.come w a).idxOf a < (Wt.sub w (Wt.come w a)).length := by rw [Wt.sub_len]; exact List.idxOf_lt_length_iff.mpr ain
  refine pictured_run f ha rfl ls cl rfl (fit_sub f ls cl) (by omega) ain il ?_ hd S
  rw [← Wt.quo_len]
  exact h64
end Lib

set_option Elab.async false
set_option linter.all false
set_option maxRecDepth 100000
set_option maxHeartbeats 1000000
/-! the law's own webs -/
namespace Lib
open PySem PySem.Spec PyProof.Rows L2 Mx NSet
def IsJar (T : List C) (S : List C) : Prop := ∃ j : Jar, S = T.headD (.lst []) :: jarC j :: T.tail ∧ j.Ok
theorem draw_nat {T S : List C} (h : IsJar T S) {n : Nat} (h0 : 0 < n) (h1 : n < 1073741824) : ∃ (k : Nat) (S' : List C), m__law_draw [.obj 1, nD n] S = .ok (.d (nD k)) S' ∧ k < n ∧ IsJar T S' := by
  obtain ⟨j, rfl, ok⟩ := h
  obtain ⟨k, j', e, k0, k1, ok'⟩ := draw_ok ok (T := T) (top := (n : Int)) (by omega) (by omega)
  obtain ⟨m, rfl⟩ := Int.eq_ofNat_of_zero_le k0
  exact ⟨m, _, e, by omega, j', rfl, ok'⟩
theorem draw_lit {T S : List C} (h : IsJar T S) {n : Nat} (i : Int) (hi : i = n) (h0 : 0 < n) (h1 : n < 1073741824) : ∃ (k : Nat) (S' : List C), m__law_draw [.obj 1, .int i] S = .ok (.d (nD k)) S' ∧ k < n ∧ IsJar T S' := by
  subst hi
  exact draw_nat h h0 h1
theorem rng_map (n : Nat) : rng 0 n = (List.range n).map nD := by
  simp [rng, nD]
theorem addN (a b : Nat) : fAdd (nD a) (nD b) = some (.d (nD (a + b))) := by
  show some (RN.d (.int ((a : Int) + (b : Int)))) = _
  rw [nD, Int.natCast_add]
theorem eq_nat (a b : Nat) : fEq false (nD a) (nD b) = some (.d (.bl (decide (a = b)))) := by
  have : ((a : Int) == (b : Int)) = decide (a = b) := by
    by_cases h : a = b
    · subst h; simp
    · have : ¬ (a : Int) = (b : Int) := by omega
      simp [h, this]
  simp only [fEq, fits, nD, eqD, Bool.and_self, if_true, this, Bool.false_eq_true, if_false]
theorem eq_nat0 (a : Nat) : fEq false (nD a) (.int 0) = some (.d (.bl (decide (a = 0)))) := eq_nat a 0
theorem range_draw {n : Nat} (h : n < 4096) {g g' : Sg} {m : ST RV} (e : m g = .ok (.d (nD n)) g') : mRange rng1 [m] g = .ok ((List.range n).map nD) g' := by
  rw [← rng_map]
  refine range_run (xs := [nD n]) ?_ (rng1_nD n h)
  simp only [XX, e]
theorem rowsD_snoc (w : Wt.Web) (r : List Nat) : rowsD w ++ [rowD r] = rowsD (w ++ [r]) := by simp [rowsD]
end Lib

set_option Elab.async false
set_option linter.all false
set_option maxRecDepth 100000
set_option maxHeartbeats 1000000
/-! the law's own picture -/
namespace Lib
open PySem PySem.Spec PyProof.Rows L2 Mx NSet
/-- the rows that are found so far, of which the first p are done -/
structure Reached (w : Wt.Web) (a : Nat) (F : List Nat) (p : Nat) : Prop where
  nd : F.Nodup
  re : ∀ x ∈ F, Wt.Reach w a x
  hd : F[0]? = some a
  le : p ≤ F.length
  cl : ∀ i, i < p → ∀ x, F[i]? = some x → ∀ y ∈ Wt.row w x, y ∈ F
theorem Reached.mem {w : Wt.Web} {a p : Nat} {F : List Nat} (s : Reached w a F p) : a ∈ F := List.mem_of_getElem? s.hd
theorem Reached.len {w : Wt.Web} {a p : Nat} {F : List Nat} (s : Reached w a F p) (ok : Wt.Ok w) (h : a < w.length) : F.length ≤ w.length := by
  have := s.nd.length_le_of_subset (l₂ := List.range w.length) fun x hx => List.mem_range.mpr ((s.re x hx).lt ok h)
  rwa [List.length_range] at this
theorem Reached.lists {w : Wt.Web} {a : Nat} {F : List Nat} (s : Reached w a F F.length) : Wt.Lists w a F where
  nd := s.nd
  mem := fun x => by
    refine ⟨s.re x, fun p => ?_⟩
    induction p with
    | base => exact s.mem
    | step _ hy ih =>
      obtain ⟨i, hi, e⟩ := List.getElem_of_mem ih
      exact s.cl i hi _ (by rw [List.getElem?_eq_getElem hi, e]) _ hy
theorem Reached.next {w : Wt.Web} {a p x : Nat} {F : List Nat} (s : Reached w a F p) (hp : p < F.length) (hx : F[p]? = some x) : Reached w a (F ++ (Wt.SD (Wt.row w x)).filter fun y => !decide (y ∈ F)) (p + 1) where
  nd := by
    refine List.nodup_append.mpr ⟨s.nd, (Wt.nodup_sd _).sublist List.filter_sublist, fun u hu v hv e => ?_⟩
    subst e
    have := (List.mem_filter.mp hv).2
    simp at this
    exact this hu
  re := fun u hu => by
    rcases List.mem_append.mp hu with z | z
    · exact s.re u z
    · exact .step (s.re x (List.mem_of_getElem? hx)) (Wt.mem_SD.mp (List.mem_filter.mp z).1)
  hd := by
    have : 0 < F.length := by omega
    rw [List.getElem?_append_left this]
    exact s.hd
  le := by rw [List.length_append]; omega
  cl := fun i hi u hu y hy => by
    rw [List.mem_append]
    by_cases c : i < p
    · rw [List.getElem?_append_left (by omega)] at hu
      exact .inl (s.cl i c u hu y hy)
    · have e : i = p := by omega
      subst e
      rw [List.getElem?_append_left hp, hx] at hu
      cases hu
      by_cases c : y ∈ F
      · exact .inl c
      · exact .inr (List.mem_filter.mpr ⟨Wt.mem_SD.mpr hy, by simpa using c⟩)
theorem aps_own {f : List D → Option RN} {i : Nat} {g : Sg} {c : C} {r : D} (h : g.env[i]? = some (some (.own c))) (e : f [c.d] = some (.d r)) : mAps f [mVar i] g = .ok (.d r) g := by
  have p : ∀ g', g'.env = g.env → peek (.own i) g' = some c.d := fun g' e => by rw [x_peeko, e, h]
  simp only [x_aps, x_P1, x_P0, x_var, h, bind_ok, x_pks1, x_pks0, x_fro, p g rfl, e, x_opts, x_rvd]
end Lib

set_option Elab.async false
set_option linter.all false
set_option maxRecDepth 100000
set_option maxHeartbeats 1000000
/-! the law's own picture, its second half -/
namespace Lib
open PySem PySem.Spec PyProof.Rows L2 Mx NSet
end Lib

set_option Elab.async false
set_option linter.all false
set_option maxRecDepth 100000
set_option maxHeartbeats 1000000
/-! picture, is_set, likeness -/
namespace Lib
open PySem PySem.Spec PyProof.Rows L2 Mx NSet
theorem look_pic (p : Nat × Wt.Web) (g : Sg) : look (picD p) g = some (picD p) := rfl
theorem picture_ok {w : Wt.Web} {d : D} (h : IsWeb w d) {a : Nat} (ha : a < w.length) (h64 : (Wt.pic w a).2.length ≤ 64) (S : List C) : m_picture [d, nD a] S = .ok (.d (picD (Wt.pic w a))) S := by
  simp only [m_picture, fnM, b_picture, env0_2_2, XX, need_web_ok h, need_row_ok h ha, pictured_ok h.toFit ha h64 h.is]
/-! ### likeness -/
theorem same_tup (n : Nat) (xs : List D) (hl : xs.length < 4096) (ih : ∀ x ∈ xs, ∀ S, m__law_same n [x, x] S = .ok (.d (.bl true)) S) (S : List C) : m__law_same (n + 1) [.tup xs, .tup xs] S = .ok (.d (.bl true)) S := by
  have t : tyN (.tup xs) = some "tuple" := rfl
  have lk : ∀ g, look (.tup xs) g = some (.tup xs) := fun _ => rfl
  have e1 : isB "tuple" "bool" = false := by decide
  have e4 : isB "tuple" "int" = false := by decide
  have e5 : isB "tuple" "str" = false := by decide
  have e6 : isB "tuple" "list" = false := by decide
  have e2 : fIsN false (.tup xs) .non = some (.d (.bl false)) := rfl
  have bb : ∀ b, fEq true (.bl b) (.bl b) = some (.d (.bl false)) := fun b => by cases b <;> rfl
  have e7 : (2 : Nat) ≤ sizeLine := by decide
  have ln : fLenA [.tup xs] = some (.d (nD xs.length)) := rfl
  have nn : fEq true (nD xs.length) (nD xs.length) = some (.d (.bl false)) := by simp [fEq, fits, nD, eqD]
  have e8 := line4
  have hi : mRange rng1 [mAps fLenA [mVar 1]] ⟨[some (.d (.tup xs)), some (.d (.tup xs)), none], S⟩ = .ok ((List.range xs.length).map nD) ⟨[some (.d (.tup xs)), some (.d (.tup xs)), none], S⟩ := by
    refine range_draw hl ?_
    simp only [XX, ln]
  have cm := comp_l (vs := [2]) (t := tName 2) (mi := mRange rng1 [mAps fLenA [mVar 1]]) (me := mCall (m__law_same n) [mBin fIxA (mVar 0) (mVar 2), mBin fIxA (mVar 1) (mVar 2)]) (g := ⟨[some (.d (.tup xs)), some (.d (.tup xs)), none], S⟩) (g0 := ⟨[some (.d (.tup xs)), some (.d (.tup xs)), none], S⟩)
    (l := List.range xs.length) (e := nD) (f := fun _ => D.bl true) hi (by rw [List.length_range]; omega) fun i hi => ?_
  · simp only [m__law_same, fnM, b__law_same, env0_3_2, XX, lk, e2, f_isi t c_bool, f_isi t c_list, f_isi t c_tuple, f_isi2 t c_int c_str, f_isi2 t c_list c_tuple, isB_tt, e1, e4, e5, e6, bb, Nat.zero_add, Nat.reduceAdd, e7, Bool.or_false, Bool.or_true, ln, look_nD, nn, cm, all_true]
  · have hi := List.mem_range.mp hi
    have gx : xs[i]? = some xs[i] := List.getElem?_eq_getElem hi
    have ix : fIxA (.tup xs) (nD i) = some (.d xs[i]) := f_ixT gx
    refine ⟨⟨[some (.d (.tup xs)), some (.d (.tup xs)), some (.d (nD i))], S⟩, rfl, ?_⟩
    have b0 : ∀ j, j < 2 → mBin fIxA (mVar j) (mVar 2) ⟨[some (.d (.tup xs)), some (.d (.tup xs)), some (.d (nD i))], S⟩ = .ok (.d xs[i]) ⟨[some (.d (.tup xs)), some (.d (.tup xs)), some (.d (nD i))], S⟩ := fun j hj => by
      have : j = 0 ∨ j = 1 := by omega
      rcases this with rfl | rfl
      · exact bin_run (a := .d (.tup xs)) (b := .d (nD i)) (r := .d xs[i]) rfl rfl rfl rfl ix
      · exact bin_run (a := .d (.tup xs)) (b := .d (nD i)) (r := .d xs[i]) rfl rfl rfl rfl ix
    have sm := ih xs[i] (List.getElem_mem hi) S
    show RI (.ok true _) _
    simp only [RI, if_true, x_call, x_D1, x_D0, b0 0 (by omega), b0 1 (by omega), bind_ok, x_tod, sm, x_ofok, x_rvd]
    exact ⟨rfl, trivial, trivial⟩
theorem same_nD (n a : Nat) (S : List C) : m__law_same (n + 1) [nD a, nD a] S = .ok (.d (.bl true)) S := by
  have := same_int n (a : Int) (a : Int) S
  rw [beq_self_eq_true] at this
  exact this
theorem same_row (n : Nat) {r : List Nat} (h : r.length < 4096) (S : List C) : m__law_same (n + 2) [rowD r, rowD r] S = .ok (.d (.bl true)) S :=
  same_tup (n + 1) (ND r) (by rw [ND_len]; exact h) (fun x hx S => by
    obtain ⟨a, _, rfl⟩ := List.mem_map.mp hx
    exact same_nD n a S) S
end Lib

set_option Elab.async false
set_option linter.all false
set_option maxRecDepth 100000
set_option maxHeartbeats 0
/-! mirrors of defs that many laws share; printed by gen.py -/
namespace Lib
open PySem PySem.Spec PyProof.Rows L2 Mx NSet
end Lib

set_option Elab.async false
set_option linter.all false
set_option maxRecDepth 100000
set_option maxHeartbeats 1000000
/-! a list mixed -/
namespace Lib
open PySem PySem.Spec PyProof.Rows L2 Mx NSet
theorem mut_run {f : MF} {j : Nat} {ms : List (ST RV)} {g g' : Sg} {c : C} {xs : List D} {d : D} {c' : C} (h : g.env[j]? = some (some (.own c))) (il : isLst (some c) = true) (ha : argsD ms g = .ok xs g') (h' : g'.env[j]? = some (some (.own c))) (e : f c xs = some (d, c')) :
    mMut f (mVar j) ms g = .ok (.d d) { g' with env := g'.env.set j (some (.own c')) } := by
  have hv : mVar j g = .ok (.own j) g := by rw [x_var, h]
  have hg : getC (.own j) g = some c := by rw [x_getO, h]
  have hg' : getC (.own j) g' = some c := by rw [x_getO, h']
  rw [x_mut, hv, bind_ok, hg, il, if_pos rfl, ha, bind_ok, x_mutK, hg']
  simp only [e, x_putO]
end Lib

set_option Elab.async false
set_option linter.all false
set_option maxHeartbeats 1000000
/-! likeness keeps the order of kinds: plain words, no program -/
namespace Wt
open List
theorem lt_map {f : Nat → Nat} : ∀ {l m : List Nat}, (∀ x, x ∈ l ∨ x ∈ m → ∀ y, y ∈ l ∨ y ∈ m → (x < y ↔ f x < f y)) → (l < m ↔ l.map f < m.map f)
  | [], [], _ => by simp
  | [], _ :: _, _ => by simp
  | _ :: _, [], _ => by simp
  | x :: l, y :: m, h => by
    have hxy := h x (.inl mem_cons_self) y (.inr mem_cons_self)
    have hyx := h y (.inr mem_cons_self) x (.inl mem_cons_self)
    have eq : x = y ↔ f x = f y := by
      constructor
      · intro e; rw [e]
      · intro e; omega
    rw [map_cons, map_cons, cons_lt_cons_iff, cons_lt_cons_iff, hxy, eq, lt_map (l := l) (m := m) fun x hx y hy => h x (hx.imp (mem_cons_of_mem _) (mem_cons_of_mem _)) y (hy.imp (mem_cons_of_mem _) (mem_cons_of_mem _))]
/-- likeness keeps the order of kinds at each round -/
theorem Bis.kd_lt {w v : Web} {R : Nat → Nat → Prop} (B : Bis w v R) : ∀ r a b a' b', R a b → R a' b' → (kd w r a < kd w r a' ↔ kd v r b < kd v r b')
  | 0 => fun a b a' b' _ _ => by rw [kd_zero, kd_zero, kd_zero, kd_zero]
  | r + 1 => fun a b a' b' h h' => by
    have ih := B.kd_lt r
    have ieq : ∀ a b a' b', R a b → R a' b' → (kd w r a = kd w r a' ↔ kd v r b = kd v r b') := fun a b a' b' h h' => by
      have h1 := ih a b a' b' h h'
      have h2 := ih a' b' a b h' h
      omega
    rw [Wt.kd_lt (B.l _ _ h) (B.l _ _ h'), Wt.kd_lt (B.r _ _ h) (B.r _ _ h'), ih a b a' b' h h', ieq a b a' b' h h']
    -- the renaming of values
    let f : Nat → Nat := fun k => open Classical in if c : ∃ x y, R x y ∧ kd w r x = k then kd v r (Classical.choose (Classical.choose_spec c)) else 0
    have hf : ∀ x y, R x y → f (kd w r x) = kd v r y := fun x y hxy => by
      have c : ∃ x' y', R x' y' ∧ kd w r x' = kd w r x := ⟨x, y, hxy, rfl⟩
      show (open Classical in if c : ∃ x' y', R x' y' ∧ kd w r x' = kd w r x then kd v r (Classical.choose (Classical.choose_spec c)) else 0) = _
      rw [dif_pos c]
      obtain ⟨h1, h2⟩ := Classical.choose_spec (Classical.choose_spec c)
      exact (ieq _ _ _ _ h1 hxy).mp h2
    have lst : ∀ a b, R a b → (SD ((row w a).map (kd w r))).map f = SD ((row v b).map (kd v r)) := fun a b hab => by
      have mono : ∀ p ∈ (row w a).map (kd w r), ∀ q ∈ (row w a).map (kd w r), p < q → f p < f q := fun p hp q hq lt => by
        obtain ⟨x, hx, rfl⟩ := mem_map.mp hp
        obtain ⟨y, hy, rfl⟩ := mem_map.mp hq
        obtain ⟨x', _, rx⟩ := B.f _ _ hab x hx
        obtain ⟨y', _, ry⟩ := B.f _ _ hab y hy
        rw [hf _ _ rx, hf _ _ ry]
        exact (ih _ _ _ _ rx ry).mp lt
      rw [sd_map mono]
      refine SD_ext fun k => ?_
      rw [mem_map, mem_map]
      constructor
      · rintro ⟨_, hp, rfl⟩
        obtain ⟨x, hx, rfl⟩ := mem_map.mp hp
        obtain ⟨x', hx', rx⟩ := B.f _ _ hab x hx
        exact ⟨x', hx', (hf _ _ rx).symm⟩
      · rintro ⟨y, hy, rfl⟩
        obtain ⟨x, hx, rx⟩ := B.g _ _ hab y hy
        exact ⟨_, mem_map_of_mem hx, hf _ _ rx⟩
    have key : SD ((row w a).map (kd w r)) < SD ((row w a').map (kd w r)) ↔ SD ((row v b).map (kd v r)) < SD ((row v b').map (kd v r)) := by
      rw [← lst a b h, ← lst a' b' h']
      refine lt_map fun p hp q hq => ?_
      have val : ∀ p, p ∈ SD ((row w a).map (kd w r)) ∨ p ∈ SD ((row w a').map (kd w r)) → ∃ x y, R x y ∧ kd w r x = p := fun p hp => by
        rcases hp with hp | hp
        · obtain ⟨x, hx, e⟩ := mem_map.mp (mem_SD.mp hp)
          obtain ⟨y, _, ry⟩ := B.f _ _ h x hx
          exact ⟨x, y, ry, e⟩
        · obtain ⟨x, hx, e⟩ := mem_map.mp (mem_SD.mp hp)
          obtain ⟨y, _, ry⟩ := B.f _ _ h' x hx
          exact ⟨x, y, ry, e⟩
      obtain ⟨x, y, rx, rfl⟩ := val p hp
      obtain ⟨x', y', rx', rfl⟩ := val q hq
      rw [hf _ _ rx, hf _ _ rx']
      exact ih _ _ _ _ rx rx'
    rw [key]
theorem Bis.kd_eq {w v : Web} {R : Nat → Nat → Prop} (B : Bis w v R) (r : Nat) {a b a' b' : Nat} (h : R a b) (h' : R a' b') : kd w r a = kd w r a' ↔ kd v r b = kd v r b' := by
  have h1 := B.kd_lt r a b a' b' h h'
  have h2 := B.kd_lt r a' b' a b h' h
  omega
end Wt

set_option Elab.async false
set_option linter.all false
set_option maxHeartbeats 1000000
/-! webs of several sets laid by one another; the order of sets: plain words, no program -/
namespace Wt
open List
/-- q lies in w from b on -/
structure Emb (q w : Web) (b : Nat) : Prop where
  le : b + q.length ≤ w.length
  row : ∀ x, x < q.length → row w (b + x) = (row q x).map fun y => y + b
theorem Emb.bis {q w : Web} {b : Nat} (ok : Ok q) (e : Emb q w b) : Bis q w fun x y => x < q.length ∧ y = b + x where
  l := fun x y h => h.1
  r := fun x y h => by have := e.le; omega
  f := by
    rintro x _ ⟨hx, rfl⟩ u hu
    exact ⟨b + u, by rw [e.row x hx, Nat.add_comm b u]; exact mem_map_of_mem hu, ok.row hu, rfl⟩
  g := by
    rintro x _ ⟨hx, rfl⟩ y hy
    rw [e.row x hx] at hy
    obtain ⟨u, hu, rfl⟩ := mem_map.mp hy
    exact ⟨u, hu, ok.row hu, Nat.add_comm _ _⟩
theorem Emb.lay_old {q w v : Web} {b : Nat} (e : Emb q w b) : Emb q (lay w v) b where
  le := by rw [lay_len]; have := e.le; omega
  row := fun x hx => by
    have := e.le
    rw [lay_l (by omega), e.row x hx]
theorem Emb.lay_new (w v : Web) : Emb v (lay w v) w.length where
  le := by rw [lay_len]; omega
  row := fun x hx => lay_r hx
/-- sets laid by one another, and their tops -/
def lays : Web → List (Nat × Web) → Web × List Nat
  | w, [] => (w, [])
  | w, p :: ps => ((lays (lay w p.2) ps).1, (w.length + p.1) :: (lays (lay w p.2) ps).2)
theorem lays_old {q : Web} {b : Nat} : ∀ {ps : List (Nat × Web)} {w : Web}, Emb q w b → Emb q (lays w ps).1 b
  | [], _, e => e
  | p :: ps, w, e => lays_old (ps := ps) (w := lay w p.2) e.lay_old
theorem lays_ok : ∀ {ps : List (Nat × Web)} {w : Web}, Ok w → (∀ p ∈ ps, Ok p.2) → Ok (lays w ps).1
  | [], _, h, _ => h
  | p :: ps, w, h, hp => lays_ok (ps := ps) (ok_lay h (hp p mem_cons_self)) fun q hq => hp q (mem_cons_of_mem _ hq)
theorem lays_len : ∀ {ps : List (Nat × Web)} {w : Web}, (lays w ps).1.length = w.length + (ps.map fun p => p.2.length).sum
  | [], _ => by simp [lays]
  | p :: ps, w => by
    show (lays (lay w p.2) ps).1.length = _
    rw [lays_len, lay_len, map_cons, sum_cons]
    omega
theorem lays_tops : ∀ {ps : List (Nat × Web)} {w : Web}, (lays w ps).2.length = ps.length
  | [], _ => rfl
  | p :: ps, w => by
    show ((w.length + p.1) :: (lays (lay w p.2) ps).2).length = _
    rw [length_cons, length_cons, lays_tops]
theorem lays_emb : ∀ {ps : List (Nat × Web)} {w : Web} {i : Nat} {p : Nat × Web}, ps[i]? = some p → ∃ b, (lays w ps).2[i]? = some (b + p.1) ∧ Emb p.2 (lays w ps).1 b
  | [], _, _, _, h => by simp at h
  | q :: ps, w, 0, p, h => by
    simp only [getElem?_cons_zero, Option.some.injEq] at h
    subst h
    exact ⟨w.length, rfl, lays_old (ps := ps) (Emb.lay_new w q.2)⟩
  | q :: ps, w, i + 1, p, h => by
    simp only [getElem?_cons_succ] at h
    obtain ⟨b, h1, h2⟩ := lays_emb (w := lay w q.2) h
    exact ⟨b, h1, h2⟩
/-- a set as its picture tells it -/
structure Pset (p : Nat × Web) : Prop where
  ok : Ok p.2
  lt : p.1 < p.2.length
  self : pic p.2 p.1 = p
theorem pset_pic {w : Web} (ok : Ok w) {a : Nat} (h : a < w.length) : Pset (pic w a) := ⟨pic_ok ok h, pic_lt ok h, pic_pic ok h⟩
/-- a row like a set's top has that set for its picture -/
theorem pic_like {p : Nat × Web} (P : Pset p) {w : Web} (ok : Ok w) {R : Nat → Nat → Prop} (B : Bis p.2 w R) {a : Nat} (h : R p.1 a) : pic w a = p := by
  rw [← pic_bis P.ok ok B h, P.self]
theorem ok_nil : Ok [] := fun _ h => by cases h
end Wt

set_option Elab.async false
set_option linter.all false
set_option maxRecDepth 100000
set_option maxHeartbeats 0
/-! mirrors of defs that many laws share; printed by gen.py -/
namespace Lib
open PySem PySem.Spec PyProof.Rows L2 Mx NSet
end Lib

set_option Elab.async false
set_option linter.all false
set_option maxRecDepth 100000
set_option maxHeartbeats 2000000
/-! sets laid by one another; compared -/
namespace Lib
open PySem PySem.Spec PyProof.Rows L2 Mx NSet
end Lib

set_option Elab.async false
set_option linter.all false
set_option maxRecDepth 100000
set_option maxHeartbeats 2000000
/-! need_set, compared -/
namespace Lib
open PySem PySem.Spec PyProof.Rows L2 Mx NSet
structure Sok (p : Nat × Wt.Web) : Prop extends Wt.Pset p where
  fit : Fit p.2
  most : p.2.length ≤ 64
theorem lay_fit2 {w v : Wt.Web} (f : Fit w) (g : Fit v) (h : w.length + v.length < 4096) : Fit (Wt.lay w v) where
  ok := Wt.ok_lay f.ok g.ok
  len := by rw [Wt.lay_len]; exact h
  row := fun x => by
    by_cases c : x < w.length
    · rw [Wt.lay_l c]
      exact f.row x
    · by_cases c2 : x - w.length < v.length
      · have := Wt.lay_r (w := w) (v := v) c2
        rw [show w.length + (x - w.length) = x by omega] at this
        rw [this, List.length_map]
        exact g.row _
      · rw [Wt.row_out (by rw [Wt.lay_len]; omega)]
        simp
theorem lays_fit : ∀ {ps : List (Nat × Wt.Web)} {w : Wt.Web}, Fit w → (∀ p ∈ ps, Fit p.2) → (Wt.lays w ps).1.length < 4096 → Fit (Wt.lays w ps).1
  | [], _, f, _, _ => f
  | p :: ps, w, f, fs, h => by
    have wl : w.length + p.2.length < 4096 := by
      have := Wt.lays_len (ps := p :: ps) (w := w)
      rw [List.map_cons, List.sum_cons] at this
      omega
    exact lays_fit (ps := ps) (lay_fit2 f (fs p List.mem_cons_self) wl) (fun q hq => fs q (List.mem_cons_of_mem _ hq)) h
theorem fit_nil : Fit [] := ⟨Wt.ok_nil, by simp, fun a => by simp [Wt.row]⟩
end Lib

set_option Elab.async false
set_option linter.all false
set_option maxHeartbeats 1000000
/-! a row more; sets with one member; the empty set: plain words, no program -/
namespace Wt
open List
def ext (w : Web) (r : List Nat) : Web := w ++ [r]
theorem ext_len (w : Web) (r : List Nat) : (ext w r).length = w.length + 1 := by simp [ext]
theorem ext_old {w : Web} {r : List Nat} {x : Nat} (h : x < w.length) : row (ext w r) x = row w x := by
  rw [row_get h, row_get (by rw [ext_len]; omega)]
  simp [ext, getElem_append_left h]
theorem Emb.ext {q w : Web} {b : Nat} (e : Emb q w b) (r : List Nat) : Emb q (ext w r) b where
  le := by rw [ext_len]; have := e.le; omega
  row := fun x hx => by
    have := e.le
    rw [ext_old (by omega), e.row x hx]
end Wt

set_option Elab.async false
set_option linter.all false
set_option maxRecDepth 100000
set_option maxHeartbeats 2000000
/-! drawn sets, joined sets, sets with one member -/
namespace Lib
open PySem PySem.Spec PyProof.Rows L2 Mx NSet
theorem cat_one (w : Wt.Web) (r : List Nat) (h : w.length < 4096) : fAdd (.lst (rowsD w)) (.lst [rowD r]) = some (.new (.lst (rowsD (Wt.ext w r)))) := by
  have e4 := line4
  show (if _ then _ else _) = _
  rw [if_pos (by rw [rowsD_len]; simp; omega), rowsD_snoc]
  rfl
end Lib

set_option Elab.async false
set_option linter.all false
set_option maxRecDepth 100000
set_option maxHeartbeats 0
/-! mirrors of defs that many laws share; printed by gen.py -/
namespace Lib
open PySem PySem.Spec PyProof.Rows L2 Mx NSet
end Lib

set_option linter.all false
set_option maxRecDepth 100000
set_option maxHeartbeats 0
/-! t[::-1] of a tuple -/
namespace Mx
open PySem PySem.Spec PyProof.Rows L2
section
variable {prog : Program} {w : World} {A : Around} {E : Value → Shared → Prop} {s : Shared}
end
section
variable {X : Cx}
end
section
variable {X : Cx} {N : En} {xm : XM} {W : WX}
end
/-! ### t * n -/
section
end
end Mx

set_option Elab.async false
set_option linter.all false
set_option maxRecDepth 100000
set_option maxHeartbeats 0
/-! mirrors of defs that many laws share; printed by gen.py -/
namespace Lib
open PySem PySem.Spec PyProof.Rows L2 Mx NSet
end Lib

set_option Elab.async false
set_option linter.all false
set_option maxRecDepth 100000
set_option maxHeartbeats 0
/-! mirrors of defs that many laws share; printed by gen.py -/
namespace Lib
open PySem PySem.Spec PyProof.Rows L2 Mx NSet
end Lib

set_option Elab.async false
set_option linter.all false
set_option maxRecDepth 100000
set_option maxHeartbeats 2000000
/-! members; long chains -/
namespace Lib
open PySem PySem.Spec PyProof.Rows L2 Mx NSet
theorem sub1 {n : Nat} (h : 1 ≤ n) : fSub (nD n) (.int 1) = some (.d (nD (n - 1))) := by
  have : (n : Int) - 1 = ((n - 1 : Nat) : Int) := by omega
  show some (RN.d (.int ((n : Int) - 1))) = _
  rw [this]
  rfl
end Lib

set_option Elab.async false
set_option linter.all false
set_option maxRecDepth 100000
set_option maxHeartbeats 2000000
/-! the law's long chains -/
namespace Lib
open PySem PySem.Spec PyProof.Rows L2 Mx NSet
end Lib

set_option Elab.async false
set_option linter.all false
set_option maxRecDepth 100000
set_option maxHeartbeats 1000000
/-! is_set, and the law's own, on anything -/
namespace Lib
open PySem PySem.Spec PyProof.Rows L2 Mx NSet
theorem call2 {F : FM} {m n : ST RV} {g g1 g2 : Sg} {x z y : D} {S' : List C} (h : m g = .ok (.d x) g1) (h2 : n g1 = .ok (.d z) g2) (e : F [x, z] g2.st = .ok (.d y) S') : mCall F [m, n] g = .ok (.d y) { g2 with st := S' } := by
  rw [x_call, x_D1, h, bind_ok, x_tod, bind_ok, x_D1, h2, bind_ok, x_tod, bind_ok, x_D0, bind_ok, bind_ok, bind_ok, e]
  rfl
def ty (x : D) : Bool := (tyN x).isSome
def isT : D → Bool
  | .tup _ => true
  | _ => false
end Lib

set_option Elab.async false
set_option linter.all false
set_option maxRecDepth 100000
set_option maxHeartbeats 1000000
/-! is_set, and the law's own, on anything -/
namespace Lib
open PySem PySem.Spec PyProof.Rows L2 Mx NSet
end Lib

set_option Elab.async false
set_option linter.all false
set_option maxRecDepth 100000
set_option maxHeartbeats 1000000
/-! the law's own is_set on anything -/
namespace Lib
open PySem PySem.Spec PyProof.Rows L2 Mx NSet
end Lib

set_option Elab.async false
set_option linter.all false
set_option maxRecDepth 100000
set_option maxHeartbeats 1000000
/-! sets that are bent -/
namespace Lib
open PySem PySem.Spec PyProof.Rows L2 Mx NSet
theorem law_of_ok {T S : List C} (h : IsJar T S) {xs : List D} (h0 : 0 < xs.length) (h1 : xs.length < 1073741824) : ∃ (x : D) (S' : List C), m__law_of [.obj 1, .lst xs] S = .ok (.d x) S' ∧ x ∈ xs ∧ IsJar T S' := by
  obtain ⟨j, rfl, ok⟩ := h
  obtain ⟨x, j', e, hx, ok'⟩ := of_ok ok (T := T) h0 h1
  exact ⟨x, _, e, hx, j', rfl, ok'⟩
section
variable {nx bk ct : Sg → Prop} {rt : RN → List C → Prop}
end
theorem add_tup (xs ys : List D) (h : xs.length + ys.length < 4096) : fAdd (.tup xs) (.tup ys) = some (.d (.tup (xs ++ ys))) := by
  have e4 := line4
  show (if xs.length + ys.length ≤ sizeLine then some (RN.d (.tup (xs ++ ys))) else none) = _
  rw [if_pos (by omega)]
theorem tuple_run {g g1 : Sg} {m : ST RV} {xs : List D} (h : m g = .ok (.tmp (.lst xs)) g1) : mAps fTuple [m] g = .ok (.d (.tup xs)) g1 := by
  rw [x_aps, x_P1, h, bind_ok, x_P0, bind_ok, bind_ok]
  rfl
end Lib

set_option Elab.async false
set_option linter.all false
set_option maxRecDepth 100000
set_option maxHeartbeats 1000000
/-! webs of one row -/
namespace Lib
open PySem PySem.Spec PyProof.Rows L2 Mx NSet
theorem size1 {w : Wt.Web} (h : w.length = 1) : Wt.size w = 1 := by
  have h1 := Wt.size_le w
  have h2 := Wt.size_pos (w := w) (by omega)
  omega
theorem pic1 {w : Wt.Web} (ok : Wt.Ok w) (h : w.length = 1) (hr : Wt.row w 0 = [] ∨ Wt.row w 0 = [0]) : Wt.pic w 0 = (0, w) := by
  have ls : Wt.Lists w 0 [0] := by
    refine ⟨by simp, fun x => ?_⟩
    rw [List.mem_singleton]
    refine ⟨fun e => e ▸ .base, fun p => ?_⟩
    have := p.lt ok (by omega)
    omega
  have es : Wt.sub w [0] = w := by
    refine Wt.web_ext (by rw [Wt.sub_len, h]; rfl) fun i hi => ?_
    rw [Wt.sub_len] at hi
    have e : i = 0 := by simpa using hi
    subst e
    have := Wt.row_sub (w := w) (L := [0]) (a := 0) (by simp)
    have i0 : List.idxOf 0 [0] = 0 := by simp
    rw [i0] at this
    rw [this]
    rcases hr with e | e <;> rw [e] <;> simp
  rw [Wt.pic_lists ok (by omega) ls, es]
  have i0 : List.idxOf 0 [0] = 0 := by simp
  have s1 := size1 h
  have k0 : Wt.fk w 0 = 0 := by
    have := Wt.mem_fin.mp (Wt.fk_mem (w := w) (a := 0) (by omega))
    omega
  rw [i0, k0]
  refine Prod.ext rfl (Wt.web_ext (by show (Wt.quo w).length = _; rw [Wt.quo_len, s1, h]) fun i hi => ?_)
  have hi' : i < Wt.size w := by rw [← Wt.quo_len]; exact hi
  have e : i = 0 := by omega
  subst e
  show Wt.row (Wt.quo w) 0 = _
  rw [Wt.row_quo hi']
  have := Wt.qrow_of (w := w) (a := 0) (by omega)
  rw [k0] at this
  rw [this]
  rcases hr with e | e <;> rw [e]
  · exact (Wt.SD_unique (l := []) List.Pairwise.nil fun _ => Iff.rfl).symm
  · simp only [List.map_cons, List.map_nil, k0]
    exact (Wt.SD_unique (l := [0]) (List.pairwise_singleton _ _) fun _ => Iff.rfl).symm
end Lib

set_option Elab.async false
set_option linter.all false
set_option maxHeartbeats 1000000
/-! a set is told by its members -/
namespace Wt
open List
/-- rows of like pictures are like -/
theorem bis_like {w v : Web} (okw : Ok w) (okv : Ok v) : Bis w v fun x y => x < w.length ∧ y < v.length ∧ pic w x = pic v y where
  l := fun x y h => h.1
  r := fun x y h => h.2.1
  f := fun x y ⟨hx, hy, e⟩ u hu => by
    have B := bis_comp (bis_pic okw hx) (bis_inv (e ▸ bis_pic okv hy))
    have h : (fun a c => ∃ b, (a ∈ come w x ∧ b = fk (sub w (come w x)) ((come w x).idxOf a)) ∧ (c ∈ come v y ∧ b = fk (sub v (come v y)) ((come v y).idxOf c))) x y :=
      ⟨(pic w x).1, bis_pic_at okw hx, by rw [e]; exact bis_pic_at okv hy⟩
    obtain ⟨z, hz, r⟩ := B.f x y h u hu
    exact ⟨z, hz, B.l _ _ r, B.r _ _ r, pic_bis okw okv B r⟩
  g := fun x y ⟨hx, hy, e⟩ u hu => by
    have B := bis_comp (bis_pic okw hx) (bis_inv (e ▸ bis_pic okv hy))
    have h : (fun a c => ∃ b, (a ∈ come w x ∧ b = fk (sub w (come w x)) ((come w x).idxOf a)) ∧ (c ∈ come v y ∧ b = fk (sub v (come v y)) ((come v y).idxOf c))) x y :=
      ⟨(pic w x).1, bis_pic_at okw hx, by rw [e]; exact bis_pic_at okv hy⟩
    obtain ⟨z, hz, r⟩ := B.g x y h u hu
    exact ⟨z, hz, B.l _ _ r, B.r _ _ r, pic_bis okw okv B r⟩
/-- the members of a set -/
noncomputable def mem (p : Nat × Web) : List (Nat × Web) := (row p.2 p.1).map (pic p.2)
theorem fk_pset {p : Nat × Web} (P : Pset p) {x : Nat} (h : x < p.2.length) : fk p.2 x = x := by
  have e := fin_pic P.ok P.lt
  rw [P.self] at e
  unfold fk
  rw [e]
  show (range p.2.length).getD x 0 = x
  rw [getD_eq_getElem?_getD, getElem?_range h]
  rfl
theorem pic_inj {p : Nat × Web} (P : Pset p) {x y : Nat} (hx : x < p.2.length) (hy : y < p.2.length) (e : pic p.2 x = pic p.2 y) : x = y := by
  have := (pic_eq P.ok hx hy).mp e
  rwa [fk_pset P hx, fk_pset P hy] at this
theorem nodup_map_on {α β : Type} {f : α → β} : ∀ {l : List α}, (∀ x ∈ l, ∀ y ∈ l, f x = f y → x = y) → l.Nodup → (l.map f).Nodup
  | [], _, _ => List.Pairwise.nil
  | a :: l, h, nd => by
    rw [map_cons, nodup_cons]
    obtain ⟨n1, n2⟩ := nodup_cons.mp nd
    refine ⟨fun m => ?_, nodup_map_on (fun x hx y hy => h x (mem_cons_of_mem _ hx) y (mem_cons_of_mem _ hy)) n2⟩
    obtain ⟨b, hb, e⟩ := mem_map.mp m
    have := h b (mem_cons_of_mem _ hb) a mem_cons_self e
    exact n1 (this ▸ hb)
theorem pic_rows {w : Web} (ok : Ok w) {a : Nat} (h : a < w.length) {k : Nat} (hk : k < (pic w a).2.length) : ∃ x, Reach w a x ∧ pic (pic w a).2 k = pic w x := by
  have hl := come_lists ok h
  have hk' : k < size (sub w (come w a)) := by
    have : (pic w a).2 = quo (sub w (come w a)) := rfl
    rw [this, quo_len] at hk
    exact hk
  obtain ⟨i, hi, ei⟩ := mem_fk (mem_fin.mpr hk')
  obtain ⟨x, hx, ex⟩ := sub_idx hl.nd hi
  refine ⟨x, (hl.mem x).mp hx, ?_⟩
  have r : x ∈ come w a ∧ k = fk (sub w (come w a)) ((come w a).idxOf x) := ⟨hx, by rw [ex, ei]⟩
  exact (pic_bis ok (pic_ok ok h) (bis_pic ok h) r).symm
/-- all rows of some sets, as sets -/
noncomputable def allRows (ps : List (Nat × Web)) : List (Nat × Web) := ps.flatMap fun p => (range p.2.length).map (pic p.2)
theorem allRows_len (ps : List (Nat × Web)) : (allRows ps).length = (ps.map fun p => p.2.length).sum := by
  unfold allRows
  rw [length_flatMap]
  congr 1
  exact map_congr_left fun p _ => by rw [length_map, length_range]
/-- how many rows a set has whose members are rows of some sets -/
theorem size_of {v : Web} (ok : Ok v) {A : Nat} (hA : A < v.length) {ps : List (Nat × Web)} (hp : ∀ p ∈ ps, Ok p.2) (h : ∀ x ∈ row v A, ∃ p ∈ ps, ∃ y, y < p.2.length ∧ pic v x = pic p.2 y) : (pic v A).2.length ≤ (ps.map fun p => p.2.length).sum + 1 := by
  have inZ : ∀ m, m ∈ allRows ps ↔ ∃ p ∈ ps, ∃ y, y < p.2.length ∧ m = pic p.2 y := fun m => by
    unfold allRows
    rw [mem_flatMap]
    constructor
    · rintro ⟨p, h1, h2⟩
      obtain ⟨y, hy, rfl⟩ := mem_map.mp h2
      exact ⟨p, h1, y, mem_range.mp hy, rfl⟩
    · rintro ⟨p, h1, y, hy, rfl⟩
      exact ⟨p, h1, mem_map.mpr ⟨y, mem_range.mpr hy, rfl⟩⟩
  have far : ∀ x, Reach v A x → pic v x = pic v A ∨ pic v x ∈ allRows ps := fun x hx => by
    induction hx with
    | base => exact .inl rfl
    | step r hy ih =>
      rename_i x y
      have xl := r.lt ok hA
      rcases ih with e | e
      · obtain ⟨z, hz, _, _, ez⟩ := (bis_like ok ok).f x A ⟨xl, hA, e⟩ y hy
        rw [ez]
        obtain ⟨p, h1, u, hu, eu⟩ := h z hz
        exact .inr ((inZ _).mpr ⟨p, h1, u, hu, eu⟩)
      · obtain ⟨p, h1, u, hu, eu⟩ := (inZ _).mp e
        obtain ⟨z, hz, _, zl, ez⟩ := (bis_like ok (hp p h1)).f x u ⟨xl, hu, eu⟩ y hy
        exact .inr ((inZ _).mpr ⟨p, h1, z, zl, ez⟩)
  have Q := pset_pic ok hA
  have nd : ((range (pic v A).2.length).map (pic (pic v A).2)).Nodup := nodup_map_on (fun x hx y hy e => pic_inj Q (mem_range.mp hx) (mem_range.mp hy) e) nodup_range
  have sub : ∀ m ∈ (range (pic v A).2.length).map (pic (pic v A).2), m ∈ pic v A :: allRows ps := fun m hm => by
    obtain ⟨k, hk, rfl⟩ := mem_map.mp hm
    obtain ⟨x, hx, e⟩ := pic_rows ok hA (mem_range.mp hk)
    rw [e]
    rcases far x hx with z | z
    · rw [z]; exact mem_cons_self
    · exact mem_cons_of_mem _ z
  have := nd.length_le_of_subset sub
  rw [length_map, length_range, length_cons, allRows_len] at this
  exact this
/-! ### the set of some sets -/
noncomputable def from_ (ms : List (Nat × Web)) : Nat × Web := pic (ext (lays [] ms).1 (lays [] ms).2) (lays [] ms).1.length
section
variable {ms : List (Nat × Web)}
theorem from_tops (h : ∀ m ∈ ms, Pset m) : ∀ x, x ∈ (lays [] ms).2 → x < (lays [] ms).1.length ∧ ∃ m ∈ ms, pic (lays [] ms).1 x = m := fun x hx => by
  obtain ⟨i, hi, rfl⟩ := getElem_of_mem hx
  rw [lays_tops] at hi
  obtain ⟨b, e1, e2⟩ := lays_emb (w := []) (ps := ms) (i := i) (getElem?_eq_getElem hi)
  have hm : ms[i] ∈ ms := getElem_mem hi
  have ei : (lays [] ms).2[i] = b + ms[i].1 := by
    have := getElem?_eq_getElem (l := (lays [] ms).2) (i := i) (by rw [lays_tops]; exact hi)
    rw [e1] at this
    exact (Option.some.inj this).symm
  have okl := lays_ok (w := []) ok_nil (ps := ms) fun m hm => (h m hm).ok
  have B := e2.bis (h _ hm).ok
  have r : ms[i].1 < ms[i].2.length ∧ (lays [] ms).2[i] = b + ms[i].1 := ⟨(h _ hm).lt, ei⟩
  exact ⟨B.r _ _ r, ms[i], hm, pic_like (h _ hm) okl B r⟩
end
/-! ### two sets joined -/
section
variable {p q : Nat × Web}
end
end Wt

set_option Elab.async false
set_option linter.all false
set_option maxRecDepth 100000
set_option maxHeartbeats 1000000
/-! members, joins, the set of some sets: by the program and by the law -/
namespace Lib
open PySem PySem.Spec PyProof.Rows L2 Mx NSet
/-! ### in a list of sets -/
/-! ### joined -/
section
variable {p q : Nat × Wt.Web}
end
/-! ### the set of some sets -/
section
variable {ms : List (Nat × Wt.Web)}
structure Many (ms : List (Nat × Wt.Web)) : Prop where
  sok : ∀ m ∈ ms, Sok m
  sum : (ms.map fun m => m.2.length).sum < 4095
  len : ms.length < 4000
  size : (Wt.from_ ms).2.length ≤ 64
theorem Many.fit (M : Many ms) : Fit (Wt.lays [] ms).1 := lays_fit fit_nil (fun m hm => (M.sok m hm).fit) (by rw [Wt.lays_len]; have := M.sum; simp only [List.length_nil]; omega)
theorem Many.tops (M : Many ms) : ∀ x ∈ (Wt.lays [] ms).2, x < (Wt.lays [] ms).1.length := fun x hx => (Wt.from_tops (fun m hm => (M.sok m hm).toPset) x hx).1
end
end Lib

set_option linter.all false
set_option maxRecDepth 100000
set_option maxHeartbeats 0
/-! xs < ys, xs > ys of lists of numbers -/
namespace Mx
open PySem PySem.Spec PyProof.Rows L2 PySem.SeqAt
section
variable {A : Around} {s : Shared} {prog : Program} {w : World} {E : Value → Shared → Prop} {Q : Value → Shared → Prop}
end
section
variable {X : Cx}
end
end Mx

set_option Elab.async false
set_option linter.all false
set_option maxRecDepth 100000
set_option maxHeartbeats 0
/-! [.. for x in xs ..] over a list of one's own that stays one's own -/
namespace Mx
open PySem PySem.Spec PyProof.Rows L2
section
variable {X : Cx} {N : En} {xm : XM} {W : WX} {tg iter : Expr}
theorem SR.drop {σ : L2.St} {H : Hp} {g : Sg} {fz : Addr → Prop} {is : List Addr} (sr : SR N σ H g fz is) (i : Nat) : SR N σ H { g with env := g.env.set i none } fz is := by
  have sub : ∀ {j : Nat} {x : SD}, (g.env.set i none)[j]? = some (some x) → g.env[j]? = some (some x) ∧ j ≠ i := fun {j x} h => by
    by_cases e : j = i
    · subst e
      by_cases hl : j < g.env.length
      · rw [List.getElem?_set_self hl] at h; cases h
      · rw [List.getElem?_eq_none (by simpa using hl)] at h; cases h
    · rw [List.getElem?_set_ne (Ne.symm e)] at h
      exact ⟨h, e⟩
  exact ⟨fun j x h => sr.env j x (sub h).1, fun j k q ⟨c, h1⟩ ⟨c', h2⟩ => sr.dist j k q ⟨c, (sub h1).1⟩ ⟨c', (sub h2).1⟩, by simp [sr.len], sr.sz, sr.dom, sr.stl, sr.st, sr.nd, sr.frame, sr.fzn, sr.fz0, sr.isx, sr.isn⟩
end
end Mx

set_option Elab.async false
set_option linter.all false
set_option maxRecDepth 100000
set_option maxHeartbeats 0
/-! the truth of a value that is no bool -/
namespace Mx
open PySem PySem.Spec PyProof.Rows L2
section
variable {X : Cx} {N : En} {xm : XM} {W : WX}
end
end Mx

set_option Elab.async false
set_option linter.all false
set_option maxRecDepth 100000
set_option maxHeartbeats 0
/-! defs as values; a call of a local name that holds one -/
namespace Mx
open PySem PySem.Spec PyProof.Rows L2
/-- where a def of the module stands -/
def adOf (mg : Str → Option Value) (x : Str) : Addr := match mg x with
  | some (.ref a) => a
  | _ => 0
section
variable {P : Program} {w : World} {K : PySem.W.Frag} {mg : Str → Option Value} {base : Heap} {xm : XM} {k n : Nat}
end
section
variable {X : Cx} {N : En} {xm : XM} {W : WX}
end
end Mx

set_option Elab.async false
set_option linter.all false
set_option maxRecDepth 100000
set_option maxHeartbeats 0
/-! max(xs, default=x); d.get(k), d.get(k, x) -/
namespace Mx
open PySem PySem.Spec PyProof.Rows L2
section
variable {X : Cx}
end
section
variable {X : Cx} {N : En} {xm : XM} {W : WX}
/-! ### d.get -/
end
end Mx

set_option Elab.async false
set_option linter.all false
set_option maxRecDepth 100000
set_option maxHeartbeats 0
/-! sorted(list of nested tuples) -/
namespace NSet
open PySem PySem.Spec PyProof.Rows L2 Mx
section
variable {P : Program} {w : World} {A : Around} {E : Value → Shared → Prop} {s : Shared}
end
section
variable {X : Cx}
end
end NSet
namespace Mx
open PySem PySem.Spec PyProof.Rows L2 NSet
end Mx

set_option Elab.async false
set_option linter.all false
set_option maxRecDepth 100000
set_option maxHeartbeats 0
/-! defs of other names stand elsewhere -/
namespace Mx
open PySem PySem.Spec PyProof.Rows L2
end Mx

set_option Elab.async false
set_option linter.all false
set_option maxRecDepth 100000
set_option maxHeartbeats 1000000
/-! lists of sets, sorted as tuples -/
namespace Lib
open PySem PySem.Spec PyProof.Rows L2 Mx NSet
/-! ### lists of lists of sets, compared -/
end Lib

set_option Elab.async false
set_option linter.all false
set_option maxRecDepth 100000
set_option maxHeartbeats 2000000
/-! try with several clauses that name what they caught; the law's own catcher of refusals -/
namespace Mx
open PySem PySem.Spec PyProof.Rows L2
/-! ### except X as e, several times -/
abbrev TC : Type := Addr → Value → Option Addr → TS
def offA (i : Nat) (D : Ends) : Ends := { nx := fun σ H => D.nx (σ.set i none) H, rt := D.rt, bk := fun σ H => D.bk (σ.set i none) H, ct := fun σ H => D.ct (σ.set i none) H }
def wCl (K : PySem.W.Frag) (i : Nat) (Wo : WX) (D : Ends) : List (Value × TC) → WX
  | [] => Wo
  | p :: ps => fun cls d σ H => ∃ b, PySem.W.exmOne K cls p.1 = some b ∧ (b = true → ∀ a, H a = none → p.2 a cls d (offA i D) (σ.set i (some (.ref a))) H) ∧ (b = false → wCl K i Wo D ps cls d σ H)
inductive Cls1 (X : Cx) (n : Str) : List ExceptHandler → List (Value × TC) → Prop
  | nil : Cls1 X n [] []
  | cons {x : Str} {c : Value} {ts : TC} {st : Stmt} {sts : List Stmt} {q1 q2 : Pos} {hs : List ExceptHandler} {l : List (Value × TC)} (hc : Names X x c)
      (hsu : ∀ (a : Addr) (o : Obj) (cls : Value) (d : Option Addr) (pn : List (Addr × Obj)), Zc cls d o → (∃ vs, o.data = .fields vs) → PSs (X.suite a ((a, o) :: pn)) (st :: sts) (ts a cls d)) (r : Cls1 X n hs l) :
      Cls1 X n (.ExceptHandler (some (.Name x q1)) (some n) (st :: sts) q2 :: hs) ((c, ts) :: l)
theorem ps_tryA {X : Cx} {n : Str} {i : Nat} {body : List Stmt} {h0 : ExceptHandler} {hds : List ExceptHandler} {l : List (Value × TC)} {pos : Pos} {tb : WX → TS} {Wo : WX} (es : X.stack = X.env :: X.outer) (ef : X.env.frame = some X.env.locals) (nd : X.N.Nodup) (ix : X.N[i]? = some n) (lc : X.env.kindOf n = some .local) (tk : Takes X Wo)
    (hb : ∀ (W : WX) (pn : List (Addr × Obj)) (xe : Value → Shared → Prop), Takes (X.tr pn xe) W → PassesOwn (model X.prog X.w) X.A X.env xe → PSs (X.tr pn xe) body (tb W))
    (hh : Cls1 X n (h0 :: hds) l) : PS X (.Try body (h0 :: hds) [] [] pos) (fun D σ H => tb (wCl X.K i Wo D l) D σ H) := by
  refine ⟨fun pins s σ H D I h => ?_⟩
  have okX := I.ok
  have frX : X.A.frames = some (X.env :: X.outer) := by rw [okX.frames, es]
  refine wpAny_Try_except (wpAny_mono ((hb (wCl X.K i Wo D l) (X.pn ++ pins) (fun e z1 => wpAny (model X.prog X.w) X.A (noteFrame e X.env) (fun _ z2 => wpAny (model X.prog X.w) X.A (setFlight e none) (fun _ z3 =>
    wpAny (model X.prog X.w) X.A (handleBy e X.env (h0 :: hds)) (SP X pins D) X.xe z3) X.xe z2) X.xe z1) (fun u z xx => ?_) PassesOwn.looking).run [] s σ H D (I.toTry _) h) (fun fl z hz => ?_) (fun e z hz => hz))
  · obtain ⟨a, B, y, pins', σ', H', cls, d, rfl, Jt, nb, up, sk, na, eo, ag, w⟩ := xx
    have J : Inv X pins σ' H' y := Jt.ofTry okX
    rw [es] at sk
    show wpAny (model X.prog X.w) X.A (noteFrame (.ref a) X.env) _ _ _
    refine Sky.land Zc.steady frX ef sk fun k3 f3 u3 => ?_
    have J3 : Inv X pins σ' H' { z with heap := k3 } := J.landed nb f3.1 (up.trans u3) eo ag
    obtain ⟨o3, v3, g3, z3, d3⟩ := f3.there
    have out : ∀ {k : Heap} {o : Obj} {vs : Array Value}, k.FunFrames B (X.env :: X.outer) → k.get? a = some o → o.data = .fields vs → a ∉ frs (X.env :: X.outer) := fun {k o vs} ff e dd hm => by
      obtain ⟨_, o', e', nf⟩ := ff.mem hm
      cases e.symm.trans e'
      exact nf _ dd
    have nfr := out f3.2.2.1 g3 d3
    have nL : a ≠ X.env.locals := fun q => nfr (List.mem_filterMap.mpr ⟨X.env, List.mem_cons_self, by rw [ef, q]⟩)
    have nF : a ∉ X.fs := fun hm => by
      obtain ⟨v, hv, q⟩ := List.mem_filterMap.mp hm
      exact nfr (List.mem_filterMap.mpr ⟨v, List.mem_cons_of_mem _ hv, q⟩)
    have S3 := J3.suite g3 d3 na nL nF
    have go : ∀ {hs : List ExceptHandler} {m : List (Value × TC)}, Cls1 X n hs m → wCl X.K i Wo D m cls d σ' H' → wpAny (model X.prog X.w) X.A (handleBy (.ref a) X.env hs) (SP X pins D) X.xe { z with heap := k3 } := by
      intro hs m hk
      induction hk with
      | nil =>
        intro w
        refine wpAny_handleBy_nil ?_
        obtain ⟨m1, m2, m3, o, vs, T, oT, vT, g, hz, hd, e1, er⟩ := id f3
        unfold PySem.passOn
        refine wpAny_bind (wpAny_field g hd e1 ?_)
        rw [if_neg (show ¬ ((Value.ref T == Value.none) = true) by simp)]
        have last : wpAny (model X.prog X.w) X.A (setFlight (.ref a) X.env.frame) (fun _ z4 => wpAny (model X.prog X.w) X.A (throw (.ref a) : Sem Flow) (SP X pins D) X.xe z4) X.xe { z with heap := k3 } := by
          rw [ef]
          exact HandSPX.setFlight_upZ f3 fun k4 hk4 u4 => wpAny_throw (tk _ _ ⟨a, B, y, pins, σ', H', cls, d, rfl, J, nb, (up.trans u3).trans u4, .inr (.inr (by rw [es]; exact hk4)), na, eo, ag, w⟩)
        first | exact wpAny_bind (wpAny_pure (wpAny_bind last)) | exact wpAny_bind last
      | @cons x c ts st sts q1 q2 hs2 l2 hc hsu r ih =>
        rintro ⟨b, hb1, hy, hn⟩
        refine wpAny_handleBy_cons (codeAny_handlers_test ?_) (by intro q; cases q)
        have lt : PySem.W.Looks (model X.prog X.w) k3 (typeOf (.ref a)) cls := fun A Q E s k q => wpAny_typeOf_ref (k _ _ g3) (by rw [z3.1]; exact q)
        have lm := PySem.W.exm_one (M := model X.prog X.w) J3.kIn lt hb1
        have look : ∀ {Q E : Value → Shared → Prop}, Q c { z with heap := k3 } → wpAny (model X.prog X.w) (X.A.mark (some (.ref a))) (eval (.Name x q1) X.env) Q E { z with heap := k3 } := fun {Q E} q => by
          obtain ⟨e1, e2, e3 | ⟨e3, e4, e5⟩⟩ := hc
          · exact ld_glob (X := X.suite a ((a, o3) :: (X.pn ++ pins))) S3 e1 e3 q e2
          · exact ld_blt (X := X.suite a ((a, o3) :: (X.pn ++ pins))) S3 e1 e3 e4 q e5 e2
        refine look (lm.here ?_)
        cases b with
        | false => exact ih (hn rfl)
        | true =>
          refine codeAny_handlers_suite_as (HandSPX.lands_againZ f3 fun k4 f4 u4 => ?_)
          have J4 : Inv X pins σ' H' { z with heap := k4 } := J.landed nb f4.1 ((up.trans u3).trans u4) eo ag
          obtain ⟨o4, v4, g4, z4, d4⟩ := f4.there
          refine store_ok (X := X.suite a ((a, o4) :: (X.pn ++ pins))) (v := .ref a) (J4.suite g4 d4 na nL nF) nd ix (.inl lc) rfl (fun z5 S5 => ?_) (.inr lc)
          have fin : ∀ {σ6 : L2.St} {H6 : Hp} {Q : Shared → Prop} {z6 : Shared}, Inv (X.suite a ((a, o4) :: (X.pn ++ pins))) [] σ6 H6 z6 → (∀ z7, Inv X pins (σ6.set i none) H6 z7 → Q z7) →
              wpAny (model X.prog X.w) X.A (do bindName X.env n .none; unbindBehindTheSuite X.env n q2) (fun _ z7 => Q z7) X.xe z6 := fun S6 q => gone_ok (S6.unsuite okX) nd ix lc q
          refine wpAny_mono ((hsu a o4 cls d (X.pn ++ pins) z4 ⟨_, d4⟩).run [] z5 _ H' _ S5 (hy rfl a na)) (fun fl z6 q => ?_) (fun _ _ q => False.elim q)
          cases fl with
          | ret u =>
            obtain ⟨v6, σ6, H6, S6, r6, q6⟩ := q
            exact fin S6 fun z7 J7 => ⟨_, _, _, J7, r6, q6⟩
          | next =>
            obtain ⟨σ6, H6, S6, q6⟩ := q
            exact fin S6 fun z7 J7 => ⟨_, _, J7, q6⟩
          | brk =>
            obtain ⟨σ6, H6, S6, q6⟩ := q
            exact fin S6 fun z7 J7 => ⟨_, _, J7, q6⟩
          | cont =>
            obtain ⟨σ6, H6, S6, q6⟩ := q
            exact fin S6 fun z7 J7 => ⟨_, _, J7, q6⟩
    exact go hh w
  · cases fl with
    | ret u =>
      obtain ⟨v, σ', H', J, r, q⟩ := hz
      exact ⟨v, σ', H', J.ofTry okX, r, q⟩
    | next =>
      obtain ⟨σ', H', J, q⟩ := hz
      exact wpAny_execs_nil ⟨σ', H', J.ofTry okX, q⟩
    | brk =>
      obtain ⟨σ', H', J, q⟩ := hz
      exact ⟨σ', H', J.ofTry okX, q⟩
    | cont =>
      obtain ⟨σ', H', J, q⟩ := hz
      exact ⟨σ', H', J.ofTry okX, q⟩
/-! ### what was caught: its fields, its class -/
/-- the caught one is known to the context -/
structure Got (Y : Cx) (a C : Addr) (d : Option Addr) (o : Obj) : Prop where
  mem : (a, o) ∈ Y.pn
  z : Zc (.ref C) d o
  f : ∃ vs, o.data = .fields vs
theorem Got.inst {Y : Cx} {a C dd : Addr} {d : Option Addr} {o : Obj} {pins : List (Addr × Obj)} {σ : L2.St} {H : Hp} {s : Shared} {fs : List (Str × V)} (G : Got Y a C d o) (I : Inv Y pins σ H s) (ed : d = some dd) (ea : H dd = some (.xd fs)) :
    ∃ (od : Obj) (mA : Str → Option Value), PySem.W.InstAt s.heap a o C (some od) ∧ (∀ n, PySem.W.lookIn n od = some (mA n)) ∧ ∀ f, RelO (fs.lookup f) (mA f) := by
  subst ed
  obtain ⟨ha, _⟩ := I.pin (a, o) (List.mem_append_left _ G.mem)
  obtain ⟨vs, hd⟩ := G.f
  obtain ⟨mA, hns, hr⟩ := (show ObjOk Y.prog Y.w H s.heap dd (.xd fs) from I.hok dd _ ea)
  obtain ⟨od, ho, hl⟩ := lookIn_ns hns
  exact ⟨od, mA, ⟨ha, G.z.1, by unfold PySem.W.notCls; rw [hd] <;> rfl, by rw [G.z.2]; exact ho⟩, hl, hr⟩
theorem pe_got {Y : Cx} {a C : Addr} {d : Option Addr} {o : Obj} {e : Expr} {te : TE} {pos : Pos} {n : Str} (G : Got Y a C d o) (T : XfC Y.K C) (nf : PySem.W.findIn Y.K (.ref C) n = some none) (he : PE Y e te) (hb : attributeBase e n Y.env (eval e Y.env) = eval e Y.env := by rfl) :
    PE Y (.Attribute e n pos) (fun σ H Q => te σ H fun x H1 => x = .ref a ∧ ∃ (dd : Addr) (fs : List (Str × V)) (v : V), d = some dd ∧ H1 dd = some (.xd fs) ∧ fs.lookup n = some v ∧ Q v H1) := by
  refine ⟨fun pins s σ H Q I h => attr_of hb (thn (he.run pins s σ H _ I h) fun u s1 hh => ?_)⟩
  obtain ⟨x, H1, I1, rx, ex, dd, fs, v, ed, ea, l, q⟩ := hh
  subst ex
  obtain rfl : u = Value.ref a := rx
  obtain ⟨od, mA, J, hl, hr⟩ := G.inst I1 ed ea
  obtain ⟨u, hu, ru⟩ := RelO.some_of (v := v) (o := mA n) (by rw [← l]; exact hr n)
  exact HandSPX.exc_get I1.kIn J T.ga T.gg T.exC (PySem.W.findObj_own T.hdC nf rfl (by rw [hl, hu])) (handed_of ru) ⟨v, H1, I1.tok _, ru, q⟩
/-- what isinstance asks of the class -/
structure IsC (K : PySem.W.Frag) (C : Addr) : Prop where
  cl : (PySem.W.clsIn K C).isSome = true
  ga : PySem.W.findIn K (.ref C) "__getattribute__" = some (some (.builtin "BaseException.__getattribute__"))
  gg : PySem.W.findIn K (.ref C) "__getattr__" = some none
  su : PySem.W.subIn K (.ref C) (.type "BaseException") = some true
  ca : PySem.W.findIn K (.ref C) "__class__" = some (some (.builtin "object.__class__"))
  sp : PySem.W.specialIn K (.builtin "object.__class__") "__get__" = some (some (.builtin "getset_descriptor.__get__"))
  tk : PySem.W.takesIn K (.builtin "object.__class__") = some true
  mr : PySem.W.mroIn K C (.type "object") = some true
def rIsG (K : PySem.W.Frag) (a C : Addr) (d : Option Addr) : List V → Hp → VK → Prop := fun xs H Q => ∃ (dd : Addr) (fs : List (Str × V)) (D : Addr) (b : Bool), d = some dd ∧ H dd = some (.xd fs) ∧ xs = [.ref a, .ref D] ∧ PySem.W.kitOne K (.ref C) (.ref D) = some b ∧ Q (.bl b) H
def rIsG2 (K : PySem.W.Frag) (a C : Addr) (d : Option Addr) : List V → Hp → VK → Prop := fun xs H Q => ∃ (dd : Addr) (fs : List (Str × V)) (t D1 D2 : Addr) (b : Bool), d = some dd ∧ H dd = some (.xd fs) ∧ xs = [.ref a, .ref t] ∧ H t = some (.tup [.ref D1, .ref D2]) ∧ PySem.W.kitAny K (.ref C) [.ref D1, .ref D2] = some b ∧ Q (.bl b) H
theorem call_isG {Y : Cx} {a C : Addr} {d : Option Addr} {o : Obj} (G : Got Y a C d o) (T : IsC Y.K C) : CallR Y (.builtin "isinstance") (rIsG Y.K a C d) := by
  intro pins s σ H xs us Q I r h
  obtain ⟨dd, fs, D, b, ed, ea, rfl, e, q⟩ := h
  obtain ⟨u1, u2, rfl, r1, r2⟩ := vals2 r
  cases (show u1 = Value.ref a from r1)
  cases (show u2 = Value.ref D from r2)
  obtain ⟨od, mA, J, _, _⟩ := G.inst I ed ea
  exact PySem.W.kia_one (PySem.W.kitx_exc T.cl T.ga T.gg T.su T.ca T.sp T.tk T.mr) I.kIn J e (fun z => nomatch z) fun tk => ⟨.bl b, H, I.tok tk, rfl, q⟩
theorem call_isG2 {Y : Cx} {a C : Addr} {d : Option Addr} {o : Obj} (G : Got Y a C d o) (T : IsC Y.K C) : CallR Y (.builtin "isinstance") (rIsG2 Y.K a C d) := by
  intro pins s σ H xs us Q I r h
  obtain ⟨dd, fs, t, D1, D2, b, ed, ea, rfl, ht, e, q⟩ := h
  obtain ⟨u1, u2, rfl, r1, r2⟩ := vals2 r
  cases (show u1 = Value.ref a from r1)
  cases (show u2 = Value.ref t from r2)
  obtain ⟨od, mA, J, _, _⟩ := G.inst I ed ea
  obtain ⟨_, its, rv, o1, g1, c1, n, y1⟩ := (show ObjOk Y.prog Y.w H s.heap t (.tup [.ref D1, .ref D2]) from I.hok t _ ht)
  have ei := ClsV.all (.cons (.own D1) (.cons (.own D2) .nil)) rv
  obtain ⟨w1, w2, w3, w4⟩ := o1
  simp only at c1 y1
  subst c1 y1
  exact PySem.W.kia_tup (PySem.W.kitx_exc T.cl T.ga T.gg T.su T.ca T.sp T.tk T.mr) I.kIn J g1 (by rw [ei]; exact e) (fun z => nomatch z) fun tk => ⟨.bl b, H, I.tok tk, rfl, q⟩
end Mx

set_option Elab.async false
set_option linter.all false
set_option maxRecDepth 100000
set_option maxHeartbeats 2000000
/-! the law's catcher: _law_field, _law_why, _law_refused -/
namespace Mx
open PySem PySem.Spec PyProof.Rows L2
/-! ### a def that is handed what was caught, within the suite -/
abbrev cxG (X : Cx) (qual : Str) (scope : Scope) (f : Addr) (cd : Value) (N : List Str) (A : Around) (outer : List Env) (s : Shared) (H : Hp) (p : Addr × Obj) : Cx := L2H.cxH (L2.CX X.prog X.w) X.prog X.w X.K X.mg X.base N qual scope f cd A outer s H (fun _ _ _ => False) p
theorem hot_call {X : Cx} {pins : List (Addr × Obj)} {σ : L2.St} {H : Hp} {s : Shared} {Q : VK} {us : List Value} {vs : List V} {k : Nat} {f a : Addr} {o : Obj} {fd : FuncData} {x qual : Str} {pa : Arguments} {body : List Stmt} {sc : Scope} {N ps : List Str} {t : TS} (F : FunD X.K x qual pa body sc [] [] f fd) (S : FnScope N ps sc)
    (hr : L2H.RoomH (k + 1) X.A) (hp : (a, o) ∈ X.pn) (hf : ∃ vs, o.data = .fields vs) (hb : Binds X.K fd ps []) (I : Inv X pins σ H s) (r : Vals vs us) (hl : vs.length = ps.length)
    (hbody : ∀ (cd : Value) (A : Around) (outer : List Env) (s : Shared) (H : Hp), L2H.RoomH k (A.deeper (envOfC qual sc s.heap.objs.size f cd)) → PSs (cxG X qual sc f cd N A outer s H (a, o)) body t)
    (h : t { nx := fun _ H' => Q .non H', rt := Q } (L2.start N vs) H) : wpAny (model X.prog X.w) X.A (call (.ref f) us) (EP X pins σ Q) X.xe s := by
  obtain ⟨oc, od, dV, kV, doc, pm, an, cdv, ct, osl, rfl, lk, hcd, _, _⟩ := F.ex
  have lu : us.length = ps.length := by rw [← r.length]; exact hl
  have bd := hb s us I.kIn (by rw [List.append_nil]; exact lu)
  rw [List.append_nil] at bd
  obtain ⟨vs0, hd0⟩ := hf
  have P1 := I.pin (a, o) (List.mem_append_left _ hp)
  have pk : L2H.PinOk X.stack H s (a, o) := ⟨P1.1, P1.2.1, fun hm => (List.mem_cons.mp (I.stkSub a hm)).elim P1.2.2.1 P1.2.2.2.1, P1.2.2.2.2⟩
  have e0 := I.env0
  have kind : ∀ y ∈ ps.zip us, sc.names.lookup y.1 = some .local ∨ (sc.names.lookup y.1 = some .cell ∧ ((cellsFrom (s.heap.objs.size + 1) sc.names []).lookup y.1).isSome = true) := fun ⟨n, v⟩ hy => by
    rcases S.par n (List.of_mem_zip hy).1 with q | q
    · exact .inl q
    · exact .inr ⟨q, PySem.W.cellsFrom_some _ _ _ (.inl q)⟩
  have key : codeAny (model X.prog X.w) X.A (.call (.ref f) ⟨us, []⟩) (CR (L2.CX X.prog X.w) X.stack X.prog X.w H s Q (fun _ _ _ => False)) s := by
    refine codeAny_call_function hr.depth (I.kIn _ _ lk) rfl S.co S.gen rfl (PySem.W.codeRec_of I.kIn hcd) (bd _ _ _ _ ?_)
    refine wpAny_newFunctionEnv_cells S.kind kind fun env he s1 x => ?_
    subst he
    refine ⟨I.nolimit.keeps x.toInCall.keep, codeAny_func ?_⟩
    have J : Inv (cxG X qual sc f cdv N X.A X.stack s H (a, o)) [] (L2.start N vs) H s1 := L2H.inv_startH S pk e0 hl r x
    refine wpAny_mono ((hbody cdv X.A X.stack s H (hr.deeper _)).run [] s1 (L2.start N vs) H _ J h) (fun fl s' hs => ?_) fun e s' hs => hs
    have fin : ∀ {σ' : L2.St} {H' : Hp} {v : V} {u : Value}, Inv (cxG X qual sc f cdv N X.A X.stack s H (a, o)) [] σ' H' s' → RelV v u → Q v H' → CE X.stack X.prog X.w H s Q u s' := fun J rv q => ⟨_, _, J.os, J.bare, J.base, J.hok, rv, q⟩
    cases fl with
    | ret u =>
      obtain ⟨v, σ', H', J, rv, q⟩ := hs
      exact fin J rv q
    | next =>
      obtain ⟨σ', H', J, q⟩ := hs
      exact fin (v := V.non) (u := Value.none) J rfl q
    | brk =>
      obtain ⟨_, _, _, q⟩ := hs
      exact q.elim
    | cont =>
      obtain ⟨_, _, _, q⟩ := hs
      exact q.elim
  refine wpAny_call (codeAny_mono key fun r s' hq => ?_)
  cases r with
  | error e =>
    obtain ⟨_, _, _, _, _, _, _, _, _, _, _, _, z⟩ := hq
    exact z.elim
  | ok fl =>
    cases fl with
    | ret u => exact I.after hq
    | next => exact False.elim hq
    | brk => exact False.elim hq
    | cont => exact False.elim hq
/-! ### _law_field -/
/-- if isinstance(e, D): return e.n -/
def tIsF (K : PySem.W.Frag) (a C : Addr) (d : Option Addr) (D : Addr) (n : Str) : TS := fun Dn σ H => σ[0]? = some (some (.ref a)) ∧ ∃ (dd : Addr) (fs : List (Str × V)) (b : Bool), d = some dd ∧ H dd = some (.xd fs) ∧ PySem.W.kitOne K (.ref C) (.ref D) = some b ∧
  (b = true → ∃ v, fs.lookup n = some v ∧ Dn.rt v H) ∧ (b = false → Dn.nx σ H)
def tIsF2 (K : PySem.W.Frag) (a C : Addr) (d : Option Addr) (D1 D2 : Addr) (n : Str) : TS := fun Dn σ H => σ[0]? = some (some (.ref a)) ∧ ∃ (dd : Addr) (fs : List (Str × V)) (b : Bool), d = some dd ∧ H dd = some (.xd fs) ∧ PySem.W.kitAny K (.ref C) [.ref D1, .ref D2] = some b ∧
  ∀ t, H t = none → (b = true → ∃ v, fs.lookup n = some v ∧ Dn.rt v (upd H t (.tup [.ref D1, .ref D2]))) ∧ (b = false → Dn.nx σ (upd H t (.tup [.ref D1, .ref D2])))
section
variable {Y : Cx} {a C D D1 D2 : Addr} {d : Option Addr} {o : Obj} {n x x1 x2 : Str} {p1 p2 p3 p4 p5 p6 p7 p8 p9 p10 p11 : Pos} {kt : Nat}
theorem ps_isF (G : Got Y a C d o) (T : IsC Y.K C) (T2 : XfC Y.K C) (nf : PySem.W.findIn Y.K (.ref C) n = some none) (h0 : Y.N[0]? = some ("_law_e" : Str)) (hv : Vis Y.env.scope "_law_e") (hi : Gl Y "isinstance") (hm : Y.mg "isinstance" = none) (hx : Gl Y x) (hD : Y.mg x = some (.ref D)) (hxd : (x == ("__debug__" : Str)) = false) :
    PS Y (.If (.Call (.Name "isinstance" p1) [.Name "_law_e" p2, .Name x p3] [] p4) [.Return (some (.Attribute (.Name "_law_e" p5) n p6)) p7] [] p8) (tIsF Y.K a C d D n) := by
  have pv : ∀ pos, PE Y (.Name "_law_e" pos) (tVar 0) := fun pos => pe_var h0 hv
  refine impS (ps_if (pt_val (pe_callB (call_isG G T) hi hm (by rfl) (pa_cons (pv _) (pa_cons (pe_glob (v := .ref D) hx hD rfl hxd) pa_nil)))) (pss_one (ps_ret (pe_got G T2 nf (pv _)))) pss_nil) fun Dn σ H h => ?_
  obtain ⟨e0, dd, fs, b, ed, ea, ek, h1, h2⟩ := h
  refine ⟨.ref a, e0, dd, fs, D, b, ed, ea, rfl, ek, b, rfl, ?_⟩
  cases b with
  | true =>
    obtain ⟨v, hl, q⟩ := h1 rfl
    exact iteT ⟨.ref a, e0, rfl, dd, fs, v, ed, ea, hl, q⟩
  | false => exact iteF (h2 rfl)
theorem ps_isF2 (G : Got Y a C d o) (T : IsC Y.K C) (T2 : XfC Y.K C) (nf : PySem.W.findIn Y.K (.ref C) n = some none) (h0 : Y.N[0]? = some ("_law_e" : Str)) (hv : Vis Y.env.scope "_law_e") (hi : Gl Y "isinstance") (hm : Y.mg "isinstance" = none)
    (hx1 : Gl Y x1) (hD1 : Y.mg x1 = some (.ref D1)) (hxd1 : (x1 == ("__debug__" : Str)) = false) (hx2 : Gl Y x2) (hD2 : Y.mg x2 = some (.ref D2)) (hxd2 : (x2 == ("__debug__" : Str)) = false) :
    PS Y (.If (.Call (.Name "isinstance" p1) [.Name "_law_e" p2, .Tuple [.Name x1 p3, .Name x2 p9] kt p10] [] p4) [.Return (some (.Attribute (.Name "_law_e" p5) n p6)) p7] [] p8) (tIsF2 Y.K a C d D1 D2 n) := by
  have pv : ∀ pos, PE Y (.Name "_law_e" pos) (tVar 0) := fun pos => pe_var h0 hv
  refine impS (ps_if (pt_val (pe_callB (call_isG2 G T) hi hm (by rfl) (pa_cons (pv _) (pa_cons (pe_tup (pa_cons (pe_glob (v := .ref D1) hx1 hD1 rfl hxd1) (pa_cons (pe_glob (v := .ref D2) hx2 hD2 rfl hxd2) pa_nil))) pa_nil)))) (pss_one (ps_ret (pe_got G T2 nf (pv _)))) pss_nil) fun Dn σ H h => ?_
  obtain ⟨e0, dd, fs, b, ed, ea, ek, h12⟩ := h
  refine ⟨.ref a, e0, by rw [sizeLine_eq]; simp, fun t ht => ⟨dd, fs, t, D1, D2, b, ed, ?_, rfl, upd_same, ek, b, rfl, ?_⟩⟩
  · rw [upd_ne (fun z => by rw [z, ht] at ea; cases ea)]
    exact ea
  · obtain ⟨h1, h2⟩ := h12 t ht
    cases b with
    | true =>
      obtain ⟨v, hl, q⟩ := h1 rfl
      exact iteT ⟨.ref a, e0, rfl, dd, fs, v, ed, by rw [upd_ne (fun z => by rw [z, ht] at ea; cases ea)]; exact ea, hl, q⟩
    | false => exact iteF (h2 rfl)
end

/-- the field that the law asks of a refusal -/
def fldE (c : String) : Option Str := if c = "TooBig" then some "rows" else if c = "TooMany" then some "most" else if c = "Unread" then some "at" else if c = "BadLine" then some "place" else if c = "Tangled" then some "name" else if c = "Loose" then some "name" else none
def fldV (c : String) (fs : List (Str × V)) : Option V := match fldE c with
  | some n => fs.lookup n
  | none => some .non
structure WhyC (K : PySem.W.Frag) (c : String) : Prop where
  xf : XfC K (He.ga K c)
  is : IsC K (He.ga K c)
  nof : NoF K (He.ga K c)
  kit : ∀ D ∈ (["TooBig", "TooMany", "Unread", "BadLine", "Tangled", "Loose"] : List String), PySem.W.kitOne K (.ref (He.ga K c)) (.ref (He.ga K D)) = some (decide (c = D))
  e0 : PySem.W.exmOne K (.ref (He.ga K c)) (.ref (He.ga K "HoldError")) = some (decide (famE c = 0))
  e1 : PySem.W.exmOne K (.ref (He.ga K c)) (.ref (He.ga K "NoName")) = some (decide (famE c = 1))
  e2 : PySem.W.exmOne K (.ref (He.ga K c)) (.ref (He.ga K "NothingLeft")) = some (decide (famE c = 2))
theorem isCB_ok {K : PySem.W.Frag} {C : Addr} (h : isCB K C = true) : IsC K C := by
  unfold isCB at h
  simp only [Bool.and_eq_true] at h
  obtain ⟨h1, h2, h3, h4, h5, h6, h7, h8⟩ := h
  exact ⟨h1, He.eqO_ok h2, He.eqO_ok h3, of_decide_eq_true h4, He.eqO_ok h5, He.eqO_ok h6, of_decide_eq_true h7, of_decide_eq_true h8⟩
theorem whyB_ok {K : PySem.W.Frag} {c : String} (h : whyB K c = true) : WhyC K c := by
  unfold whyB at h
  simp only [Bool.and_eq_true] at h
  obtain ⟨h1, h2, h3, h4, h5, h6, h7⟩ := h
  exact ⟨xfB_ok h1, isCB_ok h2, fun f hf => He.eqO_ok (List.all_eq_true.mp h3 f hf), fun D hD => of_decide_eq_true (List.all_eq_true.mp h4 D hD), of_decide_eq_true h5, of_decide_eq_true h6, of_decide_eq_true h7⟩
/-- H, or H and a tuple more -/
def OneMore (H H2 : Hp) : Prop := H2 = H ∨ ∃ (t : Addr) (cs : List V), H t = none ∧ H2 = upd H t (.tup cs)
def tFldB (a : Addr) (c : String) (d : Option Addr) : TS := fun Dn σ H => σ[0]? = some (some (.ref a)) ∧ ∃ (dd : Addr) (fs : List (Str × V)) (v : V), d = some dd ∧ H dd = some (.xd fs) ∧ fldV c fs = some v ∧ ∀ H2, OneMore H H2 → Dn.rt v H2
section
variable {Y : Cx} {a : Addr} {d : Option Addr} {o : Obj} {c : String} {q1 q2 q3 q4 q5 q6 q7 q8 q9 q10 q11 q12 q13 q14 q15 q16 q17 q18 q19 q20 q21 q22 q23 q24 q25 q26 q27 q28 q29 q30 q31 q32 q33 q34 q35 q36 q37 q38 q39 q40 q41 q42 q43 q44 : Pos} {k1 k2 : Nat}
theorem pss_field (G : Got Y a (He.ga Y.K c) d o) (T : WhyC Y.K c) (h0 : Y.N[0]? = some ("_law_e" : Str)) (hv : Vis Y.env.scope "_law_e") (hi : Gl Y "isinstance") (hm : Y.mg "isinstance" = none)
    (hx : ∀ D ∈ (["TooBig", "TooMany", "Unread", "BadLine", "Tangled", "Loose"] : List String), Gl Y (D : Str) ∧ Y.mg (D : Str) = some (.ref (He.ga Y.K D))) :
    PSs Y [.If (.Call (.Name "isinstance" q1) [.Name "_law_e" q2, .Name "TooBig" q3] [] q4) [.Return (some (.Attribute (.Name "_law_e" q5) "rows" q6)) q7] [] q8,
      .If (.Call (.Name "isinstance" q9) [.Name "_law_e" q10, .Name "TooMany" q11] [] q12) [.Return (some (.Attribute (.Name "_law_e" q13) "most" q14)) q15] [] q16,
      .If (.Call (.Name "isinstance" q17) [.Name "_law_e" q18, .Name "Unread" q19] [] q20) [.Return (some (.Attribute (.Name "_law_e" q21) "at" q22)) q23] [] q24,
      .If (.Call (.Name "isinstance" q25) [.Name "_law_e" q26, .Name "BadLine" q27] [] q28) [.Return (some (.Attribute (.Name "_law_e" q29) "place" q30)) q31] [] q32,
      .If (.Call (.Name "isinstance" q33) [.Name "_law_e" q34, .Tuple [.Name "Tangled" q35, .Name "Loose" q36] k1 q37] [] q38) [.Return (some (.Attribute (.Name "_law_e" q39) "name" q40)) q41] [] q42,
      .Return (some (.Constant .none k2 q43)) q44] (tFldB a c d) := by
  obtain ⟨g1, m1⟩ := hx "TooBig" (by decide)
  obtain ⟨g2, m2⟩ := hx "TooMany" (by decide)
  obtain ⟨g3, m3⟩ := hx "Unread" (by decide)
  obtain ⟨g4, m4⟩ := hx "BadLine" (by decide)
  obtain ⟨g5, m5⟩ := hx "Tangled" (by decide)
  obtain ⟨g6, m6⟩ := hx "Loose" (by decide)
  refine impSs (pss_cons (ps_isF G T.is T.xf (T.nof _ (by decide)) h0 hv hi hm g1 m1 (by decide)) (pss_cons (ps_isF G T.is T.xf (T.nof _ (by decide)) h0 hv hi hm g2 m2 (by decide)) (pss_cons (ps_isF G T.is T.xf (T.nof _ (by decide)) h0 hv hi hm g3 m3 (by decide))
    (pss_cons (ps_isF G T.is T.xf (T.nof _ (by decide)) h0 hv hi hm g4 m4 (by decide)) (pss_cons (ps_isF2 G T.is T.xf (T.nof _ (by decide)) h0 hv hi hm g5 m5 (by decide) g6 m6 (by decide)) (pss_one (ps_ret pe_non))))))) fun Dn σ H h => ?_
  obtain ⟨e0, dd, fs, v, ed, ea, ev, h⟩ := h
  have j1 := T.kit "TooBig" (by decide)
  have j2 := T.kit "TooMany" (by decide)
  have j3 := T.kit "Unread" (by decide)
  have j4 := T.kit "BadLine" (by decide)
  have j5 := T.kit "Tangled" (by decide)
  have j6 := T.kit "Loose" (by decide)
  refine ⟨e0, dd, fs, _, ed, ea, j1, fun hb => ?_, fun hb => ?_⟩
  · have := of_decide_eq_true hb
    subst this
    exact ⟨v, ev, h H (.inl rfl)⟩
  have n1 := of_decide_eq_false hb
  refine ⟨e0, dd, fs, _, ed, ea, j2, fun hb => ?_, fun hb => ?_⟩
  · have := of_decide_eq_true hb
    subst this
    exact ⟨v, ev, h H (.inl rfl)⟩
  have n2 := of_decide_eq_false hb
  refine ⟨e0, dd, fs, _, ed, ea, j3, fun hb => ?_, fun hb => ?_⟩
  · have := of_decide_eq_true hb
    subst this
    exact ⟨v, ev, h H (.inl rfl)⟩
  have n3 := of_decide_eq_false hb
  refine ⟨e0, dd, fs, _, ed, ea, j4, fun hb => ?_, fun hb => ?_⟩
  · have := of_decide_eq_true hb
    subst this
    exact ⟨v, ev, h H (.inl rfl)⟩
  have n4 := of_decide_eq_false hb
  refine ⟨e0, dd, fs, decide (c = "Tangled") || decide (c = "Loose"), ed, ea, kitAny_cons j5 (fun z => kitAny_cons j6 (fun y => ?_) fun y => ?_) fun z => ?_, fun t ht => ⟨fun hb => ?_, fun hb => ?_⟩⟩
  · rw [z, y] <;> rfl
  · rw [z, y] <;> rfl
  · rw [z] <;> rfl
  · have : fldE c = some "name" := by
      rcases Bool.or_eq_true _ _ ▸ hb with z | z
      · rw [of_decide_eq_true z]; rfl
      · rw [of_decide_eq_true z]; rfl
    unfold fldV at ev
    rw [this] at ev
    exact ⟨v, ev, h _ (.inr ⟨t, _, ht, rfl⟩)⟩
  · obtain ⟨n5, n6⟩ := Bool.or_eq_false_iff.mp hb
    have n5 := of_decide_eq_false n5
    have n6 := of_decide_eq_false n6
    have : fldE c = none := by
      simp only [fldE, if_neg n1, if_neg n2, if_neg n3, if_neg n4, if_neg n5, if_neg n6]
    unfold fldV at ev
    rw [this] at ev
    cases ev
    exact h _ (.inr ⟨t, _, ht, rfl⟩)
end
end Mx

set_option Elab.async false
set_option linter.all false
set_option maxRecDepth 100000
set_option maxHeartbeats 2000000
namespace Mx
open PySem PySem.Spec PyProof.Rows L2
/-- the law's def that is handed what was caught -/
structure FieldD (K : PySem.W.Frag) (mg : Str → Option Value) (f : Addr) (body : List Stmt) (sc : Scope) : Prop where
  mg_ : mg "_law_field" = some (.ref f)
  fd : ∃ pa fd, FunD K "_law_field" "_law_field" pa body sc [] [] f fd ∧ Binds K fd [("_law_e" : Str)] []
  sc_ : FnScope ["_law_e"] ["_law_e"] sc
  body_ : ∀ (Y : Cx) (a : Addr) (d : Option Addr) (o : Obj) (c : String), Y.K = K → Y.mg = mg → Y.env.scope = sc → Y.N = [("_law_e" : Str)] → Got Y a (He.ga Y.K c) d o → WhyC Y.K c → PSs Y body (tFldB a c d)
def whyV (c : String) (fs : List (Str × V)) : Option (V × V) := match famE c with
  | 0 => match fs.lookup ("called" : Str), fldV c fs with
    | some x, some y => some (x, y)
    | _, _ => none
  | 1 => (fs.lookup ("name" : Str)).map fun y => (.str "NoName", y)
  | _ => (fs.lookup ("called" : Str)).map fun x => (x, .non)
theorem whyV0 {c : String} {fs : List (Str × V)} {x y : V} (hn : famE c = 0) (h : whyV c fs = some (x, y)) : fs.lookup ("called" : Str) = some x ∧ fldV c fs = some y := by
  unfold whyV at h
  rw [hn] at h
  cases e1 : fs.lookup ("called" : Str) with
  | none => simp [e1] at h
  | some u =>
    cases e2 : fldV c fs with
    | none => simp [e1, e2] at h
    | some v => simp [e1, e2] at h; rw [h.1, h.2]; exact ⟨rfl, rfl⟩
theorem whyV1 {c : String} {fs : List (Str × V)} {x y : V} (hn : famE c = 1) (h : whyV c fs = some (x, y)) : x = .str "NoName" ∧ fs.lookup ("name" : Str) = some y := by
  unfold whyV at h
  rw [hn] at h
  cases e1 : fs.lookup ("name" : Str) with
  | none => simp [e1] at h
  | some u => simp [e1] at h; rw [h.2]; exact ⟨h.1.symm, rfl⟩
theorem whyV2 {c : String} {fs : List (Str × V)} {x y : V} (hn : famE c = 2) (h : whyV c fs = some (x, y)) : y = .non ∧ fs.lookup ("called" : Str) = some x := by
  unfold whyV at h
  rw [hn] at h
  cases e1 : fs.lookup ("called" : Str) with
  | none => simp [e1] at h
  | some u => simp [e1] at h; rw [h.1]; exact ⟨h.2.symm, rfl⟩
/-- the catcher's promise: tl, the reading of what it calls -/
def TTwhy (K : PySem.W.Frag) (T : List String) : (XK → Hp → VK → Prop) → Hp → VK → Prop := fun tl H Q =>
  tl (fun cls d H' => ∃ (c : String) (dd : Addr) (fs : List (Str × V)) (x y : V), c ∈ T ∧ cls = .ref (He.ga K c) ∧ d = some dd ∧ H' dd = some (.xd fs) ∧ whyV c fs = some (x, y) ∧ ∀ H2, OneMore H' H2 → ∀ p, H2 p = none → Q (.ref p) (upd H2 p (.tup [x, y]))) H
    fun _ H' => ([V.str "told", V.non] : List V).length ≤ sizeLine ∧ ∀ p, H' p = none → Q (.ref p) (upd H' p (.tup [.str "told", .non]))
/-- one suite's wish -/
def tSu (K : PySem.W.Frag) (T : List String) (n : Nat) (wh : String → List (Str × V) → Option (V × V)) : TC := fun a cls d Dn σ H => ∃ (c : String) (dd : Addr) (fs : List (Str × V)) (x y : V), c ∈ T ∧ famE c = n ∧ cls = .ref (He.ga K c) ∧ d = some dd ∧ H dd = some (.xd fs) ∧ wh c fs = some (x, y) ∧ (1 < σ.length → σ[1]? = some (some (.ref a))) ∧
  ∀ H2, OneMore H H2 → ∀ p, H2 p = none → Dn.rt (.ref p) (upd H2 p (.tup [x, y]))
theorem pss_of {X : Cx} {ss : List Stmt} {t : TS} (h : ∀ D σ H, σ.length = X.N.length → t D σ H → ∃ u, PSs X ss u ∧ u D σ H) : PSs X ss t := ⟨fun pins s σ H D I q => by
  obtain ⟨u, hu, q⟩ := h D σ H I.len q
  exact hu.run pins s σ H D I q⟩
section
variable {Y : Cx} {a : Addr} {d : Option Addr} {o : Obj} {c : String} {k : Nat} {f : Addr} {body : List Stmt} {sc : Scope} {p1 p2 p3 : Pos}
/-- _law_field(e) -/
theorem pe_field (F : FieldD Y.K Y.mg f body sc) (G : Got Y a (He.ga Y.K c) d o) (T : WhyC Y.K c) (hr : L2H.RoomH (k + 1) Y.A) (hg : Gl Y "_law_field") (pv : ∀ pos, PE Y (.Name "_law_e" pos) (tVar 1)) :
    PE Y (.Call (.Name "_law_field" p1) [.Name "_law_e" p2] [] p3) (fun σ H Q => σ[1]? = some (some (.ref a)) ∧ ∃ (dd : Addr) (fs : List (Str × V)) (v : V), d = some dd ∧ H dd = some (.xd fs) ∧ fldV c fs = some v ∧ ∀ H2, OneMore H H2 → Q v H2) := by
  obtain ⟨pa, fd, F1, hb⟩ := F.fd
  refine ⟨fun pins s σ H Q I h => ?_⟩
  obtain ⟨e0, dd, fs, v, ed, ea, ev, q⟩ := h
  refine wpAny_Call_Name_kw (ld_glob I hg F.mg_ ?_ (by decide))
  refine PySem.W.callWith_K (h₀ := Y.base) I.ok.mod.kin F1.kp (thn ((pa_cons (pv p2) pa_nil).run p3 pins s σ H (fun vs H1 => vs = [.ref a] ∧ H1 = H) I ⟨_, e0, rfl, rfl⟩) fun us s1 ⟨vs, H1, I1, r, ev', eH⟩ => ⟨I1.kIn, ?_⟩) rfl rfl
  subst ev' eH
  exact hot_call F1 F.sc_ hr G.mem G.f hb I1 r rfl (fun cd A outer s H hr' => F.body_ _ a d o c rfl rfl rfl rfl ⟨List.mem_cons_self, G.z, G.f⟩ T) ⟨rfl, dd, fs, v, ed, ea, ev, fun H2 h2 => q H2 h2⟩
end
section
variable {X : Cx} {sg : Scope} {g : Addr} {cdg : Value} {q : Str} {k : Nat} {T : List String} {n : Str} {j1 j2 j3 j4 j5 j6 j7 j8 : Nat} {q1 q2 q3 q4 q5 q6 q7 q8 q9 q10 q11 q12 q13 q14 q15 q16 q17 q18 q19 q20 q21 q22 q23 q24 q25 q26 q27 q28 q29 q30 q31 : Pos}
theorem fam_lt (c : String) : famE c = 0 ∨ famE c = 1 ∨ famE c = 2 := by
  unfold famE
  split
  · exact .inr (.inl rfl)
  · split
    · exact .inr (.inr rfl)
    · exact .inl rfl
theorem why_gives {fF : Addr} {bodyF : List Stmt} {scF : Scope} (F : FieldD X.K X.mg fF bodyF scF) (hT : ∀ c ∈ T, WhyC X.K c) (hr : Room (k + 2) X.A) (nd : (["_law_act", "_law_e"] : List Str).Nodup)
    (v0 : sg.names.lookup ("_law_act" : Str) = some .local) (v1 : sg.names.lookup ("_law_e" : Str) = some .local) (hf : sg.names.lookup ("_law_field" : Str) = some .globalImplicit)
    (hx : ∀ D ∈ (["HoldError", "NoName", "NothingLeft"] : List String), sg.names.lookup (D : Str) = some .globalImplicit ∧ X.mg (D : Str) = some (.ref (He.ga X.K D))) :
    LamX.GivesTo X ["_law_act", "_law_e"] "_law_why" sg g cdg
      [.Try [.Expr (.Call (.Name "_law_act" q1) [] [] q2) q3]
        [.ExceptHandler (some (.Name "HoldError" q4)) (some "_law_e") [.Return (some (.Tuple [.Attribute (.Name "_law_e" q5) "called" q6, .Call (.Name "_law_field" q7) [.Name "_law_e" q8] [] q9] j1 q10)) q11] q12,
         .ExceptHandler (some (.Name "NoName" q13)) (some "_law_e") [.Return (some (.Tuple [.Constant (.str "NoName") j2 q14, .Attribute (.Name "_law_e" q15) "name" q16] j3 q17)) q18] q19,
         .ExceptHandler (some (.Name "NothingLeft" q20)) (some "_law_e") [.Return (some (.Tuple [.Attribute (.Name "_law_e" q21) "called" q22, .Constant .none j4 q23] j5 q24)) q25] q26] [] [] q27,
       .Return (some (.Tuple [.Constant (.str "told") j6 q28, .Constant .none j7 q29] j8 q30)) q31] "_law_act" q (TTwhy X.K T) := by
  intro f c' s H Q tl act hc h
  have len2 : ∀ x y : V, ([x, y] : List V).length ≤ sizeLine := fun x y => by rw [sizeLine_eq]; simp
  obtain ⟨g0, m0⟩ := hx "HoldError" (by decide)
  obtain ⟨g1, m1⟩ := hx "NoName" (by decide)
  obtain ⟨g2, m2⟩ := hx "NothingLeft" (by decide)
  have hrG : ∀ (a : Addr), L2H.RoomH (k + 1) ((X.A.deeper (envOfC "_law_why" sg s.heap.objs.size g cdg)).mark (some (.ref a))) := fun a => by
    have h1 := hr.deeper (envOfC "_law_why" sg s.heap.objs.size g cdg)
    exact ⟨h1.dp, h1.un⟩
  have wish : ∀ (σ' : L2.St) (a : Addr), 1 < (σ'.set 1 (some (V.ref a))).length → (σ'.set 1 (some (V.ref a)))[1]? = some (some (V.ref a)) := fun σ' a h1 => List.getElem?_set_self (by simpa using h1)
  have su : ∀ (n : Nat) (ss : List Stmt) (u : String → TS), (∀ (a : Addr) (o : Obj) (c : String) (d : Option Addr) (pn : List (Addr × Obj)), c ∈ T → famE c = n → Got ((cxOf C8.CX0 X.prog X.w X.K X.mg X.base ["_law_act", "_law_e"] "_law_why" sg g cdg X.A X.stack s H C8.E0).nox.suite a ((a, o) :: pn)) a (He.ga X.K c) d o →
      ∀ (Dn : Ends) (σ : L2.St) (H1 : Hp) (dd : Addr) (fs : List (Str × V)) (x y : V), d = some dd → H1 dd = some (.xd fs) → whyV c fs = some (x, y) → σ[1]? = some (some (.ref a)) → (∀ H2, OneMore H1 H2 → ∀ p, H2 p = none → Dn.rt (.ref p) (upd H2 p (.tup [x, y]))) →
      ∃ u : TS, PSs ((cxOf C8.CX0 X.prog X.w X.K X.mg X.base ["_law_act", "_law_e"] "_law_why" sg g cdg X.A X.stack s H C8.E0).nox.suite a ((a, o) :: pn)) ss u ∧ u Dn σ H1) →
      ∀ (a : Addr) (o : Obj) (cls : Value) (d : Option Addr) (pn : List (Addr × Obj)), Zc cls d o → (∃ vs, o.data = .fields vs) → PSs ((cxOf C8.CX0 X.prog X.w X.K X.mg X.base ["_law_act", "_law_e"] "_law_why" sg g cdg X.A X.stack s H C8.E0).nox.suite a ((a, o) :: pn)) ss (tSu X.K T n whyV a cls d) := by
    intro n ss u hs a o cls d pn hz hf
    refine pss_of fun Dn σ H1 hl ⟨c, dd, fs, x, y, hc, hn, ec, ed, ea, ew, e1, hq⟩ => ?_
    subst ec
    exact hs a o c d pn hc hn ⟨List.mem_cons_self, hz, hf⟩ Dn σ H1 dd fs x y ed ea ew (e1 (by rw [hl]; exact Nat.lt_succ_self 1)) hq
  have pv : ∀ (a : Addr) (o : Obj) (pn : List (Addr × Obj)) (pos : Pos), PE ((cxOf C8.CX0 X.prog X.w X.K X.mg X.base ["_law_act", "_law_e"] "_law_why" sg g cdg X.A X.stack s H C8.E0).nox.suite a ((a, o) :: pn)) (.Name "_law_e" pos) (tVar 1) := fun a o pn pos => pe_var (i := 1) rfl (.inl v1)
  have S0 := su 0 [.Return (some (.Tuple [.Attribute (.Name "_law_e" q5) "called" q6, .Call (.Name "_law_field" q7) [.Name "_law_e" q8] [] q9] j1 q10)) q11] (fun _ => tNext) fun a o c d pn hc hn G Dn σ H1 dd fs x y ed ea ew e1 hq => by
    refine ⟨_, pss_one (ps_ret (pe_tup (pa_cons (pe_got G (hT c hc).xf ((hT c hc).nof _ (by decide)) (pv a o pn _)) (pa_cons (pe_field F G (hT c hc) (hrG a) hf (pv a o pn)) pa_nil)))), ?_⟩
    obtain ⟨l1, l2⟩ := whyV0 hn ew
    exact ⟨.ref a, e1, rfl, dd, fs, x, ed, ea, l1, e1, dd, fs, y, ed, ea, l2, fun H2 h2 => ⟨len2 x y, fun p hp => hq H2 h2 p hp⟩⟩
  have S1 := su 1 [.Return (some (.Tuple [.Constant (.str "NoName") j2 q14, .Attribute (.Name "_law_e" q15) "name" q16] j3 q17)) q18] (fun _ => tNext) fun a o c d pn hc hn G Dn σ H1 dd fs x y ed ea ew e1 hq => by
    refine ⟨_, pss_one (ps_ret (pe_tup (pa_cons pe_str (pa_cons (pe_got G (hT c hc).xf ((hT c hc).nof _ (by decide)) (pv a o pn _)) pa_nil)))), ?_⟩
    obtain ⟨rfl, l1⟩ := whyV1 hn ew
    exact ⟨.ref a, e1, rfl, dd, fs, y, ed, ea, l1, len2 _ y, fun p hp => hq H1 (.inl rfl) p hp⟩
  have S2 := su 2 [.Return (some (.Tuple [.Attribute (.Name "_law_e" q21) "called" q22, .Constant .none j4 q23] j5 q24)) q25] (fun _ => tNext) fun a o c d pn hc hn G Dn σ H1 dd fs x y ed ea ew e1 hq => by
    refine ⟨_, pss_one (ps_ret (pe_tup (pa_cons (pe_got G (hT c hc).xf ((hT c hc).nof _ (by decide)) (pv a o pn _)) (pa_cons pe_non pa_nil)))), ?_⟩
    obtain ⟨rfl, l1⟩ := whyV2 hn ew
    exact ⟨.ref a, e1, rfl, dd, fs, x, ed, ea, l1, len2 x _, fun p hp => hq H1 (.inl rfl) p hp⟩
  refine ⟨_, pss_cons (ps_tryA (X := (cxOf C8.CX0 X.prog X.w X.K X.mg X.base ["_law_act", "_law_e"] "_law_why" sg g cdg X.A X.stack s H C8.E0).nox) (n := "_law_e") (i := 1) (Wo := fun _ _ _ _ => False)
      (tb := fun W D σ H => ∃ Ech : XK, (∀ cls d σ' H', Ech cls d H' → W cls d σ' H') ∧ σ[0]? = some (some (.ref f)) ∧ H c' = some (LamX.CodeO c' q) ∧ tl Ech H fun _ H' => D.nx σ H')
      rfl rfl nd rfl v1 LamX.takes0 (fun W pn xe tk _ => ?_) (.cons ⟨g0, by decide, .inl m0⟩ S0 (.cons ⟨g1, by decide, .inl m1⟩ S1 (.cons ⟨g2, by decide, .inl m2⟩ S2 .nil)))) (pss_one (ps_ret (pe_tup (pa_cons pe_str (pa_cons pe_non pa_nil))))), ?_⟩
  · refine ⟨fun pins s' σ H' D I h' => ?_⟩
    obtain ⟨Ech, hW, h1, h2, h3⟩ := h'
    exact (pss_one (ps_expr (act W pn xe Ech q1 q2 tk hW))).run pins s' σ H' D I ⟨h1, h2, h3⟩
  · refine ⟨_, fun cls d σ' H' ⟨c, dd, fs, x, y, hcT, ec, ed, ea, ew, hq⟩ => ?_, rfl, hc, h⟩
    have W := hT c hcT
    subst ec
    refine ⟨_, W.e0, fun hb a ha => ⟨c, dd, fs, x, y, hcT, of_decide_eq_true hb, rfl, ed, ea, ew, wish σ' a, hq⟩, fun hb => ⟨_, W.e1, fun hb a ha => ⟨c, dd, fs, x, y, hcT, of_decide_eq_true hb, rfl, ed, ea, ew, wish σ' a, hq⟩, fun hb2 => ⟨_, W.e2, fun hb a ha => ⟨c, dd, fs, x, y, hcT, of_decide_eq_true hb, rfl, ed, ea, ew, wish σ' a, hq⟩, fun hb3 => ?_⟩⟩⟩
    have h0 := of_decide_eq_false hb
    have h1 := of_decide_eq_false hb2
    have h2 := of_decide_eq_false hb3
    rcases fam_lt c with z | z | z
    · exact h0 z
    · exact h1 z
    · exact h2 z
end
end Mx

set_option Elab.async false
set_option linter.all false
set_option maxRecDepth 100000
set_option maxHeartbeats 2000000
/-! a lambda handed to the law's catcher -/
namespace Mx
open PySem PySem.Spec PyProof.Rows L2
/-! ### the lambda is made -/
/-- what the making leaves: nothing new, or a new code object in the table -/
def Step1 (P : Addr) (q : Str) (pos : Pos) (H H1 : Hp) : Prop := H1 = H ∨ ∃ (c : Addr) (ps : Array Value), H P = some (.tbl ps) ∧ H c = none ∧ TriplesOk (ps.toList ++ [rawInt pos.line, rawInt pos.col, .ref c]) ∧ H1 = upd (upd H P (.tbl (ps ++ #[rawInt pos.line, rawInt pos.col, .ref c]))) c (LamX.CodeO c q)
section
variable {X : Cx} {pins : List (Addr × Obj)} {σ : L2.St} {H : Hp} {s : Shared}
theorem lam_made {c P : Addr} {params : Arguments} {body : Expr} {scope : Scope} {pos : Pos} {E : Value → Shared → Prop} {Q : Value → Shared → Prop} (I : Inv X pins σ H s) (TB : LamX.TabB X.base X.mg c P) (hcode : X.env.code = .ref c)
    (hT : LamX.TabS H P (X.env.qual ++ "<lambda>")) (hdef : defaultsOf params X.env = ([], [])) (hfree : ∀ y ∈ scope.names, y.2 = .free → ∃ c, X.env.cells.lookup y.1 = some c)
    (h : ∀ (f c' : Addr) (pm ctv : Value) (H1 : Hp) (s' : Shared), Inv X pins σ H1 s' → Step1 P (X.env.qual ++ "<lambda>") pos H H1 →
      s'.heap.get? f = some (PySem.W.kla_obj "<lambda>" (X.env.qual ++ "<lambda>") params body scope (cloFrom X.env.cells scope.names []) pm c' ctv) → H1 f = none → f ∉ frs X.stack → H1 c' = some (LamX.CodeO c' (X.env.qual ++ "<lambda>")) → Q (.ref f) s') :
    wpAny (model X.prog X.w) X.A (eval (.Lambda params body scope pos) X.env) Q E s := by
  obtain ⟨tb, hP, h3, hin⟩ := hT
  have bP := TB.bm.keeps I.bk
  have gP : s.heap.get? P = some { cls := .none, data := .fields tb } := I.hok P _ hP
  have notFrame : ∀ b, s.heap.objs.size ≤ b → b ∉ frs X.stack := fun b hb z => (List.mem_cons.mp (I.stkSub _ z)).elim (fun e => absurd I.lt (by rw [← e]; exact Nat.not_lt.mpr hb)) fun e => I.nofs hb e
  refine PySem.W.kla_eval hdef ?_
  cases hc : codeAmong pos tb.toList with
  | some cv =>
    obtain ⟨c', rfl, hco⟩ := hin pos cv hc
    refine PySem.W.kla_makeFunctionHit (mg := X.mg) (c := c) (P := P) (ps := tb) (closure_ok hfree) I.ok.glob (I.mod.glob.keeps I.bk) hcode (TB.code.keeps I.bk) gP h3 hc bP fun ctv k tk hx hs => ?_
    exact h k.objs.size c' _ ctv H _ (I.kept (t' := tk) fun b o e => Heap.get?_push_of_some _ (hx b o e)) (.inl rfl) (Heap.get?_push_size _ rfl) (I.hok.fresh hs) (notFrame _ hs) hco
  | none =>
    refine PySem.W.kla_makeFunction (mg := X.mg) (c := c) (P := P) (ps := tb) (closure_ok hfree) I.ok.glob (I.mod.glob.keeps I.bk) hcode (TB.code.keeps I.bk) gP h3 hc TB.gP bP fun c' ctv k tk hx hge hlt hrec ht => ?_
    obtain ⟨c2, oc, vs, t, e2, hoc, hd, hv⟩ := hrec
    cases e2
    have le : s.heap.objs.size ≤ k.objs.size := Nat.le_trans hge (Nat.le_of_lt hlt)
    have nc : H c' = none := I.hok.fresh hge
    have J := LamX.inv_table (t' := tk) (q := X.env.qual ++ "<lambda>") (more := #[rawInt pos.line, rawInt pos.col, .ref c']) (h' := k.push (PySem.W.kla_obj "<lambda>" (X.env.qual ++ "<lambda>") params body scope (cloFrom X.env.cells scope.names []) ((X.mg "__name__").getD .none) c' ctv)) I hP
      (fun b o hb e => Heap.get?_push_of_some _ (hx b o hb e)) (Heap.get?_push_of_some _ ht) hge ⟨oc, vs, t, Heap.get?_push_of_some _ hoc, hd, hv⟩
    refine h k.objs.size c' _ ctv _ _ J (.inr ⟨c', tb, hP, nc, PySem.TriplesOk_snoc _ _ _ _ h3, rfl⟩) (Heap.get?_push_size _ rfl) ?_ (notFrame _ le) upd_same
    rw [upd_ne (Nat.ne_of_gt hlt), upd_ne (Nat.ne_of_gt (Nat.lt_of_lt_of_le (Heap.lt_size gP) le))]
    exact I.hok.fresh le
end
def tLam1 (P : Addr) (q : Str) (pos : Pos) (TT : (XK → Hp → VK → Prop) → Hp → VK → Prop) (t : XK → TE) : TE := fun σ H Q => LamX.TabS H P q ∧ ∀ H1, Step1 P q pos H H1 → TT (fun E H' Q' => t E σ H' Q') H1 Q
theorem pe_lam1 {X : Cx} {TT : (XK → Hp → VK → Prop) → Hp → VK → Prop} {x a : Str} {g c P : Addr} {k : Nat} {pg : Arguments} {bg : List Stmt} {sg : Scope} {fd : FuncData} {Ng : List Str} {params : Arguments} {body : Expr} {scope : Scope} {t : XK → TE} {p lpos pos : Pos} (hg : Gl X x) (hm : X.mg x = some (.ref g))
    (F : FunD X.K x x pg bg sg [] [] g fd) (hb : Binds X.K fd [a] []) (Sg : FnScope Ng [a] sg) (h0 : Ng[0]? = some a) (hva : Vis sg a)
    (hG : ∀ cdg, LamX.GivesTo X Ng x sg g cdg bg a (X.env.qual ++ "<lambda>") TT) (TB : LamX.TabB X.base X.mg c P) (hcode : X.env.code = .ref c) (hr : Room (k + 2) X.A) (L : LamX.LamS X.env.scope scope) (hdef : defaultsOf params X.env = ([], []))
    (hbind : ∀ (q : Str) (cl : List (Str × Addr)) (pm cv ctv : Value), bindArgs (PySem.W.kla_fn "<lambda>" q params body scope cl pm cv ctv) ⟨[], []⟩ = pure [])
    (hbody : ∀ (A : Around) (outer : List Env) (s : Shared) (H : Hp) (E : XK) (f c' : Addr), Room k (A.deeper (LamX.lamEnv X scope s.heap.objs.size f c')) → PE (LamX.lamCx X A outer s H E scope f c') body (t E))
    (hdb : (x == ("__debug__" : Str)) = false := by decide) (hd : (a == ("__debug__" : Str)) = false := by decide) (hcd : (a == ("__classdict__" : Str)) = false := by decide) :
    PE X (.Call (.Name x p) [.Lambda params body scope lpos] [] pos) (tLam1 P (X.env.qual ++ "<lambda>") lpos TT t) := by
  obtain ⟨oc, od, dV, kV, doc, pm, an, cdv, ct, osl, rfl, lk, hcg, _, _⟩ := F.ex
  refine ⟨fun pins s σ H Q I ⟨hT, h⟩ => wpAny_Call_Name_kw (ld_glob I hg hm (PySem.W.callWith_K (h₀ := X.base) I.ok.mod.kin F.kp ?_ (by rfl) (by rfl)) hdb)⟩
  show wpAny _ _ (spliced ((false, eval (.Lambda params body scope lpos) X.env) :: backTo pos (starEach [] X.env))) _ _ s
  refine Calls.spliced_cons (lam_made I TB hcode hT hdef (L.has I.ok) fun f c' pm' ctv H1 s' J st hf hfn hfr hco => Calls.spliced_nil ⟨J.kIn, ?_⟩)
  have run : codeAny (model X.prog X.w) X.A (.call (.ref g) ⟨[.ref f], []⟩) (CR C8.CX0 X.stack X.prog X.w H1 s' Q C8.E0) s' := by
    refine LamX.run_ofS (N := Ng) (ps := [a]) (us := [.ref f]) (vs := [.ref f]) lk hcg Sg hr J.env0 (hb s' [.ref f] J.kIn rfl) (.cons rfl .nil) rfl fun hr2 => ?_
    obtain ⟨u, hu, hq⟩ := hG cdv f c' s' H1 Q (fun E H' Q' => t E σ H' Q') (fun W pn xe E p1 p2 tk hW => LamX.pe_act (i := 0) J L hf hfn hfr (hbind _ _ _ _ _) tk hW hr2 (fun A outer s H hr3 => hbody A outer s H E f c' hr3) h0 hva hd hcd) hco (h H1 st)
    exact ⟨u, hu.nox, hq⟩
  refine wpAny_call (codeAny_mono run fun r s2 hq => ?_)
  cases r with
  | error e => exact (show False from hq).elim
  | ok fl =>
    cases fl with
    | ret u => exact J.after hq
    | next => exact False.elim hq
    | brk => exact False.elim hq
    | cont => exact False.elim hq
end Mx

set_option Elab.async false
set_option linter.all false
set_option maxRecDepth 100000
set_option maxHeartbeats 2000000
namespace Mx
open PySem PySem.Spec PyProof.Rows L2
section
variable {K : PySem.W.Frag} {is : List Addr} {fz : Addr → Prop} {H : Hp}
theorem lk_rep {f : Str} {x : D} : ∀ {fs : List (Str × V)} {es : List (Str × D)}, fs.map (·.1) = es.map (·.1) → RepA K is fz H (fs.map (·.2)) (es.map (·.2)) → es.lookup f = some x → ∃ v, fs.lookup f = some v ∧ Rep K is fz H v x
  | [], [], _, _, h => by cases h
  | [], _ :: _, e, _, _ => by cases e
  | _ :: _, [], e, _, _ => by cases e
  | (n, v) :: fs, (m, y) :: es, e, r, h => by
    simp only [List.map_cons, List.cons.injEq] at e
    obtain ⟨rfl, e⟩ := e
    cases r with
    | cons r t =>
      by_cases q : f = n
      · subst q
        simp only [List.lookup_cons, beq_self_eq_true] at h ⊢
        cases h
        exact ⟨v, rfl, r⟩
      · have q' : (f == n) = false := beq_eq_false_iff_ne.mpr q
        simp only [List.lookup_cons, q'] at h ⊢
        exact lk_rep e t h
end
def fldD (c : String) (fs : List (Str × D)) : Option D := match fldE c with
  | some n => fs.lookup n
  | none => some .non
def whyD (c : String) (fs : List (Str × D)) : Option (D × D) := if famE c = 0 then (match fs.lookup ("called" : Str), fldD c fs with
    | some x, some y => some (x, y)
    | _, _ => none)
  else if famE c = 1 then (fs.lookup ("name" : Str)).map fun y => (.str "NoName", y)
  else (fs.lookup ("called" : Str)).map fun x => (x, .non)
theorem strOk_NoName : StrOk ("NoName" : Str) := ⟨by decide +kernel, of_decide_eq_true (by decide +kernel)⟩
theorem strOk_told : StrOk ("told" : Str) := ⟨by decide +kernel, of_decide_eq_true (by decide +kernel)⟩
theorem whyD_ok {K : PySem.W.Frag} {is : List Addr} {fz : Addr → Prop} {H : Hp} {c : String} {fs : List (Str × V)} {es : List (Str × D)} (hn : fs.map (·.1) = es.map (·.1)) (r : RepA K is fz H (fs.map (·.2)) (es.map (·.2))) {x y : D} (h : whyD c es = some (x, y)) :
    ∃ v w, whyV c fs = some (v, w) ∧ Rep K is fz H v x ∧ Rep K is fz H w y := by
  unfold whyD at h
  by_cases f0 : famE c = 0
  · rw [if_pos f0] at h
    split at h
    · rename_i x' y' l1 l2
      cases h
      obtain ⟨v, e1, r1⟩ := lk_rep hn r l1
      have : ∃ w, fldV c fs = some w ∧ Rep K is fz H w y := by
        unfold fldD at l2
        unfold fldV
        cases en : fldE c with
        | some n =>
          rw [en] at l2
          obtain ⟨w, e2, r2⟩ := lk_rep hn r l2
          exact ⟨w, e2, r2⟩
        | none =>
          rw [en] at l2
          cases l2
          exact ⟨.non, rfl, .non⟩
      obtain ⟨w, e2, r2⟩ := this
      refine ⟨v, w, ?_, r1, r2⟩
      unfold whyV
      rw [f0]
      simp [e1, e2]
    · cases h
  · rw [if_neg f0] at h
    by_cases f1 : famE c = 1
    · rw [if_pos f1] at h
      obtain ⟨y', l1, l2⟩ := Option.map_eq_some_iff.mp h
      cases l2
      obtain ⟨w, e2, r2⟩ := lk_rep hn r l1
      refine ⟨_, w, ?_, .str _ strOk_NoName, r2⟩
      unfold whyV
      rw [f1]
      simp [e2]
    · rw [if_neg f1] at h
      obtain ⟨x', l1, l2⟩ := Option.map_eq_some_iff.mp h
      cases l2
      obtain ⟨v, e1, r1⟩ := lk_rep hn r l1
      have f2 : famE c = 2 := by
        rcases fam_lt c with z | z | z
        · exact absurd z f0
        · exact absurd z f1
        · exact z
      refine ⟨v, .non, ?_, r1, .non⟩
      unfold whyV
      rw [f2]
      simp [e1]
/-! ### _law_why(lambda: ..) -/
def qLam : Str := "law.<locals>.<lambda>"
def whyR (T : List String) : R RV → R RV
  | .ok _ g => .ok (.d (.tup [.str "told", .non])) g
  | .exc e g => if e.cls ∈ T then (match whyD e.cls e.fs with
    | some (x, y) => .ok (.d (.tup [x, y])) g
    | none => .stuck) else .stuck
  | .stuck => .stuck
/-- the table of code objects stands first in the store -/
def mTab (P : Addr) (m : ST RV) : ST RV := fun (g : Sg) => match g.st[(0 : Nat)]? with
  | some (C.tab P' q) => if P' = P ∧ q = qLam then m g else .stuck
  | _ => .stuck
def mWhy (T : List String) (P : Addr) (m : ST RV) : ST RV := mTab P fun g => whyR T (m g)
structure WhyDef (K : PySem.W.Frag) (mg : Str → Option Value) (nm av : Str) (TT : (XK → Hp → VK → Prop) → Hp → VK → Prop) : Prop where
  ex : ∃ (g : Addr) (fd : FuncData) (pg : Arguments) (bg : List Stmt) (sg : Scope) (Ng : List Str), mg nm = some (.ref g) ∧ FunD K nm nm pg bg sg [] [] g fd ∧ Binds K fd [av] [] ∧ FnScope Ng [av] sg ∧ Ng[0]? = some av ∧ Vis sg av ∧
    ∀ (X : Cx) (cdg : Value) (q : Str), X.K = K → X.mg = mg → Room 2 X.A → LamX.GivesTo X Ng nm sg g cdg bg av q TT
section
variable {X : Cx} {N : En} {xm : XM} {W : WX}
theorem tab_first {P : Addr} {m : ST RV} {σ : L2.St} {H : Hp} {Q : VK} {pos : Pos} (h : lift N xm W (mTab P m) σ H Q) : LamX.TabS H P qLam ∧ ∀ H1, Step1 P qLam pos H H1 → lift N xm W m σ H1 Q := by
  obtain ⟨g, fz, is, sr, h⟩ := h
  simp only [mTab] at h
  split at h
  · rename_i P' q hk
    split at h
    · rename_i e
      obtain ⟨rfl, rfl⟩ := e
      have hl : 0 < is.length := by rw [← sr.stl]; exact (List.getElem?_eq_some_iff.mp hk).1
      have hi : is[0]? = some is[0] := List.getElem?_eq_getElem hl
      obtain ⟨nz, e0, ps, h1, h2, h3⟩ := sr.st 0 _ _ hk hi
      rw [e0] at hi nz h1
      refine ⟨⟨ps, h1, h2, fun pos cv k => ?_⟩, fun H1 st => ?_⟩
      · obtain ⟨c, q1, _, q3⟩ := h3 pos cv k
        exact ⟨c, q1, q3⟩
      · rcases st with rfl | ⟨c, ps', k1, k2, k3, rfl⟩
        · exact ⟨g, fz, is, sr, h⟩
        · cases h1.symm.trans k1
          have f := sr.free k2
          have s2 := (sr.alter f (LamX.CodeO c qLam)).freeze ⟨f.own, f.ns⟩ ⟨_, upd_same⟩
          have np : c ≠ P' := fun z => by rw [z, h1] at k2; cases k2
          have l2 : Le fz H is (fun b => fz b ∨ b = c) (upd H c (LamX.CodeO c qLam)) is := (Le.alloc f.own.nf).trans (Le.frz c)
          have nz2 : ¬ (fz P' ∨ P' = c) := fun z => z.elim nz fun z => np z.symm
          have l3 : Le (fun b => fz b ∨ b = c) (upd H c (LamX.CodeO c qLam)) is (fun b => fz b ∨ b = c) (upd (upd H c (LamX.CodeO c qLam)) P' (.tbl (ps ++ #[rawInt pos.line, rawInt pos.col, .ref c]))) is := Le.alloc nz2
          have ca : CAt N.K is (fun b => fz b ∨ b = c) (upd (upd H c (LamX.CodeO c qLam)) P' (.tbl (ps ++ #[rawInt pos.line, rawInt pos.col, .ref c]))) P' (.tab P' qLam) := by
            refine ⟨rfl, _, upd_same, by simpa using k3, fun p2 cv hc => ?_⟩
            rcases LamX.among_app ps.toList h2 (by simpa using hc) with z | z
            · obtain ⟨c0, q1, q2, q3⟩ := h3 p2 cv z
              refine ⟨c0, q1, .inl q2, ?_⟩
              exact l3.at (.inl q2) (l2.at q2 q3)
            · refine ⟨c, z, .inr rfl, ?_⟩
              rw [upd_ne np, upd_same]
          have s3 := s2.changeSt (k := 0) hk hi ca (sr.isn P' (List.mem_of_getElem? hi))
          have eg : ({ g with st := g.st.set 0 (.tab P' qLam) } : Sg) = g := by
            cases g with
            | mk env st =>
              simp only at hk ⊢
              congr 1
              cases st with
              | nil => cases hk
              | cons x xs => cases hk; rfl
          rw [eg] at s3
          have eH : upd (upd H c (LamX.CodeO c qLam)) P' (.tbl (ps ++ #[rawInt pos.line, rawInt pos.col, .ref c])) = upd (upd H P' (.tbl (ps ++ #[rawInt pos.line, rawInt pos.col, .ref c]))) c (LamX.CodeO c qLam) := by
            funext b
            by_cases b1 : b = c
            · subst b1
              rw [upd_ne np, upd_same, upd_same]
            · by_cases b2 : b = P'
              · subst b2
                rw [upd_same, upd_ne b1, upd_same]
              · rw [upd_ne b2, upd_ne b1, upd_ne b1, upd_ne b2]
          rw [eH] at s3 l3
          exact ⟨g, _, is, s3, h.later (l2.trans l3)⟩
    · exact h.elim
  · exact h.elim
theorem tup_made {σ : L2.St} {H : Hp} {g : Sg} {fz : Addr → Prop} {is : List Addr} {p : Addr} {vs : List V} {ds : List D} (sr : SR N σ H g fz is) (hp : H p = none) (r : RepA N.K is fz H vs ds) :
    Le fz H is (fun b => fz b ∨ b = p) (upd H p (.tup vs)) is ∧ SR N σ (upd H p (.tup vs)) g (fun b => fz b ∨ b = p) is ∧ Rep N.K is (fun b => fz b ∨ b = p) (upd H p (.tup vs)) (.ref p) (.tup ds) := by
  have f := sr.free hp
  have l : Le fz H is (fun b => fz b ∨ b = p) (upd H p (.tup vs)) is := (Le.alloc f.own.nf).trans (Le.frz p)
  exact ⟨l, (sr.alter f _).freeze ⟨f.own, f.ns⟩ ⟨_, upd_same⟩, .tup (.inl ⟨.inr rfl, upd_same⟩) (r.mono l)⟩
theorem why_ok {T : List String} {m : ST RV} {σ : L2.St} {H : Hp} {Q : VK} (mc : MC X N W) (hxm : ∀ c ∈ T, xm.cls c = some (He.ga X.K c)) (h : lift N xm W (fun g => whyR T (m g)) σ H Q) :
    TTwhy X.K T (fun E H' Q' => lift N xm (fun cls od _ H' => E cls od H') m σ H' Q') H Q := by
  obtain ⟨g, fz, is, sr, h⟩ := h
  refine ⟨g, fz, is, sr, ?_⟩
  have h : postE N xm W σ H fz is Q (whyR T (m g)) := h
  cases e : m g with
  | stuck => rw [e] at h; exact h
  | ok r g' =>
    rw [e] at h
    intro v H' fz' is' l sr' rep
    refine ⟨by rw [sizeLine_eq]; simp, fun p hp => ?_⟩
    obtain ⟨l2, s2, r2⟩ := tup_made (vs := [.str "told", .non]) (ds := [.str "told", .non]) sr' hp (.cons (.str _ strOk_told) (.cons .non .nil))
    exact h _ _ _ _ (l.trans l2) s2 r2
  | exc x g' =>
    rw [e] at h
    intro cls od H' fz' is' l sr' rx
    simp only [whyR] at h
    split at h
    · rename_i hm
      split at h
      · rename_i dx dy hw
        obtain ⟨C, d, fs, e1, e2, e3, e4, e5, e6⟩ := rx
        cases (hxm _ hm).symm.trans e1
        obtain ⟨vx, vy, w1, r1, r2⟩ := whyD_ok e5 e6 hw
        refine ⟨x.cls, d, fs, vx, vy, hm, e2, e3, e4, w1, fun H2 h2 p hp => ?_⟩
        rcases h2 with rfl | ⟨t, cs, ht, rfl⟩
        · obtain ⟨l2, s2, r3⟩ := tup_made (vs := [vx, vy]) (ds := [dx, dy]) sr' hp (.cons r1 (.cons r2 .nil))
          exact h _ _ _ _ (l.trans l2) s2 r3
        · have f := sr'.free ht
          have s1 := sr'.alter f (.tup cs)
          have l1 : Le fz' H' is' fz' (upd H' t (.tup cs)) is' := Le.alloc f.own.nf
          obtain ⟨l2, s2, r3⟩ := tup_made (vs := [vx, vy]) (ds := [dx, dy]) s1 hp (.cons (r1.mono l1) (.cons (r2.mono l1) .nil))
          exact h _ _ _ _ ((l.trans l1).trans l2) s2 r3
      · exact h.elim
    · exact h.elim
theorem e_lam {j k : Nat} {nm av : Str} {cc P : Addr} {m mm : ST RV} {TT : (XK → Hp → VK → Prop) → Hp → VK → Prop} {params : Arguments} {body : Expr} {scope : Scope} {p lpos pos : Pos} (mc : MC X N W) (Y : WhyDef X.K X.mg nm av TT) (hg : Gl X nm) (TB : LamX.TabB X.base X.mg cc P)
    (hcode : X.env.code = .ref cc) (hT : ∀ σ H Q, lift N xm W mm σ H Q → TT (fun E H' Q' => lift N xm (fun cls od _ H' => E cls od H') m σ H' Q') H Q) (hr : Room j X.A) (L : LamX.LamS X.env.scope scope)
    (hbody : ∀ (A : Around) (outer : List Env) (s : Shared) (H : Hp) (E : XK) (f c' : Addr), Room k (A.deeper (LamX.lamEnv X scope s.heap.objs.size f c')) → MC (LamX.lamCx X A outer s H E scope f c') N (fun cls od _ H' => E cls od H') →
      PE (LamX.lamCx X A outer s H E scope f c') body (lift N xm (fun cls od _ H' => E cls od H') m))
    (hk : k + 2 ≤ j := by omega) (hq : X.env.qual ++ "<lambda>" = qLam := by rfl) (hdef : defaultsOf params X.env = ([], []) := by rfl)
    (hbind : ∀ (q : Str) (cl : List (Str × Addr)) (pm cv ctv : Value), bindArgs (PySem.W.kla_fn "<lambda>" q params body scope cl pm cv ctv) ⟨[], []⟩ = pure [] := by intros; rfl)
    (hd1 : (nm == ("__debug__" : Str)) = false := by decide) (hd2 : (av == ("__debug__" : Str)) = false := by decide) (hd3 : (av == ("__classdict__" : Str)) = false := by decide) :
    PE X (.Call (.Name nm p) [.Lambda params body scope lpos] [] pos) (lift N xm W (mTab P mm)) := by
  obtain ⟨g, fd, pg, bg, sg, Ng, h1, F, hb, Sg, h0, hv, hG⟩ := Y.ex
  have key := pe_lam1 (p := p) (lpos := lpos) (pos := pos) (TT := TT) (t := fun E => lift N xm (fun cls od _ H' => E cls od H') m) hg h1 F hb Sg h0 hv (fun cdg => hG X cdg _ rfl rfl (hr.mono (by omega))) TB hcode (hr.mono hk) L hdef hbind
    (fun A outer s H E f c' hr' => hbody A outer s H E f c' hr' ⟨mc.hK, mc.nd, rfl, by have := hr'.un; show (A.deeper _).units + 65 < _; omega, takes_of rfl rfl rfl rfl⟩) hd1 hd2 hd3
  refine imp key fun σ H Q h => ?_
  rw [hq]
  obtain ⟨q1, q2⟩ := tab_first (pos := lpos) h
  exact ⟨q1, fun H1 st => hT σ H1 Q (q2 H1 st)⟩
end
end Mx

set_option Elab.async false
set_option linter.all false
set_option maxRecDepth 100000
set_option maxHeartbeats 2000000
/-! the head of a law that makes lambdas, raises and catches -/
namespace Mx
open PySem PySem.Spec PyProof.Rows L2
def xmK (K : PySem.W.Frag) : XM := ⟨fun n => some (He.ga K n)⟩
section
variable {P : Program} {w : World} {K : PySem.W.Frag} {mg : Str → Option Value} {base : Heap} {xm : XM}
/-- a def of the top, its code object told -/
theorem fnD_okT {x : Str} {st : Stmt} {Nm ps : List Str} {k n np : Nat} {m : SM} {f : Addr} {fd : FuncData} {dvs : List V} {kws : List (Str × V)} (F : FunD K x x (defArgs st) (defBody st) (defScope st) dvs kws f fd) (hf : f = He.fAd K (x, none)) (S : FnScope Nm ps (defScope st)) (hn : Nm.length = n) (hp : ps.length = np)
    (hbody : ∀ (f : Addr) (A : Around) (outer : List Env) (s : Shared) (H : Hp) (N : En) (E : XK), N.K = K → N.n = n → Ent N → Room k (A.deeper (envOfC x (defScope st) s.heap.objs.size f (.ref (He.codeOf K (x, none))))) →
      MC (cxOf (L2.CX P w) P w K mg base Nm x (defScope st) f (.ref (He.codeOf K (x, none))) A outer s H E) N (fun cls od _ H' => E cls od H') →
      PassesOwn (model P w) (cxOf (L2.CX P w) P w K mg base Nm x (defScope st) f (.ref (He.codeOf K (x, none))) A outer s H E).A (cxOf (L2.CX P w) P w K mg base Nm x (defScope st) f (.ref (He.codeOf K (x, none))) A outer s H E).env (cxOf (L2.CX P w) P w K mg base Nm x (defScope st) f (.ref (He.codeOf K (x, none))) A outer s H E).xe →
      PSs (cxOf (L2.CX P w) P w K mg base Nm x (defScope st) f (.ref (He.codeOf K (x, none))) A outer s H E) (defBody st) (liftS N xm (fun cls od _ H' => E cls od H') m)) :
    FnOk P w K mg base (L2.CX P w) (k + 1) f fd ps (spF K xm np (fnM n m)) := by
  have hpn : np ≤ n := by
    have := congrArg List.length S.pre
    rw [List.length_take] at this
    omega
  obtain ⟨c1, c2, c3, c4, c5, c6, c7, cdv, c8, c9, rfl, lk, hcd, _, _⟩ := F.ex
  obtain ⟨cc, rfl⟩ := He.codeIn_ref hcd
  have ec : He.codeOf K (x, none) = cc := He.codeOf_eq (p := (x, none)) (by rw [← hf]; exact lk) rfl
  rw [ec] at hbody
  refine fn_of lk hcd S (fun vs H Q E h => h.1.trans hp.symm) fun A outer s H vs Q E hr h => ?_
  obtain ⟨hl, ds, St, fz, is, pr, rep, h⟩ := h
  refine ⟨_, hbody f A outer s H ⟨K, n, H, is, fz⟩ E rfl rfl ⟨St, pr⟩ hr ⟨rfl, S.nd, rfl, ?_, takes_of rfl rfl rfl rfl⟩ (passes_of rfl), ?_⟩
  · have := hr.un
    show (A.deeper _).units + 65 < _
    omega
  · refine ⟨{ env := env0 n ds, st := St }, fz, is, start_sr (k := k) pr rep hn (by omega), ?_⟩
    unfold fnM at h
    cases e : m { env := env0 n ds, st := St } with
    | stuck => rw [e] at h; exact h
    | bk g => rw [e] at h; exact h.elim
    | ct g => rw [e] at h; exact h.elim
    | nx g =>
      rw [e] at h
      intro σ' H' fz' is' l sr
      exact h .non H' fz' is' (sr.aft ⟨St, pr⟩) .non
    | ret r S' => rw [e] at h; exact h
    | exc x g =>
      rw [e] at h
      intro cls od σ' H' fz' is' l sr rx
      exact h cls od H' fz' is' (sr.aft ⟨St, pr⟩) rx
/-- what the law's def does, as the end wants it -/
def LawDefT (P : Program) (w : World) (K : PySem.W.Frag) (mg : Str → Option Value) (xm : XM) (k : Nat) (F : FM) (x : Str) (fa : Addr) : Prop :=
  ∃ fd : FuncData, (∀ (s : Shared) (u : Value), BindsTo s fd ⟨[u], []⟩ [(x, u)]) ∧ ∀ base : Heap, LamX.TabB base mg (He.cT K lawT).1 (He.cT K lawT).2 → FnOk P w K mg base (L2.CX P w) k fa fd [x] (spF K xm 1 F)
end
theorem walk_lawT {l : PySem.W.OpenLaw} {n k : Nat} {q : Program} {loose : List Str} {XP : (Str → Option Value) → Heap → Prop} {d : DefRec} {x : Str} {m : Nat} {fa : List He.Fa} {fn : List He.DefD} {ex : PySem.W.Frag → Bool} {Ap : (Str → Addr) → Prop} {F : (Str → Addr) → Addr → FM}
    (hn : l.most = some n) (hn2 : n ≤ sizeLine) (hdf : d.params.defaults = []) (hr : Room k callerA) (nm : d.name = ("law" : Str))
    (hF : ∀ (w : World) (K : PySem.W.Frag) (mg : Str → Option Value) (h : Heap) (a : Addr), K.In h → h.Ns mainGlobals mg → He.SaysD fa fn K → ex K = true → mg ("law" : Str) = some (.ref a) → Ap (adOf mg) ∧ ∃ xm, LawDefT l.prog w K mg xm k (F (adOf mg) (He.cT K lawT).2) x a)
    (law : ∀ (ad : Str → Addr), Ap ad → ∀ (P : Addr) (ns : List Int), ns.length ≤ n → ∃ S, F ad P [.scr ns] [.tab P qLam] = .ok (.d (.bl true)) S) :
    PySem.W.WalkO q loose XP (He.hookX m fa fn [] [lawT] ex).says l.row.toRowW d [] (fun f vs => PySem.call f vs) := by
  refine LamX.walk_ofTsE (CX := fun w => L2.CX l.prog w) (x := x) (k := k) hn hn2 hdf hr (fun w mg a h Y G hm => ?_) fun w H s e s' z => ?_
  · obtain ⟨K, KX, c⟩ := Y
    rw [nm] at hm
    obtain ⟨hap, xm, fd, hb, hok⟩ := hF w K mg h a KX G c.t.d c.more hm
    refine ⟨K, KX, fd, [He.cT K lawT], spF K xm 1 (F (adOf mg) (He.cT K lawT).2), fun p hp => ?_, fun p hp => ?_, fun p hp => ?_, hb, fun H a ns hl _ hT hS => ?_, fun base _ _ tb => hok base (tb _ List.mem_cons_self)⟩
    · rw [List.mem_singleton] at hp
      subst hp
      exact c.empty lawT List.mem_cons_self
    · rw [List.mem_singleton] at hp
      subst hp
      exact c.out lawT List.mem_cons_self
    · rw [List.mem_singleton] at hp
      subst hp
      exact PySem.W.codeHd_of_K KX (c.hd lawT List.mem_cons_self)
    · have hP : H (He.cT K lawT).2 = some (.tbl #[]) := hT _ List.mem_cons_self
      obtain ⟨S, e⟩ := law (adOf mg) hap (He.cT K lawT).2 ns hl
      refine ⟨rfl, [.scr ns], [.tab (He.cT K lawT).2 qLam], fun b => b = a ∧ b ≠ (He.cT K lawT).2 ∧ ∃ o, H b = some o, [(He.cT K lawT).2], ⟨fun b z => z.2.2, rfl, fun i c0 a0 h1 h2 => ?_, by simp⟩, .cons (.scr ?_) .nil, ?_⟩
      · cases i with
        | succ i => simp at h1
        | zero =>
          simp only [List.getElem?_cons_zero, Option.some.injEq] at h1 h2
          subst h1 h2
          refine ⟨fun z => z.2.1 rfl, rfl, #[], hP, True.intro, fun pos cv k => ?_⟩
          have k : codeAmong pos [] = some cv := k
          simp [codeAmong] at k
      · rcases hS with z | z
        · have ne : a ≠ (He.cT K lawT).2 := fun e => by
            rw [e] at z
            rcases z with z | ⟨o, z⟩
            · rw [hP] at z; cases z
            · rw [hP] at z; cases z
          refine .inl ⟨⟨rfl, ne, ?_⟩, z⟩
          rcases z with z | ⟨o, z⟩
          · exact ⟨_, z⟩
          · exact ⟨_, z⟩
        · exact .inr z
      · rw [e]
        intro v H' fz' is' _ r
        cases r
        rename_i r
        cases r
        rfl
  · obtain ⟨_, _, _, _, _, _, _, _, _, _, _, _, z⟩ := z
    exact z
/-! ### facts of the classes -/
theorem vVB_ok {K : PySem.W.Frag} (h : vVB K = true) : PySem.W.findCls K (.type "ValueError") (.type "type") "__init__" = some (.val (.builtin "ValueError.__init__")) := by
  unfold vVB at h
  split at h
  · rename_i s e
    rw [e, beq_iff_eq.mp h]
  · cases h
theorem clsIB_ok {K : PySem.W.Frag} {C fI : Addr} (h : clsIB K C fI = true) : ClsI K C fI := by
  unfold clsIB at h
  simp only [Bool.and_eq_true] at h
  obtain ⟨h1, h2, h3, h4, h5⟩ := h
  refine ⟨h1, He.eqO_ok h2, of_decide_eq_true h3, ?_, h5⟩
  split at h4
  · rename_i a e
    rw [e, of_decide_eq_true h4]
  · cases h4
theorem ExcC.mg {K : PySem.W.Frag} {h : Heap} {mg : Str → Option Value} {c : Str} (E : ExcC K c) (X : K.In h) (G : h.Ns mainGlobals mg) : mg c = some (.ref (He.ga K c)) := PySem.W.mg_of X G E.gl
end Mx

set_option Elab.async false
set_option linter.all false
set_option maxRecDepth 100000
set_option maxHeartbeats 2000000
/-! sets that are too great: raised by the program, told by the law -/
namespace Mx
open PySem PySem.Spec PyProof.Rows L2
theorem x_raise (c : String) (ns : List Str) (ms : List (ST RV)) (g : Sg) : sRaise c ns ms g = (argsD ms g).to fun xs g => if xs.length = ns.length then .exc ⟨c, ns.zip xs ++ [(("called" : Str), D.str c)]⟩ g else .stuck := rfl
theorem x_ofexc (e : Ex) (S : List C) (g : Sg) : ofF (.exc e S) g = .exc e { g with st := S } := rfl
/-- a statement ends by this refusal -/
def SX (x : RS) (e : Ex) (S : List C) : Prop := ∃ g, x = .exc e g ∧ g.st = S
def FX (x : RF) (e : Ex) (S : List C) : Prop := x = .exc e S
section
variable {e : Ex} {S : List C}
theorem SX.seq_eq {m n : SM} {g g' : Sg} (h : m g = .nx g') (k : SX (n g') e S) : SX (sSeq m n g) e S := by
  rw [x_seq, h]
  exact k
theorem SX.seq_l {m n : SM} {g : Sg} (k : SX (m g) e S) : SX (sSeq m n g) e S := by
  obtain ⟨g', h1, h2⟩ := k
  rw [x_seq, h1]
  exact ⟨g', rfl, h2⟩
theorem FX.fnM {n : Nat} {b : SM} {ds : List D} {S0 : List C} (h : SX (b { env := env0 n ds, st := S0 }) e S) : FX (fnM n b ds S0) e S := by
  obtain ⟨g, h1, h2⟩ := h
  unfold Mx.fnM FX
  rw [h1]
  show RF.exc e g.st = _
  rw [h2]
end
end Mx
namespace Lib
open PySem PySem.Spec PyProof.Rows L2 Mx NSet
def tooBig (n : Nat) : Ex := ⟨"TooBig", [("rows", nD n), ("called", .str "TooBig")]⟩
def bigD (n : Nat) : D := .tup [.str "TooBig", nD n]
theorem pictured_runX {w : Wt.Web} (f : Fit w) {a : Nat} (ha : a < w.length) {L : List Nat} (hL : Wt.come w a = L) (ls : Wt.Lists w a L) (cl : L.length < 4096) {v : Wt.Web} (hv : Wt.sub w L = v) (fv : Fit v) (v1 : 1 ≤ v.length) (ain : a ∈ L) (il : L.idxOf a < v.length) (h64 : 64 < Wt.size v) {d : D} (hd : IsW w d) (S : List C) :
    m_pictured [d, nD a] S = .exc (tooBig (Wt.size v)) S := by
  have e4 := line4
  have ki : fIxA (.lst (ND (Wt.fin v))) (nD (L.idxOf a)) = some (.d (nD (Wt.fk v (L.idxOf a)))) := ixA_ND (l := Wt.fin v) (i := L.idxOf a) (by rw [Wt.fin_len]; exact il)
  have inn := inner_ok f ls ha cl hd S
  rw [hv] at inn
  have lr := last_round_ok fv (.inl rfl) S
  have mx := max_fin v1
  have key : FX (m_pictured [d, nD a] S) (tooBig (Wt.size v)) S := by
    refine FX.fnM ?_
    rw [env0_12_2, b_pictured]
    have v8 : v_MOST_ROWS = .int 64 := rfl
    refine SX.seq_eq (g' := ⟨[some (.d d), some (.d (nD a)), some (.own (.lst (ND L))), none, none, none, none, none, none, none, none, none], S⟩) ?_ ?_
    · have ct := come_to_ok f ha hd S
      rw [hL] at ct
      simp only [XX, ct]
    refine SX.seq_eq (g' := ⟨[some (.d d), some (.d (nD a)), some (.d (.lst (ND L))), some (.own (.dct (plN L))), none, none, none, none, none, none, none, none], S⟩) ?_ ?_
    · rw [x_set, places_run ls.nd cl, R.to_ok]
      rfl
    refine SX.seq_eq (g' := ⟨[some (.d d), some (.d (nD a)), some (.d (.lst (ND L))), some (.own (.dct (plN L))), none, none, some (.own (.lst (rowsD v))), none, none, none, none, none], S⟩) ?_ ?_
    · simp only [x_set, inn, R.to_ok, x_putt, List.set_cons_succ, List.set_cons_zero]
    refine SX.seq_eq (g' := ⟨[some (.d d), some (.d (nD a)), some (.d (.lst (ND L))), some (.own (.dct (plN L))), none, none, some (.d (.lst (rowsD v))), none, some (.d (.lst (ND (Wt.fin v)))), none, none, none], S⟩) ?_ ?_
    · show ((ofF (m_last_round [.lst (rowsD v)] S) ⟨[some (.d d), some (.d (nD a)), some (.d (.lst (ND L))), some (.own (.dct (plN L))), none, none, some (.d (.lst (rowsD v))), none, none, none, none, none], S⟩).to (put 8)) = _
      rw [lr]
      rfl
    refine SX.seq_eq (g' := ⟨[some (.d d), some (.d (nD a)), some (.d (.lst (ND L))), some (.own (.dct (plN L))), none, none, some (.d (.lst (rowsD v))), none, some (.d (.lst (ND (Wt.fin v)))), some (.d (nD (Wt.size v))), none, none], S⟩) ?_ ?_
    · have e : (Wt.size v : Int) - 1 + 1 = Wt.size v := by omega
      simp only [XX, look_ND, mx, f_addI, e]
      rfl
    refine SX.seq_l ?_
    have gt : fGt (nD (Wt.size v)) (.int 64) = some (.d (.bl true)) := by
      have : (64 : Int) < (Wt.size v : Int) := by omega
      rw [nD, f_gtI, decide_eq_true this]
    simp only [XX, look_nD, v8, gt, x_raise]
    exact ⟨_, rfl, rfl⟩
  exact key
theorem pictured_big {w : Wt.Web} (f : Fit w) {a : Nat} (ha : a < w.length) (h64 : 64 < (Wt.pic w a).2.length) {d : D} (hd : IsW w d) (S : List C) : m_pictured [d, nD a] S = .exc (tooBig (Wt.pic w a).2.length) S := by
  have ls := Wt.come_lists f.ok ha
  have cl : (Wt.come w a).length < 4096 := Nat.lt_of_le_of_lt (Wt.come_len w a) f.len
  have ain : a ∈ Wt.come w a := Wt.come_at f.ok ha
  have il : (Wt.come w a).idxOf a < (Wt.sub w (Wt.come w a)).length := by rw [Wt.sub_len]; exact List.idxOf_lt_length_iff.mpr ain
  have e : (Wt.pic w a).2.length = Wt.size (Wt.sub w (Wt.come w a)) := Wt.quo_len _
  rw [e] at h64 ⊢
  exact pictured_runX f ha rfl ls cl rfl (fit_sub f ls cl) (by omega) ain il h64 hd S
section
variable {w : Wt.Web} {r : List Nat} {d : D}
end
/-! ### the set of some sets, however great -/
structure ManyB (ms : List (Nat × Wt.Web)) : Prop where
  sok : ∀ m ∈ ms, Sok m
  sum : (ms.map fun m => m.2.length).sum < 4095
  len : ms.length < 4000
theorem ManyB.many {ms : List (Nat × Wt.Web)} (M : ManyB ms) (h : (Wt.from_ ms).2.length ≤ 64) : Many ms := ⟨M.sok, M.sum, M.len, h⟩
theorem ManyB.fit {ms : List (Nat × Wt.Web)} (M : ManyB ms) : Fit (Wt.lays [] ms).1 := lays_fit fit_nil (fun m hm => (M.sok m hm).fit) (by rw [Wt.lays_len]; have := M.sum; simp only [List.length_nil]; omega)
theorem ManyB.tops {ms : List (Nat × Wt.Web)} (M : ManyB ms) : ∀ x ∈ (Wt.lays [] ms).2, x < (Wt.lays [] ms).1.length := fun x hx => (Wt.from_tops (fun m hm => (M.sok m hm).toPset) x hx).1
end Lib

set_option Elab.async false
set_option linter.all false
set_option maxRecDepth 100000
set_option maxHeartbeats 2000000
/-! running a mirror statement by statement -/
namespace Mx
open PySem PySem.Spec PyProof.Rows L2
end Mx

set_option Elab.async false
set_option linter.all false
set_option maxRecDepth 100000
set_option maxHeartbeats 1000000
/-! a list of any things mixed; the set of a list of sets, asked of the program -/
namespace Lib
open PySem PySem.Spec PyProof.Rows L2 Mx NSet
/-! ### set_of -/
section
variable {ms : List (Nat × Wt.Web)}
end
end Lib

set_option Elab.async false
set_option linter.all false
set_option maxRecDepth 100000
set_option maxHeartbeats 2000000
/-! helps for the laws on sets -/
namespace Lib
open PySem PySem.Spec PyProof.Rows L2 Mx NSet
theorem cut_takeN {α : Type} (l : List α) (k : Nat) : cut l none (some (k : Int)) = l.take k := by
  unfold cut
  rw [HT.sIx_none, HT.sIx_nat, List.drop_zero, Nat.sub_zero, List.take_eq_take_iff]
  omega
theorem add_lists (a b : List D) (h : a.length + b.length < 4096) : fAdd (.lst a) (.lst b) = some (.new (.lst (a ++ b))) := by
  have e4 := line4
  have : a.length + b.length ≤ sizeLine := by omega
  simp only [fAdd, this, if_true]
theorem look_lst (xs : List D) (g : Sg) : look (.lst xs) g = some (.lst xs) := rfl
theorem look_tup (xs : List D) (g : Sg) : look (.tup xs) g = some (.tup xs) := rfl
end Lib

set_option Elab.async false
set_option linter.all false
set_option maxRecDepth 100000
set_option maxHeartbeats 2000000
/-! the head's look at the heap, the interpreter's own statics beside it (what is read of a class looks there) -/
namespace Mx
open PySem PySem.Spec PyProof.Rows L2
section
variable {fa : List He.Fa} {fn : List He.DefD} {ts : List He.Tab} {tf : List He.Defn} {ex : PySem.W.Frag → Bool}
theorem walk_lawY {l : PySem.W.OpenLaw} {n k : Nat} {q : Program} {loose : List Str} {XP : (Str → Option Value) → Heap → Prop} {d : DefRec} {x : Str} {m : Nat} {Ap : (Str → Addr) → Prop} {F : (Str → Addr) → Addr → FM}
    (hn : l.most = some n) (hn2 : n ≤ sizeLine) (hdf : d.params.defaults = []) (hr : Room k callerA) (nm : d.name = ("law" : Str))
    (hF : ∀ (w : World) (K : PySem.W.Frag) (mg : Str → Option Value) (h : Heap) (a : Addr), K.In h → h.Ns mainGlobals mg → He.SaysD fa fn K → ex K = true → mg ("law" : Str) = some (.ref a) → Ap (adOf mg) ∧ ∃ xm, LawDefT l.prog w K mg xm k (F (adOf mg) (He.cT K lawT).2) x a)
    (law : ∀ (ad : Str → Addr), Ap ad → ∀ (P : Addr) (ns : List Int), ns.length ≤ n → ∃ S, F ad P [.scr ns] [.tab P qLam] = .ok (.d (.bl true)) S) :
    PySem.W.WalkO q loose XP (hookY m fa fn [] [lawT] ex).says l.row.toRowW d [] (fun f vs => PySem.call f vs) :=
  walk_lawT (m := m) hn hn2 hdf hr nm hF law
end
end Mx

set_option Elab.async false
set_option linter.all false
set_option maxRecDepth 100000
set_option maxHeartbeats 2000000
/-! [e for x in xs for y in ys] -/
namespace Mx
open PySem PySem.Spec PyProof.Rows L2
/-- what is wanted behind: by the list so far and the state -/
abbrev Cn := List D → Sg → (Addr → Prop) → Hp → List Addr → Prop
structure Cn.Mono (C : Cn) : Prop where
  go : ∀ {acc g fz H is fz' H' is'}, Le fz H is fz' H' is' → C acc g fz H is → C acc g fz' H' is'
abbrev Yn := Sg → (Addr → Prop) → Hp → List Addr → Prop
structure Yn.Mono (Y : Yn) : Prop where
  go : ∀ {g fz H is fz' H' is'}, Le fz H is fz' H' is' → Y g fz H is → Y g fz' H' is'
section
variable {X : Cx} {N : En} {xm : XM} {W : WX} {σ : L2.St} {vs ts : List Nat} {gt : TG} {t : TgM} {tt : ST Bool} {me : ST RV} {P : Addr} {H1 : Hp} {fz1 : Addr → Prop} {is1 : List Addr}
end
end Mx

set_option Elab.async false
set_option linter.all false
set_option maxRecDepth 100000
set_option maxHeartbeats 4000000
/-! list.extend by a tuple -/
namespace Mx
open PySem PySem.Spec PyProof.Rows L2
end Mx


set_option Elab.async false
set_option linter.all false
set_option maxRecDepth 100000
set_option maxHeartbeats 0
namespace K06
open PySem PySem.Spec PyProof.Rows L2 Mx Lib NSet
/-! ### constants -/
/-! ### mirrors -/
/-- 0 _law_size, 1 _law_ringed, 2 _law_web, 3 _law_spot -/
def b__law_chain : SM := sSeq (sSet 2 (mBin fAdd (mComp (mRange rng1 [mBin fSub (mVar 0) (mD (.int 1))]) [3] (tName 3) (mYes) (mTup [mBin fAdd (mVar 3) (mD (.int 1))])) (mLst [mTup []])))
  (sSeq (sIf (mTest (mVar 1)) (sSeq (sPut fSetA (mVar 2) (mNeg (mD (.int 1))) (mTup [mD (.int 0), mVar 0]))
  (sExpr (mMut fAppend (mVar 2) [mTup []]))) (sNil))
  (sRet (mVar 2)))
def m__law_chain : FM := fnM 4 b__law_chain
/-- 0 _law_script, 1 _law_jar_here, 2 _law_turn, 3 _law_size, 4 _law_web, 5 _law_due, 6 _law_one, 7 _law_row, 8 _law_spot, 9 _law_told -/
def b_law (P : Addr) : SM := sSeq (sShare 1 (mCall (m__law_jar) [mVar 0]))
  (sSeq (sFor (mRange rng1 [mD (.int 3)]) (tName 2) (sSeq (sSet 3 (mCall (m__law_of) [mVar 1, mLst [mD (.int 64), mD (.int 65), mD (.int 63), mD (.int 62), mBin fAdd (mD (.int 1)) (mCall (m__law_draw) [mVar 1, mD (.int 200)])]]))
  (sSeq (sSet 4 (mCall (m__law_chain) [mVar 3, mBin (fEq false) (mCall (m__law_draw) [mVar 1, mD (.int 2)]) (mD (.int 0))]))
  (sSeq (sSet 5 (mAps fLenA [mVar 4]))
  (sSeq (sSet 4 (mBin fAdd (mFz (mVar 4)) (mComp (mItems (mVar 4)) [7] (tName 7) (mYes) (mBin fAdd (mAps fTuple [mComp (mItems (mVar 7)) [6] (tName 6) (mYes) (mBin fAdd (mVar 6) (mVar 5))]) (mSl (mVar 7) (mNoPart) (mPart (mCall (m__law_draw) [mVar 1, mD (.int 2)])))))))
  (sSeq (sSet 8 (mCall (m__law_of) [mVar 1, mLst [mD (.int 0), mVar 5]]))
  (sSeq (sSet 9 (mWhy exT P (mCall (m_picture) ([mVar 4] ++ [mVar 8]))))
  (sSeq (sIf (mTest (mBin (fEq true) (mVar 9) (mIf (mTest (mBin fLe (mVar 5) (mD (.int 64)))) (mTup [mD (.str "told"), mD .non]) (mTup [mD (.str "TooBig"), mVar 5])))) (sRet (mD (.bl false))) (sNil))
  (sSeq (sIf (mAnd (mTest (mBin fLe (mVar 5) (mD (.int 64)))) (mTest (mBin (fEq true) (mAps fLenA [mBin fIxA (mCall (m_picture) ([mVar 4] ++ [mVar 8])) (mD (.int 1))]) (mVar 5)))) (sRet (mD (.bl false))) (sNil))
  (sIf (mTest (mBin (fEq true) (mCall (m_picture) ([mBin fAdd (mVar 4) (mLst [mTup [mAps fLenA [mVar 4]]])] ++ [mAps fLenA [mVar 4]])) (mTup [mD (.int 0), mTup [mTup [mD (.int 0)]]]))) (sRet (mD (.bl false))) (sNil)))))))))))
  (sRet (mAndV (mBin (fEq false) (mD v_MOST_ROWS) (mD (.int 64))) (mCall (m__law_same 40) [mAps fLenA [mBin fIxA (mCall (fun ds S => m_picture (ds ++ [.int 0]) S) [mCall (m__law_chain) [mD (.int 64), mD (.bl false)]]) (mD (.int 1))], mD (.int 64)]))))
def m_law (P : Addr) : FM := fnM 10 (b_law P)
/-! ### scopes -/
abbrev N_is_whole : List Str := ["thing"]
theorem sc_is_whole : FnScope N_is_whole ["thing"] (defScope s_is_whole) := ⟨rfl, rfl, rfl, by decide +kernel, rfl, by decide +kernel, by decide +kernel⟩
abbrev N_is_row : List Str := ["thing", "size", "one"]
theorem sc_is_row : FnScope N_is_row ["thing", "size"] (defScope s_is_row) := ⟨rfl, rfl, rfl, by decide +kernel, rfl, by decide +kernel, by decide +kernel⟩
abbrev N_is_web : List Str := ["thing", "row"]
theorem sc_is_web : FnScope N_is_web ["thing"] (defScope s_is_web) := ⟨rfl, rfl, rfl, by decide +kernel, rfl, by decide +kernel, by decide +kernel⟩
abbrev N_next_round : List Str := ["web", "kinds", "keys", "one", "at", "row", "places", "key"]
theorem sc_next_round : FnScope N_next_round ["web", "kinds"] (defScope s_next_round) := ⟨rfl, rfl, rfl, by decide +kernel, rfl, by decide +kernel, by decide +kernel⟩
abbrev N_last_round : List Str := ["web", "kinds", "later"]
theorem sc_last_round : FnScope N_last_round ["web"] (defScope s_last_round) := ⟨rfl, rfl, rfl, by decide +kernel, rfl, by decide +kernel, by decide +kernel⟩
abbrev N_come_to : List Str := ["web", "at", "found", "waiting", "one"]
theorem sc_come_to : FnScope N_come_to ["web", "at"] (defScope s_come_to) := ⟨rfl, rfl, rfl, by decide +kernel, rfl, by decide +kernel, by decide +kernel⟩
abbrev N_pictured : List Str := ["web", "at", "rows", "places", "place", "row", "inner", "one", "kinds", "size", "found", "kind"]
theorem sc_pictured : FnScope N_pictured ["web", "at"] (defScope s_pictured) := ⟨rfl, rfl, rfl, by decide +kernel, rfl, by decide +kernel, by decide +kernel⟩
abbrev N_need_web : List Str := ["web"]
theorem sc_need_web : FnScope N_need_web ["web"] (defScope s_need_web) := ⟨rfl, rfl, rfl, by decide +kernel, rfl, by decide +kernel, by decide +kernel⟩
abbrev N_need_row : List Str := ["web", "row"]
theorem sc_need_row : FnScope N_need_row ["web", "row"] (defScope s_need_row) := ⟨rfl, rfl, rfl, by decide +kernel, rfl, by decide +kernel, by decide +kernel⟩
abbrev N_picture : List Str := ["web", "at"]
theorem sc_picture : FnScope N_picture ["web", "at"] (defScope s_picture) := ⟨rfl, rfl, rfl, by decide +kernel, rfl, by decide +kernel, by decide +kernel⟩
abbrev N__law_jar : List Str := ["_law_script", "_law_seed", "_law_cell"]
theorem sc__law_jar : FnScope N__law_jar ["_law_script"] (defScope s__law_jar) := ⟨rfl, rfl, rfl, by decide +kernel, rfl, by decide +kernel, by decide +kernel⟩
abbrev N__law_draw : List Str := ["_law_jar_here", "_law_top", "_law_cell", "_law_digit"]
theorem sc__law_draw : FnScope N__law_draw ["_law_jar_here", "_law_top"] (defScope s__law_draw) := ⟨rfl, rfl, rfl, by decide +kernel, rfl, by decide +kernel, by decide +kernel⟩
abbrev N__law_of : List Str := ["_law_jar_here", "_law_some"]
theorem sc__law_of : FnScope N__law_of ["_law_jar_here", "_law_some"] (defScope s__law_of) := ⟨rfl, rfl, rfl, by decide +kernel, rfl, by decide +kernel, by decide +kernel⟩
abbrev N__law_same : List Str := ["_law_found", "_law_due", "_law_spot"]
theorem sc__law_same : FnScope N__law_same ["_law_found", "_law_due"] (defScope s__law_same) := ⟨rfl, rfl, rfl, by decide +kernel, rfl, by decide +kernel, by decide +kernel⟩
abbrev N__law_chain : List Str := ["_law_size", "_law_ringed", "_law_web", "_law_spot"]
theorem sc__law_chain : FnScope N__law_chain ["_law_size", "_law_ringed"] (defScope s__law_chain) := ⟨rfl, rfl, rfl, by decide +kernel, rfl, by decide +kernel, by decide +kernel⟩
abbrev N_law : List Str := ["_law_script", "_law_jar_here", "_law_turn", "_law_size", "_law_web", "_law_due", "_law_one", "_law_row", "_law_spot", "_law_told"]
theorem sc_law : FnScope N_law ["_law_script"] (defScope s_law) := ⟨rfl, rfl, rfl, by decide +kernel, rfl, by decide +kernel, by decide +kernel⟩
/-! ### refusals -/
theorem sci_HoldError : FnScope ["self", "called"] ["self", "called"] (defScope si_HoldError) := ⟨rfl, rfl, rfl, by decide +kernel, rfl, by decide +kernel, by decide +kernel⟩
theorem sci_BadNumber : FnScope ["self"] ["self"] (defScope si_BadNumber) := ⟨rfl, rfl, rfl, by decide +kernel, rfl, by decide +kernel, by decide +kernel⟩
theorem sci_BadWeb : FnScope ["self"] ["self"] (defScope si_BadWeb) := ⟨rfl, rfl, rfl, by decide +kernel, rfl, by decide +kernel, by decide +kernel⟩
theorem sci_TooBig : FnScope ["self", "rows"] ["self", "rows"] (defScope si_TooBig) := ⟨rfl, rfl, rfl, by decide +kernel, rfl, by decide +kernel, by decide +kernel⟩
section
variable {P : Program} {w : World} {K : PySem.W.Frag} {mg : Str → Option Value} {base : Heap}
theorem dx_BadNumber {fdH fd : FuncData} (E : ExcC K "BadNumber") (m : mg "BadNumber" = some (.ref (He.ga K "BadNumber"))) (mH : mg "HoldError" = some (.ref (He.ga K "HoldError"))) (cH : ClsI K (He.ga K "HoldError") (initA K (He.ga K "HoldError"))) (hv : mg "ValueError" = none) (vV : PySem.W.findCls K (.type "ValueError") (.type "type") "__init__" = some (.val (.builtin "ValueError.__init__")))
    (FH : FunD K "__init__" "HoldError.__init__" (defArgs si_HoldError) (defBody si_HoldError) (defScope si_HoldError) [] [] (initA K (He.ga K "HoldError")) fdH) (F : FunD K "__init__" "BadNumber.__init__" (defArgs si_BadNumber) (defBody si_BadNumber) (defScope si_BadNumber) [] [] (initA K (He.ga K "BadNumber")) fd) : ExcD P w K mg base (xmK K) "BadNumber" [] 2 :=
  ⟨rfl, m, E, fd, ["self"], F.bindsN fun _ _ _ _ _ _ us hl => match us, hl with | [_], _ => rfl, init0_ok F sci_BadNumber rfl rfl mH cH (pl := _) (fun _ => rfl) (initH_ok (k := 0) FH sci_HoldError rfl rfl rfl hv (pl := _) (fun _ => rfl) vV) (FH.bindsN (ps := ["self", "called"]) fun _ _ _ _ _ _ us hl => match us, hl with | [_, _], _ => rfl)⟩
theorem dx_BadWeb {fdH fd : FuncData} (E : ExcC K "BadWeb") (m : mg "BadWeb" = some (.ref (He.ga K "BadWeb"))) (mH : mg "HoldError" = some (.ref (He.ga K "HoldError"))) (cH : ClsI K (He.ga K "HoldError") (initA K (He.ga K "HoldError"))) (hv : mg "ValueError" = none) (vV : PySem.W.findCls K (.type "ValueError") (.type "type") "__init__" = some (.val (.builtin "ValueError.__init__")))
    (FH : FunD K "__init__" "HoldError.__init__" (defArgs si_HoldError) (defBody si_HoldError) (defScope si_HoldError) [] [] (initA K (He.ga K "HoldError")) fdH) (F : FunD K "__init__" "BadWeb.__init__" (defArgs si_BadWeb) (defBody si_BadWeb) (defScope si_BadWeb) [] [] (initA K (He.ga K "BadWeb")) fd) : ExcD P w K mg base (xmK K) "BadWeb" [] 2 :=
  ⟨rfl, m, E, fd, ["self"], F.bindsN fun _ _ _ _ _ _ us hl => match us, hl with | [_], _ => rfl, init0_ok F sci_BadWeb rfl rfl mH cH (pl := _) (fun _ => rfl) (initH_ok (k := 0) FH sci_HoldError rfl rfl rfl hv (pl := _) (fun _ => rfl) vV) (FH.bindsN (ps := ["self", "called"]) fun _ _ _ _ _ _ us hl => match us, hl with | [_, _], _ => rfl)⟩
theorem dx_TooBig {fdH fd : FuncData} (E : ExcC K "TooBig") (m : mg "TooBig" = some (.ref (He.ga K "TooBig"))) (mH : mg "HoldError" = some (.ref (He.ga K "HoldError"))) (cH : ClsI K (He.ga K "HoldError") (initA K (He.ga K "HoldError"))) (hv : mg "ValueError" = none) (vV : PySem.W.findCls K (.type "ValueError") (.type "type") "__init__" = some (.val (.builtin "ValueError.__init__")))
    (FH : FunD K "__init__" "HoldError.__init__" (defArgs si_HoldError) (defBody si_HoldError) (defScope si_HoldError) [] [] (initA K (He.ga K "HoldError")) fdH) (F : FunD K "__init__" "TooBig.__init__" (defArgs si_TooBig) (defBody si_TooBig) (defScope si_TooBig) [] [] (initA K (He.ga K "TooBig")) fd) : ExcD P w K mg base (xmK K) "TooBig" ["rows"] 2 :=
  ⟨rfl, m, E, fd, ["self", "rows"], F.bindsN fun _ _ _ _ _ _ us hl => match us, hl with | [_, _], _ => rfl, init1_ok F sci_TooBig rfl rfl rfl (by decide) mH cH (pl := _) (fun _ => rfl) (initH_ok (k := 0) FH sci_HoldError rfl rfl rfl hv (pl := _) (fun _ => rfl) vV) (FH.bindsN (ps := ["self", "called"]) fun _ _ _ _ _ _ us hl => match us, hl with | [_, _], _ => rfl) (by decide) (by decide)⟩
theorem sc__law_field : FnScope ["_law_e"] ["_law_e"] (defScope s__law_field) := ⟨rfl, rfl, rfl, by decide +kernel, rfl, by decide +kernel, by decide +kernel⟩
theorem sc__law_why : FnScope ["_law_act", "_law_e"] ["_law_act"] (defScope s__law_why) := ⟨rfl, rfl, rfl, by decide +kernel, rfl, by decide +kernel, by decide +kernel⟩
theorem fldD_ok {f : Addr} {fd : FuncData} (hm : mg "_law_field" = some (.ref f)) (F : FunD K "_law_field" "_law_field" (defArgs s__law_field) (defBody s__law_field) (defScope s__law_field) [] [] f fd) (hi : mg "isinstance" = none) (m_TooBig : mg "TooBig" = some (.ref (He.ga K "TooBig"))) (m_TooMany : mg "TooMany" = some (.ref (He.ga K "TooMany"))) (m_Unread : mg "Unread" = some (.ref (He.ga K "Unread"))) (m_BadLine : mg "BadLine" = some (.ref (He.ga K "BadLine"))) (m_Tangled : mg "Tangled" = some (.ref (He.ga K "Tangled"))) (m_Loose : mg "Loose" = some (.ref (He.ga K "Loose"))) : FieldD K mg f (defBody s__law_field) (defScope s__law_field) := by
  refine ⟨hm, ⟨_, fd, F, F.bindsN fun _ _ _ _ _ _ us hl => ?_⟩, sc__law_field, fun Y a d o c e1 e2 e3 e4 G T => ?_⟩
  · match us, hl with | [_], _ => rfl
  subst e1 e2
  have gl : ∀ x : Str, (defScope s__law_field).names.lookup x = some .globalImplicit → Gl Y x := fun x h => by show Y.env.scope.names.lookup x = _; rw [e3]; exact h
  refine pss_field G T (by rw [e4]; rfl) (by rw [e3]; exact .inl rfl) (gl _ rfl) hi fun D hD => ?_
  simp only [List.mem_cons, List.not_mem_nil, or_false] at hD
  rcases hD with rfl | rfl | rfl | rfl | rfl | rfl
  · exact ⟨gl _ rfl, m_TooBig⟩
  · exact ⟨gl _ rfl, m_TooMany⟩
  · exact ⟨gl _ rfl, m_Unread⟩
  · exact ⟨gl _ rfl, m_BadLine⟩
  · exact ⟨gl _ rfl, m_Tangled⟩
  · exact ⟨gl _ rfl, m_Loose⟩
theorem why_def {f fF : Addr} {fd : FuncData} (hm : mg "_law_why" = some (.ref f)) (F : FunD K "_law_why" "_law_why" (defArgs s__law_why) (defBody s__law_why) (defScope s__law_why) [] [] f fd) (FF : FieldD K mg fF (defBody s__law_field) (defScope s__law_field)) (hT : ∀ c ∈ exT, WhyC K c) (m0 : mg "HoldError" = some (.ref (He.ga K "HoldError"))) (m1 : mg "NoName" = some (.ref (He.ga K "NoName"))) (m2 : mg "NothingLeft" = some (.ref (He.ga K "NothingLeft"))) : WhyDef K mg "_law_why" "_law_act" (TTwhy K exT) := by
  refine ⟨f, fd, _, _, _, ["_law_act", "_law_e"], hm, F, F.bindsN fun _ _ _ _ _ _ us hl => ?_, sc__law_why, rfl, .inl rfl, fun X cdg q e1 e2 hr => ?_⟩
  · match us, hl with | [_], _ => rfl
  subst e1 e2
  refine why_gives (k := 0) (sg := defScope s__law_why) FF hT hr (by decide) rfl rfl rfl fun D hD => ?_
  simp only [List.mem_cons, List.not_mem_nil, or_false] at hD
  rcases hD with rfl | rfl | rfl
  · exact ⟨rfl, m0⟩
  · exact ⟨rfl, m1⟩
  · exact ⟨rfl, m2⟩
end
/-! ### derivations -/
section
variable {P : Program} {w : World} {K : PySem.W.Frag} {mg : Str → Option Value} {base : Heap} {xm : XM}
theorem d_is_whole (F : FunAt K mg "is_whole" s_is_whole) (h_bool : mg "bool" = none) (h_int : mg "int" = none) (h_isinstance : mg "isinstance" = none) : Def P w K mg base (xmK K) "is_whole" 1 1 m_is_whole := by
  refine def_ok (k := 0) F sc_is_whole rfl rfl (fun _ _ _ _ _ _ us hl => match us, hl with | [_], _ => rfl) fun f cdv A outer s H N E hK hn en hr c hp => ?_
  unfold b_is_whole
  exact s_one (s_ret en (v_and (e_callB c cr_isi f_isi rfl h_isinstance bo_isinstance (p_cons (e_var c 0 (pv 0)) (p_cons (e_ty c rfl h_int bo_int) p_nil))) (v_one (v_not (e_callB c cr_isi f_isi rfl h_isinstance bo_isinstance (p_cons (e_var c 0 (pv 0)) (p_cons (e_ty c rfl h_bool bo_bool) p_nil)))))))
theorem d_is_row (F : FunAt K mg "is_row" s_is_row) (h_all : mg "all" = none) (h_isinstance : mg "isinstance" = none) (h_tuple : mg "tuple" = none) (d_is_whole : Def P w K mg base (xmK K) "is_whole" 1 1 (m_is_whole)) : Def P w K mg base (xmK K) "is_row" 2 2 m_is_row := by
  refine def_ok (k := 1) F sc_is_row rfl rfl (fun _ _ _ _ _ _ us hl => match us, hl with | [_, _], _ => rfl) fun f cdv A outer s H N E hK hn en hr c hp => ?_
  unfold b_is_row
  exact s_one (s_ret en (v_and (e_callB c cr_isi f_isi rfl h_isinstance bo_isinstance (p_cons (e_var c 0 (pv 0)) (p_cons (e_ty c rfl h_tuple bo_tuple) p_nil))) (v_one (e_callB c (cr_all c.calm) f_all rfl h_all bo_all (p_cons (e_comp (own := [("one", 2)]) c (i_any c (e_var c 0 (pv 0))) (blkOk_by (own := [("one", 2)]) (N := N_is_row) (sc := (defScope s_is_row)) (by decide +kernel)) (fun s H C cl fp => pg_name (i := 2) (by exact c.nd) rfl (by first | exact Or.inl rfl | exact Or.inr rfl)) (fun N hn2 hK2 => tg_name (by omega)) (by decide) (fun s H C cl fp => fun N hn2 c => ts_nil) (fun s H C cl fp => fun N hn2 c => v_and (e_def c d_is_whole hr rfl (d_cons (e_var c 2 (pv 2)) d_nil) (hk := by omega)) (v_one (e_chain c op_le op_lt f_le f_lt (e_int c) (e_var c 2 (pv 2)) (e_var c 1 (pv 1)))))) p_nil)))))
theorem d_is_web (F : FunAt K mg "is_web" s_is_web) (h_all : mg "all" = none) (h_isinstance : mg "isinstance" = none) (h_len : mg "len" = none) (h_list : mg "list" = none) (h_tuple : mg "tuple" = none) (k_MOST_WEB : Dat K mg "MOST_WEB" v_MOST_WEB) (d_is_row : Def P w K mg base (xmK K) "is_row" 2 2 (m_is_row)) : Def P w K mg base (xmK K) "is_web" 3 1 m_is_web := by
  refine def_ok (k := 2) F sc_is_web rfl rfl (fun _ _ _ _ _ _ us hl => match us, hl with | [_], _ => rfl) fun f cdv A outer s H N E hK hn en hr c hp => ?_
  unfold b_is_web
  exact s_cons (s_if (PW.pt (w_or (t_not (t_val (e_callB c cr_isi f_isi rfl h_isinstance bo_isinstance (p_cons (e_var c 0 (pv 0)) (p_cons (e_tup c (d_cons (e_ty c rfl h_tuple bo_tuple) (d_cons (e_ty c rfl h_list bo_list) d_nil))) p_nil))))) (w_or1 (t_not (t_chain c op_le op_le f_le f_le (e_int c) (e_callB c cr_lenA f_lenA rfl h_len bo_len (p_cons (e_var c 0 (pv 0)) p_nil)) (e_dat c rfl k_MOST_WEB)))))) (s_one (s_ret en (e_bl c))) (s_nil))
        (s_one (s_ret en (e_callB c (cr_all c.calm) f_all rfl h_all bo_all (p_cons (e_comp (own := [("row", 1)]) c (i_any c (e_var c 0 (pv 0))) (blkOk_by (own := [("row", 1)]) (N := N_is_web) (sc := (defScope s_is_web)) (by decide +kernel)) (fun s H C cl fp => pg_name (i := 1) (by exact c.nd) rfl (by first | exact Or.inl rfl | exact Or.inr rfl)) (fun N hn2 hK2 => tg_name (by omega)) (by decide) (fun s H C cl fp => fun N hn2 c => ts_nil) (fun s H C cl fp => fun N hn2 c => e_def c d_is_row hr rfl (d_cons (e_var c 1 (pv 1)) (d_cons (e_callB c cr_lenA f_lenA rfl h_len bo_len (p_cons (e_var c 0 (pv 0)) p_nil)) d_nil)) (hk := by omega))) p_nil))))
theorem d_next_round (F : FunAt K mg "next_round" s_next_round) (h_enumerate : mg "enumerate" = none) (h_set : mg "set" = none) (h_sorted : mg "sorted" = none) (h_tuple : mg "tuple" = none) : Def P w K mg base (xmK K) "next_round" 1 2 m_next_round := by
  refine def_ok (k := 0) F sc_next_round rfl rfl (fun _ _ _ _ _ _ us hl => match us, hl with | [_, _], _ => rfl) fun f cdv A outer s H N E hK hn en hr c hp => ?_
  unfold b_next_round
  exact s_cons (s_setC (i := 2) (own := [("at", 4), ("row", 5)]) c rfl rfl rfl (i_enumA c rfl h_enumerate (d_cons (e_var c 0 (pv 0)) d_nil)) (blkOk_by (own := [("at", 4), ("row", 5)]) (N := N_next_round) (sc := (defScope s_next_round)) (by decide +kernel)) (fun s H C cl fp => pg_tup (by exact c.calm) (pgs_cons (pg_name (i := 4) (by exact c.nd) rfl (by first | exact Or.inl rfl | exact Or.inr rfl)) (pgs_cons (pg_name (i := 5) (by exact c.nd) rfl (by first | exact Or.inl rfl | exact Or.inr rfl)) (pgs_nil)))) (fun N hn2 hK2 => tg_pair (ts := [4, 5]) (by intro i hi; simp at hi; omega) (hK2.trans c.hK)) (by decide) (fun s H C cl fp => fun N hn2 c => ts_nil) (fun s H C cl fp => fun N hn2 c => e_tup c (d_cons (e_ix c (ix_B c.un) f_ixA (e_var c 1 (pv 1)) (e_var c 4 (pv 4)) (fun _ _ => rfl)) (d_cons (e_callTy c call_tuple_of f_tuple rfl h_tuple bo_tuple (p_cons (e_sortC (own := [("one", 3)]) c rfl h_sorted (i_any c (e_var c 5 (pv 5))) (blkOk_by (own := [("one", 3)]) (N := N_next_round) (sc := (relS _ (defScope s_next_round))) (by decide +kernel)) (fun s H C cl fp => pg_name (i := 3) (by exact c.nd) rfl (by first | exact Or.inl rfl | exact Or.inr rfl)) (fun N hn2 hK2 => tg_name (by omega)) (by decide) (fun s H C cl fp => fun N hn2 c => ts_nil) (fun s H C cl fp => fun N hn2 c => e_ix c (ix_B c.un) f_ixA (e_var c 1 (pv 1)) (e_var c 3 (pv 3)) (fun _ _ => rfl))) p_nil)) d_nil))) (by omega))
        (s_cons (s_set (i := 6) c rfl (by first | exact Or.inl rfl | exact Or.inr rfl) (e_dictC (own := [("at", 4), ("key", 7)]) c (i_enumA c rfl h_enumerate (d_cons (e_sortSetA c rfl h_sorted rfl h_set (e_var c 2 (pv 2))) d_nil)) (blkOk_by (own := [("at", 4), ("key", 7)]) (N := N_next_round) (sc := (defScope s_next_round)) (by decide +kernel)) (fun s H C cl fp => pg_tup (by exact c.calm) (pgs_cons (pg_name (i := 4) (by exact c.nd) rfl (by first | exact Or.inl rfl | exact Or.inr rfl)) (pgs_cons (pg_name (i := 7) (by exact c.nd) rfl (by first | exact Or.inl rfl | exact Or.inr rfl)) (pgs_nil)))) (fun N hn2 hK2 => tg_pair (ts := [4, 7]) (by intro i hi; simp at hi; omega) (hK2.trans c.hK)) (by decide) (fun s H C cl fp => fun N hn2 c => ts_nil) (fun s H C cl fp => fun N hn2 c => e_var c 7 (pv 7)) (fun s H C cl fp => fun N hn2 c => e_var c 4 (pv 4))) (by omega))
        (s_one (s_ret en (e_comp (own := [("key", 7)]) c (i_any c (e_var c 2 (pv 2))) (blkOk_by (own := [("key", 7)]) (N := N_next_round) (sc := (defScope s_next_round)) (by decide +kernel)) (fun s H C cl fp => pg_name (i := 7) (by exact c.nd) rfl (by first | exact Or.inl rfl | exact Or.inr rfl)) (fun N hn2 hK2 => tg_name (by omega)) (by decide) (fun s H C cl fp => fun N hn2 c => ts_nil) (fun s H C cl fp => fun N hn2 c => e_ix c (ix_B c.un) f_ixA (e_var c 6 (pv 6)) (e_var c 7 (pv 7)) (fun _ _ => rfl))))))
theorem d_last_round (F : FunAt K mg "last_round" s_last_round) (h_len : mg "len" = none) (d_next_round : Def P w K mg base (xmK K) "next_round" 1 2 (m_next_round)) : Def P w K mg base (xmK K) "last_round" 2 1 m_last_round := by
  refine def_ok (k := 1) F sc_last_round rfl rfl (fun _ _ _ _ _ _ us hl => match us, hl with | [_], _ => rfl) fun f cdv A outer s H N E hK hn en hr c hp => ?_
  unfold b_last_round
  exact s_cons (s_set (i := 1) c rfl (by first | exact Or.inl rfl | exact Or.inr rfl) (e_bin c op_mulAll f_mul (e_lst c (d_cons (e_int c) d_nil)) (e_callB c cr_lenA f_lenA rfl h_len bo_len (p_cons (e_var c 0 (pv 0)) p_nil))) (by omega))
        (s_cons (s_set (i := 2) c rfl (by first | exact Or.inl rfl | exact Or.inr rfl) (e_def c d_next_round hr rfl (d_cons (e_var c 0 (pv 0)) (d_cons (e_var c 1 (pv 1)) d_nil)) (hk := by omega)) (by omega))
        (s_cons (s_while hp (t_cmp c (op_neD (by have := c.un; omega)) f_ne (e_var c 2 (pv 2)) (e_var c 1 (pv 1)) rfl) (s_one (s_par (i := 1) (j := 2) c rfl rfl (by decide) rfl rfl (d_cons (e_var c 2 (pv 2)) (d_cons (e_def c d_next_round hr rfl (d_cons (e_var c 0 (pv 0)) (d_cons (e_var c 2 (pv 2)) d_nil)) (hk := by omega)) d_nil)) rfl (by omega) (by omega))))
        (s_one (s_ret en (e_var c 1 (pv 1))))))
theorem d_come_to (F : FunAt K mg "come_to" s_come_to) (h_sorted : mg "sorted" = none) : Def P w K mg base (xmK K) "come_to" 1 2 m_come_to := by
  refine def_ok (k := 0) F sc_come_to rfl rfl (fun _ _ _ _ _ _ us hl => match us, hl with | [_, _], _ => rfl) fun f cdv A outer s H N E hK hn en hr c hp => ?_
  unfold b_come_to
  exact s_cons (s_set (i := 2) c rfl (by first | exact Or.inl rfl | exact Or.inr rfl) (e_disp (ms := [(mVar 1, mD (.bl true))]) (pps_cons (any_w c fun N hn2 c => e_var c 1 (pv 1)) (any_w c fun N hn2 c => e_bl c) pps_nil)) (by omega))
        (s_cons (s_set (i := 3) c rfl (by first | exact Or.inl rfl | exact Or.inr rfl) (e_lst c (d_cons (e_var c 1 (pv 1)) d_nil)) (by omega))
        (s_cons (s_while hp (t_cmp c (op_neD (by have := c.un; omega)) f_ne (e_var c 3 (pv 3)) (e_lst c (d_nil)) rfl) (s_one (s_for c hp (i_any c (e_ix c (ix_B c.un) f_ixA (e_var c 0 (pv 0)) (e_mut0 c PySem.F.plainAttrs_list PySem.F.slot_list_pop PySem.F.type_list_pop mt_pop m_pop (e_var c 3 (pv 3))) (fun _ _ => rfl))) (pg_name (i := 4) c.nd rfl (by first | exact Or.inl rfl | exact Or.inr rfl)) (tg_name (by omega)) (s_one (s_if (t_cmp c (op_notInB c.un) f_notInA (e_var c 4 (pv 4)) (e_var c 2 (pv 2)) rfl) (s_cons (s_put c (e_var c 2 (pv 2)) (e_var c 4 (pv 4)) (e_bl c) (set_B c.un) s_setA)
        (s_one (s_expr (e_mut c PySem.F.plainAttrs_list PySem.F.slot_list_append PySem.F.type_list_append mt_append m_append (e_var c 3 (pv 3)) (d_cons (e_var c 4 (pv 4)) d_nil))))) (s_nil))))))
        (s_one (s_ret en (e_callB c (cr_sortB c.calm) f_sorted rfl h_sorted bo_sorted (p_cons (e_var c 2 (pv 2)) p_nil))))))
theorem d_pictured (F : FunAt K mg "pictured" s_pictured) (h_enumerate : mg "enumerate" = none) (h_max : mg "max" = none) (h_sorted : mg "sorted" = none) (h_tuple : mg "tuple" = none) (k_MOST_ROWS : Dat K mg "MOST_ROWS" v_MOST_ROWS) (d_come_to : Def P w K mg base (xmK K) "come_to" 1 2 (m_come_to)) (d_last_round : Def P w K mg base (xmK K) "last_round" 2 1 (m_last_round)) (dx_TooBig : ExcD P w K mg base (xmK K) "TooBig" ["rows"] 2) : Def P w K mg base (xmK K) "pictured" 4 2 m_pictured := by
  refine def_ok (k := 3) F sc_pictured rfl rfl (fun _ _ _ _ _ _ us hl => match us, hl with | [_, _], _ => rfl) fun f cdv A outer s H N E hK hn en hr c hp => ?_
  unfold b_pictured
  exact s_cons (s_set (i := 2) c rfl (by first | exact Or.inl rfl | exact Or.inr rfl) (e_def c d_come_to hr rfl (d_cons (e_var c 0 (pv 0)) (d_cons (e_var c 1 (pv 1)) d_nil)) (hk := by omega)) (by omega))
        (s_cons (s_set (i := 3) c rfl (by first | exact Or.inl rfl | exact Or.inr rfl) (e_dictK (own := [("place", 4), ("row", 5)]) c (i_enumA c rfl h_enumerate (d_cons (e_var c 2 (pv 2)) d_nil)) (blkOk_by (own := [("place", 4), ("row", 5)]) (N := N_pictured) (sc := (defScope s_pictured)) (by decide +kernel)) (fun s H C cl fp => pg_tup (by exact c.calm) (pgs_cons (pg_name (i := 4) (by exact c.nd) rfl (by first | exact Or.inl rfl | exact Or.inr rfl)) (pgs_cons (pg_name (i := 5) (by exact c.nd) rfl (by first | exact Or.inl rfl | exact Or.inr rfl)) (pgs_nil)))) (fun N hn2 hK2 => tg_pair (ts := [4, 5]) (by intro i hi; simp at hi; omega) (hK2.trans c.hK)) (by decide) (fun s H C cl fp => fun N hn2 c => ts_nil) (fun s H C cl fp => fun N hn2 c => e_var c 5 (pv 5)) (fun s H C cl fp => fun N hn2 c => e_var c 4 (pv 4))) (by omega))
        (s_cons (s_setC (i := 6) (own := [("row", 5)]) c rfl rfl rfl (i_any c (e_var c 2 (pv 2))) (blkOk_by (own := [("row", 5)]) (N := N_pictured) (sc := (defScope s_pictured)) (by decide +kernel)) (fun s H C cl fp => pg_name (i := 5) (by exact c.nd) rfl (by first | exact Or.inl rfl | exact Or.inr rfl)) (fun N hn2 hK2 => tg_name (by omega)) (by decide) (fun s H C cl fp => fun N hn2 c => ts_nil) (fun s H C cl fp => fun N hn2 c => e_callTy c call_tuple_of f_tuple rfl h_tuple bo_tuple (p_cons (e_comp (own := [("one", 7)]) c (i_any c (e_ix c (ix_B c.un) f_ixA (e_var c 0 (pv 0)) (e_var c 5 (pv 5)) (fun _ _ => rfl))) (blkOk_by (own := [("one", 7)]) (N := N_pictured) (sc := (relS _ (defScope s_pictured))) (by decide +kernel)) (fun s H C cl fp => pg_name (i := 7) (by exact c.nd) rfl (by first | exact Or.inl rfl | exact Or.inr rfl)) (fun N hn2 hK2 => tg_name (by omega)) (by decide) (fun s H C cl fp => fun N hn2 c => ts_nil) (fun s H C cl fp => fun N hn2 c => e_ix c (ix_B c.un) f_ixA (e_var c 3 (pv 3)) (e_var c 7 (pv 7)) (fun _ _ => rfl))) p_nil)) (by omega))
        (s_cons (s_set (i := 8) c rfl (by first | exact Or.inl rfl | exact Or.inr rfl) (e_def c d_last_round hr rfl (d_cons (e_var c 6 (pv 6)) d_nil) (hk := by omega)) (by omega))
        (s_cons (s_set (i := 9) c rfl (by first | exact Or.inl rfl | exact Or.inr rfl) (e_bin c op_addAll f_add (e_callB c (cr_max c.calm) f_max rfl h_max bo_max (p_cons (e_var c 8 (pv 8)) p_nil)) (e_int c)) (by omega))
        (s_cons (s_if (t_cmp c op_gt f_gt (e_var c 9 (pv 9)) (e_dat c rfl k_MOST_ROWS) rfl) (s_one (s_raise c dx_TooBig hr rfl (d_cons (e_var c 9 (pv 9)) d_nil) (hk := by omega))) (s_nil))
        (s_cons (s_set (i := 10) c rfl (by first | exact Or.inl rfl | exact Or.inr rfl) (e_bin c op_mulAll f_mul (e_lst c (d_cons (e_tup c (d_nil)) d_nil)) (e_var c 9 (pv 9))) (by omega))
        (s_cons (s_for c hp (i_enumA c rfl h_enumerate (d_cons (e_var c 8 (pv 8)) d_nil)) (pg_tup c.calm (pgs_cons (pg_name (i := 4) c.nd rfl (by first | exact Or.inl rfl | exact Or.inr rfl)) (pgs_cons (pg_name (i := 11) c.nd rfl (by first | exact Or.inl rfl | exact Or.inr rfl)) (pgs_nil)))) (tg_pair (ts := [4, 11]) (by intro i hi; simp at hi; omega) c.hK) (s_one (s_put c (e_var c 10 (pv 10)) (e_var c 11 (pv 11)) (e_callTy c call_tuple_of f_tuple rfl h_tuple bo_tuple (p_cons (e_sortC (own := [("one", 7)]) c rfl h_sorted (i_any c (e_ix c (ix_B c.un) f_ixA (e_var c 6 (pv 6)) (e_var c 4 (pv 4)) (fun _ _ => rfl))) (blkOk_by (own := [("one", 7)]) (N := N_pictured) (sc := (defScope s_pictured)) (by decide +kernel)) (fun s H C cl fp => pg_name (i := 7) (by exact c.nd) rfl (by first | exact Or.inl rfl | exact Or.inr rfl)) (fun N hn2 hK2 => tg_name (by omega)) (by decide) (fun s H C cl fp => fun N hn2 c => ts_nil) (fun s H C cl fp => fun N hn2 c => e_ix c (ix_B c.un) f_ixA (e_var c 8 (pv 8)) (e_var c 7 (pv 7)) (fun _ _ => rfl))) p_nil)) (set_B c.un) s_setA)))
        (s_one (s_ret en (e_tup c (d_cons (e_ix c (ix_B c.un) f_ixA (e_var c 8 (pv 8)) (e_ix c (ix_B c.un) f_ixA (e_var c 3 (pv 3)) (e_var c 1 (pv 1)) (fun _ _ => rfl)) (fun _ _ => rfl)) (d_cons (e_callTy c call_tuple_of f_tuple rfl h_tuple bo_tuple (p_cons (e_var c 10 (pv 10)) p_nil)) d_nil))))))))))))
theorem d_need_web (F : FunAt K mg "need_web" s_need_web) (d_is_web : Def P w K mg base (xmK K) "is_web" 3 1 (m_is_web)) (dx_BadWeb : ExcD P w K mg base (xmK K) "BadWeb" [] 2) : Def P w K mg base (xmK K) "need_web" 4 1 m_need_web := by
  refine def_ok (k := 3) F sc_need_web rfl rfl (fun _ _ _ _ _ _ us hl => match us, hl with | [_], _ => rfl) fun f cdv A outer s H N E hK hn en hr c hp => ?_
  unfold b_need_web
  exact s_one (s_if (t_not (t_val (e_def c d_is_web hr rfl (d_cons (e_var c 0 (pv 0)) d_nil) (hk := by omega)))) (s_one (s_raise0 c dx_BadWeb hr rfl (hk := by omega))) (s_nil))
theorem d_need_row (F : FunAt K mg "need_row" s_need_row) (h_len : mg "len" = none) (d_is_whole : Def P w K mg base (xmK K) "is_whole" 1 1 (m_is_whole)) (dx_BadNumber : ExcD P w K mg base (xmK K) "BadNumber" [] 2) : Def P w K mg base (xmK K) "need_row" 4 2 m_need_row := by
  refine def_ok (k := 3) F sc_need_row rfl rfl (fun _ _ _ _ _ _ us hl => match us, hl with | [_, _], _ => rfl) fun f cdv A outer s H N E hK hn en hr c hp => ?_
  unfold b_need_row
  exact s_one (s_if (PW.pt (w_or (t_not (t_val (e_def c d_is_whole hr rfl (d_cons (e_var c 1 (pv 1)) d_nil) (hk := by omega)))) (w_or1 (t_not (t_chain c op_le op_lt f_le f_lt (e_int c) (e_var c 1 (pv 1)) (e_callB c cr_lenA f_lenA rfl h_len bo_len (p_cons (e_var c 0 (pv 0)) p_nil))))))) (s_one (s_raise0 c dx_BadNumber hr rfl (hk := by omega))) (s_nil))
theorem d_picture (F : FunAtK K mg "picture" s_picture [("at", .int 0)]) (d_need_row : Def P w K mg base (xmK K) "need_row" 4 2 (m_need_row)) (d_need_web : Def P w K mg base (xmK K) "need_web" 4 1 (m_need_web)) (d_pictured : Def P w K mg base (xmK K) "pictured" 4 2 (m_pictured)) : DefK P w K mg base (xmK K) "picture" 5 1 ["at"] [.int 0] m_picture := by
  refine defK_ok (k := 4) F sc_picture rfl rfl (by simp) (fun _ _ _ _ _ _ us ws hl hw => match us, ws, hl, hw with | [_], [_], _, _ => rfl) (fun _ _ _ _ _ _ us ws hl hw => match us, ws, hl, hw with | [_], [_], _, _ => ⟨_, _, _, _, _, _, rfl, rfl, rfl⟩) (fun _ _ _ => .cons (.int _) .nil) fun f cdv A outer s H N E hK hn en hr c hp => ?_
  unfold b_picture
  exact s_cons (s_expr (e_def c d_need_web hr rfl (d_cons (e_var c 0 (pv 0)) d_nil) (hk := by omega)))
        (s_cons (s_expr (e_def c d_need_row hr rfl (d_cons (e_var c 0 (pv 0)) (d_cons (e_var c 1 (pv 1)) d_nil)) (hk := by omega)))
        (s_one (s_ret en (e_def c d_pictured hr rfl (d_cons (e_var c 0 (pv 0)) (d_cons (e_var c 1 (pv 1)) d_nil)) (hk := by omega)))))
theorem d__law_jar (F : FunAt K mg "_law_jar" s__law_jar) (h_len : mg "len" = none) (h_list : mg "list" = none) : Def P w K mg base (xmK K) "_law_jar" 1 1 m__law_jar := by
  refine def_ok (k := 0) F sc__law_jar rfl rfl (fun _ _ _ _ _ _ us hl => match us, hl with | [_], _ => rfl) fun f cdv A outer s H N E hK hn en hr c hp => ?_
  unfold b__law_jar
  exact s_cons (s_set (i := 1) c rfl (by first | exact Or.inl rfl | exact Or.inr rfl) (e_bin c op_addAll f_add (e_int c) (e_callB c cr_lenA f_lenA rfl h_len bo_len (p_cons (e_var c 0 (pv 0)) p_nil))) (by omega))
        (s_cons (s_for c hp (i_any c (e_slice c (e_var c 0 (pv 0)) (o_none) (o_some (e_int c)))) (pg_name (i := 2) c.nd rfl (by first | exact Or.inl rfl | exact Or.inr rfl)) (tg_name (by omega)) (s_one (s_set (i := 1) c rfl (by first | exact Or.inl rfl | exact Or.inr rfl) (e_bin c op_mod f_mod (e_bin c op_addAll f_add (e_bin c op_addAll f_add (e_bin c op_mulAll f_mul (e_var c 1 (pv 1)) (e_int c)) (e_var c 2 (pv 2))) (e_int c)) (e_int c)) (by omega))))
        (s_one (s_ret en (e_lst c (d_cons (e_callTy c call_list_of f_list rfl h_list bo_list (p_cons (e_slice c (e_var c 0 (pv 0)) (o_none) (o_some (e_int c))) p_nil)) (d_cons (e_int c) (d_cons (e_int c) (d_cons (e_var c 1 (pv 1)) (d_cons (e_int c) d_nil)))))))))
theorem d__law_draw (F : FunAt K mg "_law_draw" s__law_draw) (h_len : mg "len" = none) : Def P w K mg base (xmK K) "_law_draw" 1 2 m__law_draw := by
  refine def_ok (k := 0) F sc__law_draw rfl rfl (fun _ _ _ _ _ _ us hl => match us, hl with | [_, _], _ => rfl) fun f cdv A outer s H N E hK hn en hr c hp => ?_
  unfold b__law_draw
  exact s_cons (s_if (PW.pt (w_and (t_cmp c op_lt f_lt (e_ix c (ix_B c.un) f_ixA (e_var c 0 (pv 0)) (e_int c) (fun _ _ => rfl)) (e_var c 1 (pv 1)) rfl) (w_and1 (t_cmp c op_lt f_lt (e_ix c (ix_B c.un) f_ixA (e_var c 0 (pv 0)) (e_int c) (fun _ _ => rfl)) (e_callB c cr_lenA f_lenA rfl h_len bo_len (p_cons (e_ix c (ix_B c.un) f_ixA (e_var c 0 (pv 0)) (e_int c) (fun _ _ => rfl)) p_nil)) rfl)))) (s_cons (s_set (i := 2) c rfl (by first | exact Or.inl rfl | exact Or.inr rfl) (e_ix c (ix_B c.un) f_ixA (e_ix c (ix_B c.un) f_ixA (e_var c 0 (pv 0)) (e_int c) (fun _ _ => rfl)) (e_ix c (ix_B c.un) f_ixA (e_var c 0 (pv 0)) (e_int c) (fun _ _ => rfl)) (fun _ _ => rfl)) (by omega))
        (s_cons (s_put c (e_var c 0 (pv 0)) (e_int c) (e_bin c op_addAll f_add (e_ix c (ix_B c.un) f_ixA (e_var c 0 (pv 0)) (e_int c) (fun _ _ => rfl)) (e_int c)) (set_B c.un) s_setA)
        (s_cons (s_put c (e_var c 0 (pv 0)) (e_int c) (e_bin c op_mod f_mod (e_bin c op_addAll f_add (e_bin c op_addAll f_add (e_bin c op_mulAll f_mul (e_ix c (ix_B c.un) f_ixA (e_var c 0 (pv 0)) (e_int c) (fun _ _ => rfl)) (e_int c)) (e_var c 2 (pv 2))) (e_ix c (ix_B c.un) f_ixA (e_var c 0 (pv 0)) (e_int c) (fun _ _ => rfl))) (e_int c)) (set_B c.un) s_setA)
        (s_one (s_put c (e_var c 0 (pv 0)) (e_int c) (e_if (t_cmp c op_ge f_ge (e_var c 2 (pv 2)) (e_bin c op_pow f_pow (e_int c) (e_int c)) rfl) (e_var c 2 (pv 2)) (e_int c)) (set_B c.un) s_setA))))) (s_nil))
        (s_cons (s_if (t_cmp c op_ge f_ge (e_ix c (ix_B c.un) f_ixA (e_var c 0 (pv 0)) (e_int c) (fun _ _ => rfl)) (e_var c 1 (pv 1)) rfl) (s_cons (s_set (i := 3) c rfl (by first | exact Or.inl rfl | exact Or.inr rfl) (e_bin c op_mod f_mod (e_ix c (ix_B c.un) f_ixA (e_var c 0 (pv 0)) (e_int c) (fun _ _ => rfl)) (e_var c 1 (pv 1))) (by omega))
        (s_cons (s_put c (e_var c 0 (pv 0)) (e_int c) (e_bin c op_fdiv f_fdiv (e_ix c (ix_B c.un) f_ixA (e_var c 0 (pv 0)) (e_int c) (fun _ _ => rfl)) (e_var c 1 (pv 1))) (set_B c.un) s_setA)
        (s_one (s_ret en (e_var c 3 (pv 3)))))) (s_nil))
        (s_cons (s_put c (e_var c 0 (pv 0)) (e_int c) (e_bin c op_addAll f_add (e_ix c (ix_B c.un) f_ixA (e_var c 0 (pv 0)) (e_int c) (fun _ _ => rfl)) (e_int c)) (set_B c.un) s_setA)
        (s_cons (s_put c (e_var c 0 (pv 0)) (e_int c) (e_bin c op_mod f_mod (e_bin c op_addAll f_add (e_bin c op_addAll f_add (e_bin c op_addAll f_add (e_bin c op_pow f_pow (e_ix c (ix_B c.un) f_ixA (e_var c 0 (pv 0)) (e_int c) (fun _ _ => rfl)) (e_int c)) (e_bin c op_mulAll f_mul (e_int c) (e_ix c (ix_B c.un) f_ixA (e_var c 0 (pv 0)) (e_int c) (fun _ _ => rfl)))) (e_bin c op_fdiv f_fdiv (e_ix c (ix_B c.un) f_ixA (e_var c 0 (pv 0)) (e_int c) (fun _ _ => rfl)) (e_int c))) (e_int c)) (e_int c)) (set_B c.un) s_setA)
        (s_one (s_ret en (e_bin c op_mod f_mod (e_bin c op_fdiv f_fdiv (e_ix c (ix_B c.un) f_ixA (e_var c 0 (pv 0)) (e_int c) (fun _ _ => rfl)) (e_int c)) (e_var c 1 (pv 1))))))))
theorem d__law_of (F : FunAt K mg "_law_of" s__law_of) (h_len : mg "len" = none) (d__law_draw : Def P w K mg base (xmK K) "_law_draw" 1 2 (m__law_draw)) : Def P w K mg base (xmK K) "_law_of" 2 2 m__law_of := by
  refine def_ok (k := 1) F sc__law_of rfl rfl (fun _ _ _ _ _ _ us hl => match us, hl with | [_, _], _ => rfl) fun f cdv A outer s H N E hK hn en hr c hp => ?_
  unfold b__law_of
  exact s_one (s_ret en (e_ix c (ix_B c.un) f_ixA (e_var c 1 (pv 1)) (e_def c d__law_draw hr rfl (d_cons (e_var c 0 (pv 0)) (d_cons (e_callB c cr_lenA f_lenA rfl h_len bo_len (p_cons (e_var c 1 (pv 1)) p_nil)) d_nil)) (hk := by omega)) (fun _ _ => rfl)))
theorem d__law_same (F : FunAt K mg "_law_same" s__law_same) (h_all : mg "all" = none) (h_bool : mg "bool" = none) (h_int : mg "int" = none) (h_isinstance : mg "isinstance" = none) (h_len : mg "len" = none) (h_list : mg "list" = none) (h_range : mg "range" = none) (h_str : mg "str" = none) (h_tuple : mg "tuple" = none) : ∀ n : Nat, Def P w K mg base (xmK K) "_law_same" (0 + n) 2 (m__law_same n)
  | 0 => def_none F (ps := ["_law_found", "_law_due"]) rfl (fun _ _ _ _ _ _ us hl => match us, hl with | [_, _], _ => rfl)
  | n + 1 => by
    have d__law_same := d__law_same F h_all h_bool h_int h_isinstance h_len h_list h_range h_str h_tuple n
    refine def_ok (k := 0 + n) F sc__law_same rfl rfl (fun _ _ _ _ _ _ us hl => match us, hl with | [_, _], _ => rfl) fun f cdv A outer s H N E hK hn en hr c hp => ?_
    unfold b__law_same
    exact s_cons (s_if (t_cmp c op_isN f_isN (e_var c 1 (pv 1)) (e_non c) rfl) (s_one (s_ret en (e_cmp c op_isN f_isN (e_var c 0 (pv 0)) (e_non c) rfl))) (s_nil))
        (s_cons (s_if (PW.pt (w_or (t_val (e_callB c cr_isi f_isi rfl h_isinstance bo_isinstance (p_cons (e_var c 1 (pv 1)) (p_cons (e_ty c rfl h_bool bo_bool) p_nil)))) (w_or1 (t_val (e_callB c cr_isi f_isi rfl h_isinstance bo_isinstance (p_cons (e_var c 0 (pv 0)) (p_cons (e_ty c rfl h_bool bo_bool) p_nil))))))) (s_one (s_ret en (v_and (e_callB c cr_isi f_isi rfl h_isinstance bo_isinstance (p_cons (e_var c 1 (pv 1)) (p_cons (e_ty c rfl h_bool bo_bool) p_nil))) (v_and (e_callB c cr_isi f_isi rfl h_isinstance bo_isinstance (p_cons (e_var c 0 (pv 0)) (p_cons (e_ty c rfl h_bool bo_bool) p_nil))) (v_one (e_cmp c (op_eqD (by have := c.un; omega)) f_eq (e_var c 0 (pv 0)) (e_var c 1 (pv 1)) rfl)))))) (s_nil))
        (s_cons (s_if (t_val (e_callB c cr_isi f_isi rfl h_isinstance bo_isinstance (p_cons (e_var c 1 (pv 1)) (p_cons (e_tup c (d_cons (e_ty c rfl h_int bo_int) (d_cons (e_ty c rfl h_str bo_str) d_nil))) p_nil)))) (s_one (s_ret en (v_and (e_callB c cr_isi f_isi rfl h_isinstance bo_isinstance (p_cons (e_var c 0 (pv 0)) (p_cons (e_tup c (d_cons (e_ty c rfl h_int bo_int) (d_cons (e_ty c rfl h_str bo_str) d_nil))) p_nil))) (v_and (e_cmp c (op_eqD (by have := c.un; omega)) f_eq (e_callB c cr_isi f_isi rfl h_isinstance bo_isinstance (p_cons (e_var c 0 (pv 0)) (p_cons (e_ty c rfl h_int bo_int) p_nil))) (e_callB c cr_isi f_isi rfl h_isinstance bo_isinstance (p_cons (e_var c 1 (pv 1)) (p_cons (e_ty c rfl h_int bo_int) p_nil))) rfl) (v_one (e_cmp c (op_eqD (by have := c.un; omega)) f_eq (e_var c 0 (pv 0)) (e_var c 1 (pv 1)) rfl)))))) (s_nil))
        (s_cons (s_if (PW.pt (w_or (t_cmp c (op_neD (by have := c.un; omega)) f_ne (e_callB c cr_isi f_isi rfl h_isinstance bo_isinstance (p_cons (e_var c 1 (pv 1)) (p_cons (e_ty c rfl h_list bo_list) p_nil))) (e_callB c cr_isi f_isi rfl h_isinstance bo_isinstance (p_cons (e_var c 0 (pv 0)) (p_cons (e_ty c rfl h_list bo_list) p_nil))) rfl) (w_or1 (t_cmp c (op_neD (by have := c.un; omega)) f_ne (e_callB c cr_isi f_isi rfl h_isinstance bo_isinstance (p_cons (e_var c 1 (pv 1)) (p_cons (e_ty c rfl h_tuple bo_tuple) p_nil))) (e_callB c cr_isi f_isi rfl h_isinstance bo_isinstance (p_cons (e_var c 0 (pv 0)) (p_cons (e_ty c rfl h_tuple bo_tuple) p_nil))) rfl)))) (s_one (s_ret en (e_bl c))) (s_nil))
        (s_cons (s_if (PW.pt (w_or (t_not (t_val (e_callB c cr_isi f_isi rfl h_isinstance bo_isinstance (p_cons (e_var c 0 (pv 0)) (p_cons (e_tup c (d_cons (e_ty c rfl h_list bo_list) (d_cons (e_ty c rfl h_tuple bo_tuple) d_nil))) p_nil))))) (w_or1 (t_cmp c (op_neD (by have := c.un; omega)) f_ne (e_callB c cr_lenA f_lenA rfl h_len bo_len (p_cons (e_var c 0 (pv 0)) p_nil)) (e_callB c cr_lenA f_lenA rfl h_len bo_len (p_cons (e_var c 1 (pv 1)) p_nil)) rfl)))) (s_one (s_ret en (e_bl c))) (s_nil))
        (s_one (s_ret en (e_callB c (cr_all c.calm) f_all rfl h_all bo_all (p_cons (e_comp (own := [("_law_spot", 2)]) c (i_range1 c rfl h_range (d_cons (e_callB c cr_lenA f_lenA rfl h_len bo_len (p_cons (e_var c 1 (pv 1)) p_nil)) d_nil)) (blkOk_by (own := [("_law_spot", 2)]) (N := N__law_same) (sc := (defScope s__law_same)) (by decide +kernel)) (fun s H C cl fp => pg_name (i := 2) (by exact c.nd) rfl (by first | exact Or.inl rfl | exact Or.inr rfl)) (fun N hn2 hK2 => tg_name (by omega)) (by decide) (fun s H C cl fp => fun N hn2 c => ts_nil) (fun s H C cl fp => fun N hn2 c => e_def c d__law_same hr rfl (d_cons (e_ix c (ix_B c.un) f_ixA (e_var c 0 (pv 0)) (e_var c 2 (pv 2)) (fun _ _ => rfl)) (d_cons (e_ix c (ix_B c.un) f_ixA (e_var c 1 (pv 1)) (e_var c 2 (pv 2)) (fun _ _ => rfl)) d_nil)) (hk := by omega))) p_nil))))))))
theorem d__law_chain (F : FunAt K mg "_law_chain" s__law_chain) (h_range : mg "range" = none) : Def P w K mg base (xmK K) "_law_chain" 1 2 m__law_chain := by
  refine def_ok (k := 0) F sc__law_chain rfl rfl (fun _ _ _ _ _ _ us hl => match us, hl with | [_, _], _ => rfl) fun f cdv A outer s H N E hK hn en hr c hp => ?_
  unfold b__law_chain
  exact s_cons (s_set (i := 2) c rfl (by first | exact Or.inl rfl | exact Or.inr rfl) (e_bin c op_addAll f_add (e_comp (own := [("_law_spot", 3)]) c (i_range1 c rfl h_range (d_cons (e_bin c op_sub f_sub (e_var c 0 (pv 0)) (e_int c)) d_nil)) (blkOk_by (own := [("_law_spot", 3)]) (N := N__law_chain) (sc := (defScope s__law_chain)) (by decide +kernel)) (fun s H C cl fp => pg_name (i := 3) (by exact c.nd) rfl (by first | exact Or.inl rfl | exact Or.inr rfl)) (fun N hn2 hK2 => tg_name (by omega)) (by decide) (fun s H C cl fp => fun N hn2 c => ts_nil) (fun s H C cl fp => fun N hn2 c => e_tup c (d_cons (e_bin c op_addAll f_add (e_var c 3 (pv 3)) (e_int c)) d_nil))) (e_lst c (d_cons (e_tup c (d_nil)) d_nil))) (by omega))
        (s_cons (s_if (t_val (e_var c 1 (pv 1))) (s_cons (s_put c (e_var c 2 (pv 2)) (e_neg (e_int c)) (e_tup c (d_cons (e_int c) (d_cons (e_var c 0 (pv 0)) d_nil))) (set_B c.un) s_setA)
        (s_one (s_expr (e_mut c PySem.F.plainAttrs_list PySem.F.slot_list_append PySem.F.type_list_append mt_append m_append (e_var c 2 (pv 2)) (d_cons (e_tup c (d_nil)) d_nil))))) (s_nil))
        (s_one (s_ret en (e_var c 2 (pv 2)))))
theorem d_law {f : Addr} {fd : FuncData} {T : Addr} (F : FunD K "law" "law" (defArgs s_law) (defBody s_law) (defScope s_law) [] [] f fd) (hf : f = He.fAd K lawT) (tb : LamX.TabB base mg (He.cT K lawT).1 T) (h_len : mg "len" = none) (h_range : mg "range" = none) (h_tuple : mg "tuple" = none) (k_MOST_ROWS : Dat K mg "MOST_ROWS" v_MOST_ROWS) (d__law_chain : Def P w K mg base (xmK K) "_law_chain" 1 2 (m__law_chain)) (d__law_draw : Def P w K mg base (xmK K) "_law_draw" 1 2 (m__law_draw)) (d__law_jar : Def P w K mg base (xmK K) "_law_jar" 1 1 (m__law_jar)) (d__law_of : Def P w K mg base (xmK K) "_law_of" 2 2 (m__law_of)) (d__law_same : Def P w K mg base (xmK K) "_law_same" 40 2 (m__law_same 40)) (d_picture : DefK P w K mg base (xmK K) "picture" 5 1 ["at"] [.int 0] (m_picture)) (wd_why : WhyDef K mg "_law_why" "_law_act" (TTwhy K exT)) : FnOk P w K mg base (L2.CX P w) 41 f fd ["_law_script"] (spF K (xmK K) 1 (m_law T)) := by
  refine fnD_okT (k := 40) F hf sc_law rfl rfl fun f A outer s H N E hK hn en hr c hp => ?_
  unfold b_law
  exact s_cons (s_share (i := 1) c rfl (by first | exact Or.inl rfl | exact Or.inr rfl) (e_def c d__law_jar hr rfl (d_cons (e_var c 0 (pv 0)) d_nil) (hk := by omega)) (by omega))
        (s_cons (s_for c hp (i_range1 c rfl h_range (d_cons (e_int c) d_nil)) (pg_name (i := 2) c.nd rfl (by first | exact Or.inl rfl | exact Or.inr rfl)) (tg_name (by omega)) (s_cons (s_set (i := 3) c rfl (by first | exact Or.inl rfl | exact Or.inr rfl) (e_def c d__law_of hr rfl (d_cons (e_var c 1 (pv 1)) (d_cons (e_lst c (d_cons (e_int c) (d_cons (e_int c) (d_cons (e_int c) (d_cons (e_int c) (d_cons (e_bin c op_addAll f_add (e_int c) (e_def c d__law_draw hr rfl (d_cons (e_var c 1 (pv 1)) (d_cons (e_int c) d_nil)) (hk := by omega))) d_nil)))))) d_nil)) (hk := by omega)) (by omega))
        (s_cons (s_set (i := 4) c rfl (by first | exact Or.inl rfl | exact Or.inr rfl) (e_def c d__law_chain hr rfl (d_cons (e_var c 3 (pv 3)) (d_cons (e_cmp c (op_eqD (by have := c.un; omega)) f_eq (e_def c d__law_draw hr rfl (d_cons (e_var c 1 (pv 1)) (d_cons (e_int c) d_nil)) (hk := by omega)) (e_int c) rfl) d_nil)) (hk := by omega)) (by omega))
        (s_cons (s_set (i := 5) c rfl (by first | exact Or.inl rfl | exact Or.inr rfl) (e_callB c cr_lenA f_lenA rfl h_len bo_len (p_cons (e_var c 4 (pv 4)) p_nil)) (by omega))
        (s_cons (s_set (i := 4) c rfl (by first | exact Or.inl rfl | exact Or.inr rfl) (e_bin c op_addAll f_add (e_fz (e_var c 4 (pv 4))) (e_comp (own := [("_law_row", 7)]) c (i_any c (e_var c 4 (pv 4))) (blkOk_by (own := [("_law_row", 7)]) (N := N_law) (sc := (defScope s_law)) (by decide +kernel)) (fun s H C cl fp => pg_name (i := 7) (by exact c.nd) rfl (by first | exact Or.inl rfl | exact Or.inr rfl)) (fun N hn2 hK2 => tg_name (by omega)) (by decide) (fun s H C cl fp => fun N hn2 c => ts_nil) (fun s H C cl fp => fun N hn2 c => e_bin c op_addAll f_add (e_callTy c call_tuple_of f_tuple rfl h_tuple bo_tuple (p_cons (e_comp (own := [("_law_one", 6)]) c (i_any c (e_var c 7 (pv 7))) (blkOk_by (own := [("_law_one", 6)]) (N := N_law) (sc := (relS _ (defScope s_law))) (by decide +kernel)) (fun s H C cl fp => pg_name (i := 6) (by exact c.nd) rfl (by first | exact Or.inl rfl | exact Or.inr rfl)) (fun N hn2 hK2 => tg_name (by omega)) (by decide) (fun s H C cl fp => fun N hn2 c => ts_nil) (fun s H C cl fp => fun N hn2 c => e_bin c op_addAll f_add (e_var c 6 (pv 6)) (e_var c 5 (pv 5)))) p_nil)) (e_slice c (e_var c 7 (pv 7)) (o_none) (o_some (e_def c d__law_draw hr rfl (d_cons (e_var c 1 (pv 1)) (d_cons (e_int c) d_nil)) (hk := by omega))))))) (by omega))
        (s_cons (s_set (i := 8) c rfl (by first | exact Or.inl rfl | exact Or.inr rfl) (e_def c d__law_of hr rfl (d_cons (e_var c 1 (pv 1)) (d_cons (e_lst c (d_cons (e_int c) (d_cons (e_var c 5 (pv 5)) d_nil))) d_nil)) (hk := by omega)) (by omega))
        (s_cons (s_set (i := 9) c rfl (by first | exact Or.inl rfl | exact Or.inr rfl) (e_lam (k := 5) c wd_why rfl tb rfl (fun σ H Q h => why_ok c (fun _ _ => rfl) h) hr (LamX.lamS_by (show LamX.lamSB (defScope s_law) _ = true by decide +kernel)) (fun A outer s H E f c2 hr c => e_defK (ms := [mVar 4]) (kms := [mVar 8]) c d_picture hr rfl (d_cons (e_var c 4 (pv 4)) d_nil) (dk_cons (e_var c 8 (pv 8)) dk_nil) (hk := by omega))) (by omega))
        (s_cons (s_if (t_cmp c (op_neD (by have := c.un; omega)) f_ne (e_var c 9 (pv 9)) (e_if (t_cmp c op_le f_le (e_var c 5 (pv 5)) (e_int c) rfl) (e_tup c (d_cons (e_str c) (d_cons (e_non c) d_nil))) (e_tup c (d_cons (e_str c) (d_cons (e_var c 5 (pv 5)) d_nil)))) rfl) (s_one (s_ret en (e_bl c))) (s_nil))
        (s_cons (s_if (PW.pt (w_and (t_cmp c op_le f_le (e_var c 5 (pv 5)) (e_int c) rfl) (w_and1 (t_cmp c (op_neD (by have := c.un; omega)) f_ne (e_callB c cr_lenA f_lenA rfl h_len bo_len (p_cons (e_ix c (ix_B c.un) f_ixA (e_defK (ms := [mVar 4]) (kms := [mVar 8]) c d_picture hr rfl (d_cons (e_var c 4 (pv 4)) d_nil) (dk_cons (e_var c 8 (pv 8)) dk_nil) (hk := by omega)) (e_int c) (fun _ _ => rfl)) p_nil)) (e_var c 5 (pv 5)) rfl)))) (s_one (s_ret en (e_bl c))) (s_nil))
        (s_one (s_if (t_cmp c (op_neD (by have := c.un; omega)) f_ne (e_defK (ms := [mBin fAdd (mVar 4) (mLst [mTup [mAps fLenA [mVar 4]]])]) (kms := [mAps fLenA [mVar 4]]) c d_picture hr rfl (d_cons (e_bin c op_addAll f_add (e_var c 4 (pv 4)) (e_lst c (d_cons (e_tup c (d_cons (e_callB c cr_lenA f_lenA rfl h_len bo_len (p_cons (e_var c 4 (pv 4)) p_nil)) d_nil)) d_nil))) d_nil) (dk_cons (e_callB c cr_lenA f_lenA rfl h_len bo_len (p_cons (e_var c 4 (pv 4)) p_nil)) dk_nil) (hk := by omega)) (e_tup c (d_cons (e_int c) (d_cons (e_tup c (d_cons (e_tup c (d_cons (e_int c) d_nil)) d_nil)) d_nil))) rfl) (s_one (s_ret en (e_bl c))) (s_nil))))))))))))
        (s_one (s_ret en (v_and (e_cmp c (op_eqD (by have := c.un; omega)) f_eq (e_dat c rfl k_MOST_ROWS) (e_int c) rfl) (v_one (e_def c d__law_same hr rfl (d_cons (e_callB c cr_lenA f_lenA rfl h_len bo_len (p_cons (e_ix c (ix_B c.un) f_ixA (e_defD c d_picture hr rfl (d_cons (e_def c d__law_chain hr rfl (d_cons (e_int c) (d_cons (e_bl c) d_nil)) (hk := by omega)) d_nil) (hk := by omega)) (e_int c) (fun _ _ => rfl)) p_nil)) (d_cons (e_int c) d_nil)) (hk := by omega)))))))
end
/-! ### behind the run -/
abbrev FL : (Str → Addr) → Addr → FM := fun _ P => m_law P
theorem facts {P : Program} {w : World} {K : PySem.W.Frag} {h : Heap} {mg : Str → Option Value} {a : Addr} (X : K.In h) (G : h.Ns mainGlobals mg) (c : He.SaysD fa fn K) (x : ex K = true) (ha : mg "law" = some (.ref a)) : LawDefT P w K mg (xmK K) 41 (FL (adOf mg) (He.cT K lawT).2) "_law_script" a := by
  simp only [ex, Bool.and_eq_true] at x
  obtain ⟨⟨⟨⟨⟨⟨⟨⟨⟨x_MOST_ROWS, x_MOST_WEB⟩, y_0⟩, y_1⟩, y_2⟩, y_3⟩, y_4⟩, y_5⟩, y_6⟩, y_7⟩ := x
  have k_MOST_ROWS : Dat K mg "MOST_ROWS" v_MOST_ROWS := dat_ok X G x_MOST_ROWS
  have k_MOST_WEB : Dat K mg "MOST_WEB" v_MOST_WEB := dat_ok X G x_MOST_WEB
  have h_ValueError : mg "ValueError" = none := He.free_ok X G (c.fact 16 (f := .free "ValueError") rfl)
  have h_all : mg "all" = none := He.free_ok X G (c.fact 17 (f := .free "all") rfl)
  have h_bool : mg "bool" = none := He.free_ok X G (c.fact 18 (f := .free "bool") rfl)
  have h_enumerate : mg "enumerate" = none := He.free_ok X G (c.fact 19 (f := .free "enumerate") rfl)
  have h_int : mg "int" = none := He.free_ok X G (c.fact 20 (f := .free "int") rfl)
  have h_isinstance : mg "isinstance" = none := He.free_ok X G (c.fact 21 (f := .free "isinstance") rfl)
  have h_len : mg "len" = none := He.free_ok X G (c.fact 22 (f := .free "len") rfl)
  have h_list : mg "list" = none := He.free_ok X G (c.fact 23 (f := .free "list") rfl)
  have h_max : mg "max" = none := He.free_ok X G (c.fact 24 (f := .free "max") rfl)
  have h_range : mg "range" = none := He.free_ok X G (c.fact 25 (f := .free "range") rfl)
  have h_set : mg "set" = none := He.free_ok X G (c.fact 26 (f := .free "set") rfl)
  have h_sorted : mg "sorted" = none := He.free_ok X G (c.fact 27 (f := .free "sorted") rfl)
  have h_str : mg "str" = none := He.free_ok X G (c.fact 28 (f := .free "str") rfl)
  have h_tuple : mg "tuple" = none := He.free_ok X G (c.fact 29 (f := .free "tuple") rfl)
  have F_is_whole : FunAt K mg "is_whole" s_is_whole := funAt X G c "is_whole" s_is_whole 0 0 rfl rfl
  have F_is_row : FunAt K mg "is_row" s_is_row := funAt X G c "is_row" s_is_row 1 1 rfl rfl
  have F_is_web : FunAt K mg "is_web" s_is_web := funAt X G c "is_web" s_is_web 2 2 rfl rfl
  have F_next_round : FunAt K mg "next_round" s_next_round := funAt X G c "next_round" s_next_round 3 3 rfl rfl
  have F_last_round : FunAt K mg "last_round" s_last_round := funAt X G c "last_round" s_last_round 4 4 rfl rfl
  have F_come_to : FunAt K mg "come_to" s_come_to := funAt X G c "come_to" s_come_to 5 5 rfl rfl
  have F_pictured : FunAt K mg "pictured" s_pictured := funAt X G c "pictured" s_pictured 6 6 rfl rfl
  have F_need_web : FunAt K mg "need_web" s_need_web := funAt X G c "need_web" s_need_web 7 7 rfl rfl
  have F_need_row : FunAt K mg "need_row" s_need_row := funAt X G c "need_row" s_need_row 8 8 rfl rfl
  have F_picture : FunAtK K mg "picture" s_picture [("at", .int 0)] := funAtK X G c "picture" s_picture [("at", .int 0)] [("at", .int 0)] 9 9 rfl rfl rfl
  have F__law_jar : FunAt K mg "_law_jar" s__law_jar := funAt X G c "_law_jar" s__law_jar 10 10 rfl rfl
  have F__law_draw : FunAt K mg "_law_draw" s__law_draw := funAt X G c "_law_draw" s__law_draw 11 11 rfl rfl
  have F__law_of : FunAt K mg "_law_of" s__law_of := funAt X G c "_law_of" s__law_of 12 12 rfl rfl
  have F__law_same : FunAt K mg "_law_same" s__law_same := funAt X G c "_law_same" s__law_same 13 13 rfl rfl
  have F__law_chain : FunAt K mg "_law_chain" s__law_chain := funAt X G c "_law_chain" s__law_chain 14 14 rfl rfl
  have F_law : FunAt K mg "law" s_law := funAt X G c "law" s_law 15 15 rfl rfl
  have vV := vVB_ok y_0
  have cI := clsIB_ok y_1
  have ec_BadNumber := excB_ok y_2
  have mx_BadNumber := ec_BadNumber.mg X G
  have ec_BadWeb := excB_ok y_3
  have mx_BadWeb := ec_BadWeb.mg X G
  have ec_TooBig := excB_ok y_4
  have mx_TooBig := ec_TooBig.mg X G
  have hve := h_ValueError
  have mg_HoldError : mg "HoldError" = some (.ref (He.ga K "HoldError")) := He.glo_ok X G (c.fact 32 (f := .glo "HoldError") rfl)
  have mg_NoName : mg "NoName" = some (.ref (He.ga K "NoName")) := He.glo_ok X G (c.fact 33 (f := .glo "NoName") rfl)
  have mg_NothingLeft : mg "NothingLeft" = some (.ref (He.ga K "NothingLeft")) := He.glo_ok X G (c.fact 34 (f := .glo "NothingLeft") rfl)
  have mg_TooBig : mg "TooBig" = some (.ref (He.ga K "TooBig")) := He.glo_ok X G (c.fact 35 (f := .glo "TooBig") rfl)
  have mg_TooMany : mg "TooMany" = some (.ref (He.ga K "TooMany")) := He.glo_ok X G (c.fact 36 (f := .glo "TooMany") rfl)
  have mg_Unread : mg "Unread" = some (.ref (He.ga K "Unread")) := He.glo_ok X G (c.fact 37 (f := .glo "Unread") rfl)
  have mg_BadLine : mg "BadLine" = some (.ref (He.ga K "BadLine")) := He.glo_ok X G (c.fact 38 (f := .glo "BadLine") rfl)
  have mg_Tangled : mg "Tangled" = some (.ref (He.ga K "Tangled")) := He.glo_ok X G (c.fact 39 (f := .glo "Tangled") rfl)
  have mg_Loose : mg "Loose" = some (.ref (He.ga K "Loose")) := He.glo_ok X G (c.fact 40 (f := .glo "Loose") rfl)
  have mx_HoldError := mg_HoldError
  obtain ⟨fdi_HoldError, FI_HoldError⟩ := c.def_ 16 (d := dmt "HoldError" "__init__" "HoldError.__init__" si_HoldError) rfl
  obtain ⟨fdi_BadNumber, FI_BadNumber⟩ := c.def_ 17 (d := dmt "BadNumber" "__init__" "BadNumber.__init__" si_BadNumber) rfl
  obtain ⟨fdi_BadWeb, FI_BadWeb⟩ := c.def_ 18 (d := dmt "BadWeb" "__init__" "BadWeb.__init__" si_BadWeb) rfl
  obtain ⟨fdi_TooBig, FI_TooBig⟩ := c.def_ 19 (d := dmt "TooBig" "__init__" "TooBig.__init__" si_TooBig) rfl
  obtain ⟨fL0, FL0⟩ := c.def_ 20 (d := dfn "_law_field" s__law_field) rfl
  have ml0 : mg "_law_field" = some (.ref (He.ga K "_law_field")) := He.glo_ok X G (c.fact 30 (f := .glo "_law_field") rfl)
  obtain ⟨fL1, FL1⟩ := c.def_ 21 (d := dfn "_law_why" s__law_why) rfl
  have ml1 : mg "_law_why" = some (.ref (He.ga K "_law_why")) := He.glo_ok X G (c.fact 31 (f := .glo "_law_why") rfl)
  have FF := fldD_ok ml0 FL0 h_isinstance mg_TooBig mg_TooMany mg_Unread mg_BadLine mg_Tangled mg_Loose
  have hT : ∀ c ∈ exT, WhyC K c := by
    intro c hc
    simp only [exT, List.mem_cons, List.not_mem_nil, or_false] at hc
    rcases hc with rfl | rfl | rfl
    · exact whyB_ok y_5
    · exact whyB_ok y_6
    · exact whyB_ok y_7
  have wd_why := why_def ml1 FL1 FF hT mg_HoldError mg_NoName mg_NothingLeft
  obtain ⟨f, fd, hm, F_law⟩ := F_law
  cases hm.symm.trans ha
  refine ⟨fd, fun s u => FunD.bindsA (ps := ["_law_script"]) F_law (fun _ _ _ _ _ _ us hl => match us, hl with | [_], _ => rfl) s [u] rfl, fun base tb => ?_⟩
  have hf : a = He.fAd K lawT := by have z := He.glo_ok X G (c.fact 15 (f := .glo "law") rfl); rw [ha] at z; exact Value.ref.inj (Option.some.inj z)
  have dx_BadNumber : ExcD P w K mg base (xmK K) "BadNumber" [] 2 := dx_BadNumber ec_BadNumber mx_BadNumber mx_HoldError cI hve vV FI_HoldError FI_BadNumber
  have dx_BadWeb : ExcD P w K mg base (xmK K) "BadWeb" [] 2 := dx_BadWeb ec_BadWeb mx_BadWeb mx_HoldError cI hve vV FI_HoldError FI_BadWeb
  have dx_TooBig : ExcD P w K mg base (xmK K) "TooBig" ["rows"] 2 := dx_TooBig ec_TooBig mx_TooBig mx_HoldError cI hve vV FI_HoldError FI_TooBig
  have d_is_whole : Def P w K mg base (xmK K) "is_whole" 1 1 m_is_whole := d_is_whole F_is_whole h_bool h_int h_isinstance
  have d_is_row : Def P w K mg base (xmK K) "is_row" 2 2 m_is_row := d_is_row F_is_row h_all h_isinstance h_tuple d_is_whole
  have d_is_web : Def P w K mg base (xmK K) "is_web" 3 1 m_is_web := d_is_web F_is_web h_all h_isinstance h_len h_list h_tuple k_MOST_WEB d_is_row
  have d_next_round : Def P w K mg base (xmK K) "next_round" 1 2 m_next_round := d_next_round F_next_round h_enumerate h_set h_sorted h_tuple
  have d_last_round : Def P w K mg base (xmK K) "last_round" 2 1 m_last_round := d_last_round F_last_round h_len d_next_round
  have d_come_to : Def P w K mg base (xmK K) "come_to" 1 2 m_come_to := d_come_to F_come_to h_sorted
  have d_pictured : Def P w K mg base (xmK K) "pictured" 4 2 m_pictured := d_pictured F_pictured h_enumerate h_max h_sorted h_tuple k_MOST_ROWS d_come_to d_last_round dx_TooBig
  have d_need_web : Def P w K mg base (xmK K) "need_web" 4 1 m_need_web := d_need_web F_need_web d_is_web dx_BadWeb
  have d_need_row : Def P w K mg base (xmK K) "need_row" 4 2 m_need_row := d_need_row F_need_row h_len d_is_whole dx_BadNumber
  have d_picture : DefK P w K mg base (xmK K) "picture" 5 1 ["at"] [.int 0] m_picture := d_picture F_picture d_need_row d_need_web d_pictured
  have d__law_jar : Def P w K mg base (xmK K) "_law_jar" 1 1 m__law_jar := d__law_jar F__law_jar h_len h_list
  have d__law_draw : Def P w K mg base (xmK K) "_law_draw" 1 2 m__law_draw := d__law_draw F__law_draw h_len
  have d__law_of : Def P w K mg base (xmK K) "_law_of" 2 2 m__law_of := d__law_of F__law_of h_len d__law_draw
  have d__law_same : Def P w K mg base (xmK K) "_law_same" 40 2 (m__law_same 40) := d__law_same F__law_same h_all h_bool h_int h_isinstance h_len h_list h_range h_str h_tuple 40
  have d__law_chain : Def P w K mg base (xmK K) "_law_chain" 1 2 m__law_chain := d__law_chain F__law_chain h_range
  exact d_law F_law hf tb h_len h_range h_tuple k_MOST_ROWS d__law_chain d__law_draw d__law_jar d__law_of d__law_same d_picture wd_why
/-- the row, from the plain law -/
theorem row_of (law : ∀ (P : Addr) (ns : List Int), ns.length ≤ 63 → ∃ S, m_law P [.scr ns] [.tab P qLam] = .ok (.d (.bl true)) S) : PySem.Challenge.rw_selfhold_k06_sizes_of_webs_and_sets.Holds := by
  open PySem PySem.W PySem.Calls PyProof.Rows in
  w_on; o_law
  refine HandSHeadRun.head_any (r := Ro) (q := PySem.W.view Ro.prog [33]) (H := hk) (ob := ob) (M := 7000) (loose := loo) (d := HandSHeadRun.topDef Ro.prog 33) (kwd := []) ob_eq
    (by kernel_rfl) (fun s => by kernel_rfl) run (by kernel_rfl) (by kernel_rfl) (by kernel_rfl) (by rfl) (by first | assumption | decide +kernel) (by decide +kernel) ⟨rfl, rfl, rfl, rfl, rfl, by decide +kernel⟩ ?hw ?hc
  case hw => w_witness2
  case hc => exact walk_lawY (l := PySem.Challenge.rw_selfhold_k06_sizes_of_webs_and_sets) (n := 63) (k := 41) (x := "_law_script") (Ap := fun _ => True) (F := FL) rfl (by decide) (by kernel_rfl) ⟨rfl, by decide, by decide⟩ (by kernel_rfl) (fun w K mg h a X G c x ha => ⟨True.intro, xmK K, facts X G c x ha⟩) (fun _ _ => law)
end K06

set_option Elab.async false
set_option linter.all false
set_option maxRecDepth 100000
set_option maxHeartbeats 2000000
/-! chains and rings with a door: all their rows are unlike -/
namespace Wt
open List
/-- n rows, each before the next; ringed: the last goes back to the first, and to one row more -/
def chn (n : Nat) (b : Bool) : Web := (range (n - 1)).map (fun x => [x + 1]) ++ (if b = true then [[0, n], []] else [[]])
def chl (n : Nat) (b : Bool) : Nat := if b = true then n + 1 else n
section
variable {n : Nat} {b : Bool}
theorem chn_len (h : 1 ≤ n) : (chn n b).length = chl n b := by
  cases b <;> simp [chn, chl] <;> omega
theorem chn_lo {i : Nat} (h : i < n - 1) : row (chn n b) i = [i + 1] := by
  rw [row_get (by rw [chn_len (by omega)]; unfold chl; split <;> omega)]
  unfold chn
  rw [getElem_append_left (by simpa using h)]
  simp
theorem chn_at {i : Nat} (k : Nat) (e : i = n - 1 + k) (h : 1 ≤ n) (hk : k < (if b = true then [[0, n], []] else [[]] : List (List Nat)).length) : row (chn n b) i = (if b = true then [[0, n], []] else [[]] : List (List Nat))[k] := by
  subst e
  rw [row_get (by rw [chn_len h]; unfold chl; cases b <;> simp at hk ⊢ <;> omega)]
  unfold chn
  rw [getElem_append_right (by simp)]
  simp
theorem chn_last0 (h : 1 ≤ n) : row (chn n false) (n - 1) = [] := chn_at (b := false) 0 rfl h (by simp)
theorem chn_last1 (h : 1 ≤ n) : row (chn n true) (n - 1) = [0, n] := chn_at (b := true) 0 rfl h (by simp)
theorem chn_door (h : 1 ≤ n) : row (chn n true) n = [] := chn_at (b := true) 1 (by omega) h (by simp)
theorem chn_row (h : 1 ≤ n) {i : Nat} : ∀ x ∈ row (chn n b) i, x < chl n b := fun x hx => by
  by_cases c : i < n - 1
  · rw [chn_lo c, mem_singleton] at hx
    unfold chl
    split <;> omega
  · cases b with
    | false =>
      by_cases e : i = n - 1
      · subst e
        rw [chn_last0 h] at hx
        cases hx
      · rw [row_out (by rw [chn_len h]; unfold chl; simp; omega)] at hx
        cases hx
    | true =>
      by_cases e : i = n - 1
      · subst e
        rw [chn_last1 h] at hx
        unfold chl
        simp at hx ⊢
        omega
      · by_cases e2 : i = n
        · subst e2
          rw [chn_door h] at hx
          cases hx
        · rw [row_out (by rw [chn_len h]; unfold chl; simp; omega)] at hx
          cases hx
theorem chn_two (h : 1 ≤ n) (i : Nat) : (row (chn n b) i).length ≤ 2 := by
  by_cases c : i < n - 1
  · rw [chn_lo c]; simp
  · cases b with
    | false =>
      by_cases e : i = n - 1
      · subst e; rw [chn_last0 h]; simp
      · rw [row_out (by rw [chn_len h]; unfold chl; simp; omega)]; simp
    | true =>
      by_cases e : i = n - 1
      · subst e; rw [chn_last1 h]; simp
      · by_cases e2 : i = n
        · subst e2; rw [chn_door h]; simp
        · rw [row_out (by rw [chn_len h]; unfold chl; simp; omega)]; simp
theorem chn_ok (h : 1 ≤ n) : Ok (chn n b) := fun r hr x hx => by
  obtain ⟨i, hi, rfl⟩ := getElem_of_mem hr
  rw [chn_len h]
  exact chn_row h (i := i) x (by rw [row_get hi]; exact hx)
theorem chn_reach (h : 1 ≤ n) : ∀ i, i < n → Reach (chn n b) 0 i
  | 0, _ => .base
  | i + 1, hi => .step (chn_reach h i (by omega)) (by rw [chn_lo (by omega)]; exact mem_singleton.mpr rfl)
theorem chn_lists (h : 1 ≤ n) : Lists (chn n b) 0 (range (chl n b)) where
  nd := nodup_range
  mem := fun x => by
    rw [mem_range]
    refine ⟨fun c => ?_, fun p => ?_⟩
    · by_cases c2 : x < n
      · exact chn_reach h x c2
      · cases b with
        | false => exact absurd (by simpa [chl] using c) c2
        | true =>
          have e : x = n := by simp [chl] at c; omega
          subst e
          exact .step (chn_reach h (x - 1) (by omega)) (by rw [chn_last1 h]; simp)
    · have := p.lt (chn_ok h) (by rw [chn_len h]; unfold chl; split <;> omega)
      rwa [chn_len h] at this
/-- rows that are unlike -/
theorem chn_inj0 (h : 1 ≤ n) : ∀ (k i j : Nat), i < j → j + k = n - 1 → fk (chn n false) i = fk (chn n false) j → False := fun k => by
  have B := bis_fk (chn_ok (b := false) h)
  have L : (chn n false).length = n := by rw [chn_len h]; rfl
  induction k with
  | zero =>
    intro i j ij e hk
    obtain ⟨y, hy, _⟩ := B.f i j ⟨by omega, by omega, hk⟩ (i + 1) (by rw [chn_lo (by omega)]; simp)
    rw [show j = n - 1 by omega, chn_last0 h] at hy
    cases hy
  | succ k ih =>
    intro i j ij e hk
    obtain ⟨y, hy, _, _, e2⟩ := B.f i j ⟨by omega, by omega, hk⟩ (i + 1) (by rw [chn_lo (by omega)]; simp)
    rw [chn_lo (by omega), mem_singleton] at hy
    subst hy
    exact ih (i + 1) (j + 1) (by omega) (by omega) e2
theorem chn_inj1 (h : 1 ≤ n) : ∀ (k i j : Nat), i < j → j + k = n - 1 → fk (chn n true) i = fk (chn n true) j → False := fun k => by
  have B := bis_fk (chn_ok (b := true) h)
  have L : (chn n true).length = n + 1 := by rw [chn_len h]; rfl
  induction k with
  | zero =>
    intro i j ij e hk
    obtain ⟨y, hy, _, _, e2⟩ := B.g i j ⟨by omega, by omega, hk⟩ n (by rw [show j = n - 1 by omega, chn_last1 h]; simp)
    rw [chn_lo (by omega), mem_singleton] at hy
    subst hy
    have ex : ∃ z, z ∈ row (chn n true) (i + 1) := by
      by_cases c : i + 1 < n - 1
      · exact ⟨_, by rw [chn_lo c]; exact mem_singleton.mpr rfl⟩
      · exact ⟨0, by rw [show i + 1 = n - 1 by omega, chn_last1 h]; simp⟩
    obtain ⟨z, hz⟩ := ex
    obtain ⟨u, hu, _⟩ := B.f (i + 1) n ⟨by omega, by omega, e2⟩ z hz
    rw [chn_door h] at hu
    cases hu
  | succ k ih =>
    intro i j ij e hk
    obtain ⟨y, hy, _, _, e2⟩ := B.f i j ⟨by omega, by omega, hk⟩ (i + 1) (by rw [chn_lo (by omega)]; simp)
    rw [chn_lo (by omega), mem_singleton] at hy
    subst hy
    exact ih (i + 1) (j + 1) (by omega) (by omega) e2
theorem chn_lt (h : 1 ≤ n) {i j : Nat} (ij : i < j) (hj : j < chl n b) : fk (chn n b) i ≠ fk (chn n b) j := fun e => by
  cases b with
  | false =>
    have hj : j < n := hj
    exact chn_inj0 h (n - 1 - j) i j ij (by omega) e
  | true =>
    have hj : j < n + 1 := hj
    by_cases c : j = n
    · subst c
      have B := bis_fk (chn_ok (b := true) h)
      have L : (chn j true).length = j + 1 := by rw [chn_len h]; rfl
      have ex : ∃ z, z ∈ row (chn j true) i := by
        by_cases c : i < j - 1
        · exact ⟨_, by rw [chn_lo c]; exact mem_singleton.mpr rfl⟩
        · exact ⟨0, by rw [show i = j - 1 by omega, chn_last1 h]; simp⟩
      obtain ⟨z, hz⟩ := ex
      obtain ⟨u, hu, _⟩ := B.f i j ⟨by omega, by omega, e⟩ z hz
      rw [chn_door h] at hu
      cases hu
    · exact chn_inj1 h (n - 1 - j) i j ij (by omega) e
theorem chn_inj (h : 1 ≤ n) {i j : Nat} (hi : i < chl n b) (hj : j < chl n b) (e : fk (chn n b) i = fk (chn n b) j) : i = j := by
  rcases Nat.lt_trichotomy i j with c | c | c
  · exact absurd e (chn_lt h c hj)
  · exact c
  · exact absurd e.symm (chn_lt h c hi)
end
/-- a web whose rows are all unlike has as many kinds as rows -/
theorem size_inj {w : Web} (h : ∀ i j, i < w.length → j < w.length → fk w i = fk w j → i = j) : size w = w.length := by
  refine Nat.le_antisymm (size_le w) ?_
  have nd : ((range w.length).map (fk w)).Nodup := by
    rw [nodup_iff_pairwise_ne, pairwise_map]
    refine (nodup_range (n := w.length)).imp_of_mem ?_
    intro a b ha hb ne e
    exact ne (h a b (mem_range.mp ha) (mem_range.mp hb) e)
  have := nd.length_le_of_subset (l₂ := range (size w)) fun x hx => by
    obtain ⟨a, ha, rfl⟩ := mem_map.mp hx
    exact mem_range.mpr (mem_fin.mp (fk_mem (mem_range.mp ha)))
  simpa using this
theorem sub_range {w : Web} (ok : Ok w) : sub w (range w.length) = w := by
  refine web_ext (by rw [sub_len, length_range]) fun i hi => ?_
  rw [sub_len, length_range] at hi
  have := row_sub (w := w) (L := range w.length) (a := i) (mem_range.mpr hi)
  rw [idxOf_range hi] at this
  rw [this]
  conv => rhs; rw [← map_id (row w i)]
  exact map_congr_left fun x hx => idxOf_range (ok.row hx)
theorem chn_pic {n : Nat} {b : Bool} (h : 1 ≤ n) : (pic (chn n b) 0).2.length = chl n b := by
  have L := chn_len (b := b) h
  have l0 : 0 < (chn n b).length := by rw [L]; unfold chl; split <;> omega
  have ls := chn_lists (b := b) h
  rw [← L] at ls
  rw [pic_lists (chn_ok h) l0 ls, sub_range (chn_ok h)]
  show (quo (chn n b)).length = _
  rw [quo_len, size_inj, L]
  intro i j hi hj e
  rw [L] at hi hj
  exact chn_inj h hi hj e
/-- a web and its likes -/
structure Dbl (w v : Web) : Prop where
  len : v.length = w.length
  row : ∀ i, i < w.length → ∃ k, row v i = (row w i).map (fun x => x + w.length) ++ (row w i).take k
theorem row_lo {w v : Web} {i : Nat} (h : i < w.length) : row (w ++ v) i = row w i := by
  rw [row_get (by rw [length_append]; omega), row_get h, getElem_append_left h]
theorem row_hi {w v : Web} {i : Nat} (h : i < v.length) : row (w ++ v) (w.length + i) = row v i := by
  rw [row_get (by rw [length_append]; omega), row_get h, getElem_append_right (by omega)]
  congr 1
  omega
theorem dbl_ok {w v : Web} (ok : Ok w) (d : Dbl w v) : Ok (w ++ v) := fun r hr x hx => by
  obtain ⟨i, hi, rfl⟩ := getElem_of_mem hr
  rw [← row_get hi] at hx
  rw [length_append, d.len] at hi ⊢
  by_cases c : i < w.length
  · rw [row_lo c] at hx
    have := ok.row hx
    omega
  · obtain ⟨k, e⟩ := d.row (i - w.length) (by omega)
    have : i = w.length + (i - w.length) := by omega
    rw [this, row_hi (by rw [d.len]; omega), e] at hx
    rcases mem_append.mp hx with z | z
    · obtain ⟨y, hy, rfl⟩ := mem_map.mp z
      have := ok.row hy
      omega
    · have := ok.row (mem_of_mem_take z)
      omega
theorem dbl_bis {w v : Web} (ok : Ok w) (d : Dbl w v) : Bis (w ++ v) w fun a b => b < w.length ∧ (a = b ∨ a = w.length + b) where
  l := fun a b h => by rw [length_append, d.len]; omega
  r := fun a b h => h.1
  f := fun a b ⟨hb, h⟩ x hx => by
    rcases h with rfl | rfl
    · rw [row_lo hb] at hx
      exact ⟨x, hx, ok.row hx, .inl rfl⟩
    · rw [row_hi (by rw [d.len]; exact hb)] at hx
      obtain ⟨k, e⟩ := d.row b hb
      rw [e] at hx
      rcases mem_append.mp hx with z | z
      · obtain ⟨y, hy, rfl⟩ := mem_map.mp z
        exact ⟨y, hy, ok.row hy, .inr (Nat.add_comm _ _)⟩
      · have z := mem_of_mem_take z
        exact ⟨x, z, ok.row z, .inl rfl⟩
  g := fun a b ⟨hb, h⟩ y hy => by
    rcases h with rfl | rfl
    · exact ⟨y, by rw [row_lo hb]; exact hy, ok.row hy, .inl rfl⟩
    · obtain ⟨k, e⟩ := d.row b hb
      refine ⟨y + w.length, ?_, ok.row hy, .inr (Nat.add_comm _ _)⟩
      rw [row_hi (by rw [d.len]; exact hb), e]
      exact mem_append_left _ (mem_map_of_mem (f := fun x => x + w.length) hy)
theorem dbl_pic {w v : Web} (ok : Ok w) (d : Dbl w v) {a : Nat} (h : 0 < w.length) (ha : a = 0 ∨ a = w.length) : pic (w ++ v) a = pic w 0 :=
  pic_bis (dbl_ok ok d) ok (dbl_bis ok d) ⟨h, ha.imp id fun e => by rw [e]; rfl⟩
theorem loop_ok {w : Web} (ok : Ok w) : Ok (w ++ [[w.length]]) := fun r hr x hx => by
  rw [length_append]
  rcases mem_append.mp hr with z | z
  · have := ok r z x hx
    omega
  · rw [mem_singleton] at z
    subst z
    rw [mem_singleton] at hx
    subst hx
    simp
theorem loop_bis {w : Web} : Bis (w ++ [[w.length]]) [[0]] fun a b => a = w.length ∧ b = 0 := by
  have e : row (w ++ [[w.length]]) w.length = [w.length] := row_hi (v := [[w.length]]) (i := 0) (by simp)
  refine ⟨fun a b h => by rw [h.1]; simp, fun a b h => by rw [h.2]; simp, ?_, ?_⟩
  · rintro a b ⟨rfl, rfl⟩ x hx
    rw [e, mem_singleton] at hx
    exact ⟨0, by simp [row], hx, rfl⟩
  · rintro a b ⟨rfl, rfl⟩ y hy
    refine ⟨w.length, by rw [e]; exact mem_singleton.mpr rfl, rfl, ?_⟩
    simpa [row] using hy
end Wt
namespace Lib
open PySem PySem.Spec PyProof.Rows L2 Mx NSet
theorem loop_pic {w : Wt.Web} (ok : Wt.Ok w) : Wt.pic (w ++ [[w.length]]) w.length = (0, [[0]]) := by
  have o1 : Wt.Ok [[0]] := fun r hr x hx => by
    rw [List.mem_singleton] at hr
    subst hr
    rw [List.mem_singleton] at hx
    subst hx
    simp
  rw [Wt.pic_bis (Wt.loop_ok ok) o1 Wt.loop_bis ⟨rfl, rfl⟩]
  exact pic1 o1 rfl (.inr rfl)
/-- a picture that is too great is refused -/
theorem picture_big {w : Wt.Web} {d : D} (h : IsWeb w d) {a : Nat} (ha : a < w.length) (h64 : 64 < (Wt.pic w a).2.length) (S : List C) : m_picture [d, nD a] S = .exc (tooBig (Wt.pic w a).2.length) S := by
  simp only [m_picture, fnM, b_picture, env0_2_2, XX, need_web_ok h, need_row_ok h ha, pictured_big h.toFit ha h64 h.is, x_ofexc]
theorem chn_fit {n : Nat} (h : 1 ≤ n) (hn : n ≤ 4000) (b : Bool) : Fit (Wt.chn n b) where
  ok := Wt.chn_ok h
  len := by rw [Wt.chn_len h]; unfold Wt.chl; split <;> omega
  row := fun a => by have := Wt.chn_two (b := b) h a; omega
end Lib

set_option Elab.async false
set_option linter.all false
set_option maxRecDepth 100000
set_option maxHeartbeats 2000000
namespace K06
open PySem PySem.Spec PyProof.Rows L2 Mx Lib NSet
theorem put_run {f : SF} {j : Nat} {mi me : ST RV} {g : Sg} {c c' : C} {k d : D} (he : me g = .ok (.d d) g) (hi : g.env[j]? = some (some (.own c))) (hk : mi g = .ok (.d k) g) (e : f c k d = some c') : sPut f (mVar j) mi me g = .nx { g with env := g.env.set j (some (.own c')) } := by
  have hv : mVar j g = .ok (.own j) g := by rw [x_var, hi]
  have hg : getC (.own j) g = some c := by rw [x_getO, hi]
  rw [x_put, he, R.to_ok, x_tod, R.to_ok, hv, R.to_ok, hk, R.to_ok, x_tod, R.to_ok, hg]
  simp only [e, x_putO]
/-- a list told thing by thing, where telling draws -/
theorem comp_st3 {α β : Type} {vs : List Nat} {t : TgM} {me : ST RV} {mi : ST (List D)} {g g0 : Sg} {l : List α} {e : α → D} (f : β → D) (P : α → β → Prop) (I : List C → Prop) (hi : mi g = .ok (l.map e) g0) (h0 : I g0.st) (hl : l.length ≤ sizeLine)
    (hs : ∀ a ∈ l, ∀ S, I S → oneC t mYes me (e a) ⟨wipeE g0.env vs, S⟩ fun o g' => wipeE g'.env vs = wipeE g0.env vs ∧ I g'.st ∧ ∃ b, o = some (f b) ∧ P a b) :
    ∃ (zs : List β) (S' : List C), mComp mi vs t mYes me g = .ok (.tmp (.lst (zs.map f))) ⟨backE g0.env (wipeE g0.env vs) vs, S'⟩ ∧ I S' ∧ zs.length = l.length ∧ ∀ (i : Nat) (a : α) (b : β), l[i]? = some a → zs[i]? = some b → P a b := by
  have h := mComp_inv (vs := vs) (t := t) (tt := mYes) (me := me) (fun xs acc S => I S ∧ ∃ (zs : List β), xs = (l.drop zs.length).map e ∧ acc = zs.map f ∧ zs.length ≤ l.length ∧ ∀ (i : Nat) (a : α) (b : β), l[i]? = some a → zs[i]? = some b → P a b)
    (Q := fun r g => ∃ (zs : List β) (S' : List C), r = .tmp (.lst (zs.map f)) ∧ g = ⟨backE g0.env (wipeE g0.env vs) vs, S'⟩ ∧ I S' ∧ zs.length = l.length ∧ ∀ (i : Nat) (a : α) (b : β), l[i]? = some a → zs[i]? = some b → P a b)
    hi ⟨h0, [], rfl, rfl, by simp, fun i a b _ h => by simp at h⟩ (by simpa using hl) ?_ ?_
  · obtain ⟨r, g', e1, zs, S', rfl, rfl, h1, h2, h3⟩ := h.of
    exact ⟨zs, S', e1, h1, h2, h3⟩
  · rintro x xs acc S ⟨iS, zs, h2, rfl, h4, h5⟩
    have lt : zs.length < l.length := by
      rcases Nat.lt_or_ge zs.length l.length with z | z
      · exact z
      · rw [List.drop_of_length_le z] at h2
        cases h2
    rw [List.drop_eq_getElem_cons lt, List.map_cons] at h2
    cases h2
    obtain ⟨g1, e1, h6⟩ := hs l[zs.length] (List.getElem_mem lt) S iS
    refine ⟨g1, e1, h6.mono fun b g2 h7 => ?_⟩
    have fin : ∀ (o : Option D) (g' : Sg), (wipeE g'.env vs = wipeE g0.env vs ∧ I g'.st ∧ ∃ b, o = some (f b) ∧ P l[zs.length] b) → (wipeE g'.env vs = wipeE g0.env vs ∧ I g'.st ∧ ∃ (zs' : List β), (l.drop (zs.length + 1)).map e = (l.drop zs'.length).map e ∧ addO (zs.map f) o = zs'.map f ∧ zs'.length ≤ l.length ∧ ∀ (i : Nat) (a : α) (b : β), l[i]? = some a → zs'[i]? = some b → P a b) := by
      rintro o g' ⟨q1, q2, b, rfl, q4⟩
      refine ⟨q1, q2, zs ++ [b], by simp, by simp [addO], by simp; omega, fun i a b' ha hb => ?_⟩
      rcases Nat.lt_or_ge i zs.length with z | z
      · rw [List.getElem?_append_left z] at hb
        exact h5 i a b' ha hb
      · rw [List.getElem?_append_right z] at hb
        have : i - zs.length = 0 := by
          have := (List.getElem?_eq_some_iff.mp hb).1
          simp at this
          omega
        rw [this] at hb
        have ei : i = zs.length := by omega
        subst ei
        rw [List.getElem?_eq_getElem lt] at ha
        cases ha
        cases hb
        exact q4
    cases b with
    | false => simpa using fin _ _ (by simpa using h7)
    | true =>
      simp only [if_true] at h7 ⊢
      exact h7.mono fun r g3 h8 => h8.mono fun d g4 h9 => fin _ _ h9
  · rintro ys S ⟨iS, zs, h2, rfl, h4, h5⟩
    have : zs.length = l.length := by
      rcases Nat.lt_or_ge zs.length l.length with z | z
      · rw [List.drop_eq_getElem_cons z] at h2
        cases h2
      · omega
    exact ⟨zs, S, rfl, rfl, iS, this, h5⟩
/-! ### a chain -/
def GC (n : Nat) (b : Bool) (S : List C) (c2 c3 : Option SD) : Sg := ⟨[some (.d (nD n)), some (.d (.bl b)), c2, c3], S⟩
theorem look_bl (b : Bool) (g : Sg) : look (.bl b) g = some (.bl b) := rfl
theorem law_chain_ok {n : Nat} (h : 1 ≤ n) (hn : n ≤ 200) (b : Bool) (S : List C) : m__law_chain [nD n, .bl b] S = .ok (.new (.lst (rowsD (Wt.chn n b)))) S := by
  have e4 := line4
  have z1 : (1 : Nat) ≤ sizeLine := by decide
  have z2 : (2 : Nat) ≤ sizeLine := by decide
  have z0 : (0 : Nat) ≤ sizeLine := Nat.zero_le _
  have key : FI (m__law_chain [nD n, .bl b] S) fun r S' => r = .new (.lst (rowsD (Wt.chn n b))) ∧ S' = S := by
    refine FI.fnM ?_
    rw [show env0 4 [nD n, .bl b] = [some (.d (nD n)), some (.d (.bl b)), none, none] from rfl, b__law_chain]
    have sb : fSub (nD n) (.int 1) = some (.d (nD (n - 1))) := sub1 h
    have hi : mRange rng1 [mBin fSub (mVar 0) (mD (.int 1))] (GC n b S none none) = .ok ((List.range (n - 1)).map nD) (GC n b S none none) := by
      refine range_draw (by omega) ?_
      simp only [YY, GC, look_nD, sb]
    have ch := comp_l (vs := [3]) (t := tName 3) (mi := mRange rng1 [mBin fSub (mVar 0) (mD (.int 1))]) (me := mTup [mBin fAdd (mVar 3) (mD (.int 1))]) (g := GC n b S none none) (g0 := GC n b S none none)
      (l := List.range (n - 1)) (e := nD) (f := fun x => rowD [x + 1]) hi (by rw [List.length_range]; omega) fun x hx => by
        refine ⟨GC n b S none (some (.d (nD x))), rfl, ?_⟩
        have a1 : fAdd (nD x) (.int 1) = some (.d (nD (x + 1))) := addN x 1
        show RI (.ok true _) _
        simp only [RI, if_true]
        simp only [YY, GC, look_nD, a1, Nat.zero_add, z1]
        refine ⟨?_, ?_, ?_⟩ <;> first | rfl | trivial
    have rm2 : ((List.range (n - 1)).map fun x => rowD [x + 1]) = (((List.range (n - 1)).map fun x => [x + 1]).map rowD) := by simp [Function.comp_def]
    rw [rm2] at ch
    have cat3 : fAdd (.lst (((List.range (n - 1)).map fun x => [x + 1]).map rowD)) (.lst [.tup []]) = some (.new (.lst (rowsD (Wt.chn n false)))) := by
      rw [Lib.add_lists _ _ (by simp; omega)]
      simp [Wt.chn, rowsD, rowD, nD]
      rfl
    have l11 : mLst [mTup []] (GC n b S none none) = .ok (.tmp (.lst [.tup []])) (GC n b S none none) := by
      simp only [YY, GC, look_nD, z1, z0, Nat.zero_add, Nat.reduceAdd]
    have b11 := bin_run (F := fAdd) (ga := GC n b S none none) ch l11 rfl rfl cat3
    refine SI.seq_eq (g' := GC n b S (some (.own (.lst (rowsD (Wt.chn n false))))) none) (by rw [x_set]; erw [b11]; rfl) ?_
    refine SI.seq_eq (g' := GC n b S (some (.own (.lst (rowsD (Wt.chn n b))))) none) ?_ ?_
    · cases b with
      | false => simp only [YY, GC, look_bl, Bool.false_eq_true, if_false]
      | true =>
        have ln : (rowsD (Wt.chn n false)).length = n := by rw [rowsD, List.length_map, Wt.chn_len h]; rfl
        have ng : mNeg (mD (.int 1)) (GC n true S (some (.own (.lst (rowsD (Wt.chn n false))))) none) = .ok (.d (.int (-1))) (GC n true S (some (.own (.lst (rowsD (Wt.chn n false))))) none) := rfl
        have tu : mTup [mD (.int 0), mVar 0] (GC n true S (some (.own (.lst (rowsD (Wt.chn n false))))) none) = .ok (.d (rowD [0, n])) (GC n true S (some (.own (.lst (rowsD (Wt.chn n false))))) none) := by
          simp only [YY, GC, look_nD, z2, Nat.zero_add, Nat.reduceAdd]
          rfl
        have fs : fSetA (.lst (rowsD (Wt.chn n false))) (.int (-1)) (rowD [0, n]) = some (.lst ((rowsD (Wt.chn n false)).set (n - 1) (rowD [0, n]))) := by
          show (ixN (rowsD (Wt.chn n false)).length (-1)).map (fun j => C.lst ((rowsD (Wt.chn n false)).set j (rowD [0, n]))) = _
          rw [ln]
          have : ixN n (-1) = some (n - 1) := by
            unfold ixN
            rw [if_neg (by omega), if_pos (by omega)]
            congr 1
            omega
          rw [this]
          rfl
        have p := put_run (f := fSetA) (j := 2) tu rfl ng fs
        have es : (rowsD (Wt.chn n false)).set (n - 1) (rowD [0, n]) = rowsD ((List.range (n - 1)).map (fun x => [x + 1]) ++ [[0, n]]) := by
          unfold rowsD Wt.chn
          simp
        rw [es] at p
        have ap : fAppend (.lst (rowsD ((List.range (n - 1)).map (fun x => [x + 1]) ++ [[0, n]]))) [.tup []] = some (.non, .lst (rowsD (Wt.chn n true))) := by
          have : (rowsD ((List.range (n - 1)).map (fun x => [x + 1]) ++ [[0, n]])).length < sizeLine := by simp [rowsD]; omega
          simp only [fAppend, this, if_true]
          simp [rowsD, Wt.chn, rowD]
          rfl
        have am : argsD [mTup []] (GC n true S (some (.own (.lst (rowsD ((List.range (n - 1)).map (fun x => [x + 1]) ++ [[0, n]]))))) none) = .ok [.tup []] (GC n true S (some (.own (.lst (rowsD ((List.range (n - 1)).map (fun x => [x + 1]) ++ [[0, n]]))))) none) := by
          rfl
        have b5 := mut_run (f := fAppend) (j := 2) (g := GC n true S (some (.own (.lst (rowsD ((List.range (n - 1)).map (fun x => [x + 1]) ++ [[0, n]]))))) none) rfl rfl am rfl ap
        rw [x_if]
        have tt : mTest (mVar 1) (GC n true S (some (.own (.lst (rowsD (Wt.chn n false))))) none) = .ok true (GC n true S (some (.own (.lst (rowsD (Wt.chn n false))))) none) := rfl
        rw [tt, R.to_ok, if_pos rfl, x_seq]
        erw [p]
        show sExpr _ (GC n true S (some (.own (.lst (rowsD ((List.range (n - 1)).map (fun x => [x + 1]) ++ [[0, n]]))))) none) = _
        rw [x_expr, b5, R.to_ok]
        rfl
    simp only [YY, GC]
    exact ⟨rfl, rfl⟩
  obtain ⟨r, S', e, rfl, rfl⟩ := key.of
  exact e
/-! ### the web and its likes -/
def GL (s : D) (S : List C) (c2 c3 c4 c5 c6 c7 c8 c9 : Option SD) : Sg := ⟨[some (.d s), some (.d (.obj 1)), c2, c3, c4, c5, c6, c7, c8, c9], S⟩
theorem sl_tup {xs : List D} {m0 m : ST RV} {g g1 g2 : Sg} {k : Nat} (h0 : m0 g = .ok (.d (.tup xs)) g1) (e : m g1 = .ok (.d (nD k)) g2) : mSl m0 (mNoPart) (mPart m) g = .ok (.d (.tup (xs.take k))) g2 := by
  have fs : fSl (.tup xs) none (some (k : Int)) = some (.d (.tup (xs.take k))) := by
    show some (RN.d (.tup (cut xs none (some (k : Int))))) = _
    rw [cut_takeN]
  rw [x_sl, h0, bind_ok, x_nopart, bind_ok, x_part, e, bind_ok]
  show (R.bind (match asI (.d (nD k)) with | some i => R.ok (some i) g2 | none => .stuck) _) = _
  rw [show asI (.d (nD k)) = some (k : Int) from rfl]
  simp only [bind_ok, x_frd, x_peekd, look_tup, fs, x_opts, x_rvd]
abbrev tab (P : Addr) : List C := [.tab P qLam]
theorem dbl_run {P : Addr} {S : List C} (jS : IsJar (tab P) S) {w : Wt.Web} (hl : w.length ≤ 300) (h2 : ∀ r ∈ w, r.length ≤ 2) (s : D) (c2 c3 c8 c9 : Option SD) : ∃ (v : Wt.Web) (S' : List C), Wt.Dbl w v ∧ (∀ r ∈ v, r.length ≤ 4) ∧ IsJar (tab P) S' ∧
    mBin fAdd (mFz (mVar 4)) (mComp (mItems (mVar 4)) [7] (tName 7) (mYes) (mBin fAdd (mAps fTuple [mComp (mItems (mVar 7)) [6] (tName 6) (mYes) (mBin fAdd (mVar 6) (mVar 5))]) (mSl (mVar 7) (mNoPart) (mPart (mCall (m__law_draw) [mVar 1, mD (.int 2)])))))
      (GL s S c2 c3 (some (.own (.lst (rowsD w)))) (some (.d (nD w.length))) none none c8 c9) = .ok (.tmp (.lst (rowsD (w ++ v)))) (GL s S' c2 c3 (some (.d (.lst (rowsD w)))) (some (.d (nD w.length))) none none c8 c9) := by
  have e4 := line4
  have hi : mItems (mVar 4) (GL s S c2 c3 (some (.d (.lst (rowsD w)))) (some (.d (nD w.length))) none none c8 c9) = .ok (w.map rowD) (GL s S c2 c3 (some (.d (.lst (rowsD w)))) (some (.d (nD w.length))) none none c8 c9) := by
    simp only [YY, GL]
    rfl
  obtain ⟨v, S', e, jS', vl, vr⟩ := comp_st3 (vs := [7]) (t := tName 7) (me := mBin fAdd (mAps fTuple [mComp (mItems (mVar 7)) [6] (tName 6) (mYes) (mBin fAdd (mVar 6) (mVar 5))]) (mSl (mVar 7) (mNoPart) (mPart (mCall (m__law_draw) [mVar 1, mD (.int 2)])))) (l := w) (e := rowD) (g := GL s S c2 c3 (some (.d (.lst (rowsD w)))) (some (.d (nD w.length))) none none c8 c9) (g0 := GL s S c2 c3 (some (.d (.lst (rowsD w)))) (some (.d (nD w.length))) none none c8 c9)
    rowD (fun r q => (∃ k, q = r.map (fun x => x + w.length) ++ r.take k) ∧ q.length ≤ 4) (IsJar (tab P)) hi jS (by omega) fun r hr S jS => by
      refine ⟨GL s S c2 c3 (some (.d (.lst (rowsD w)))) (some (.d (nD w.length))) none (some (.d (rowD r))) c8 c9, rfl, ?_⟩
      have r2 := h2 r hr
      have inn := comp_l (vs := [6]) (t := tName 6) (mi := mItems (mVar 7)) (me := mBin fAdd (mVar 6) (mVar 5)) (g := GL s S c2 c3 (some (.d (.lst (rowsD w)))) (some (.d (nD w.length))) none (some (.d (rowD r))) c8 c9) (g0 := GL s S c2 c3 (some (.d (.lst (rowsD w)))) (some (.d (nD w.length))) none (some (.d (rowD r))) c8 c9)
        (l := r) (e := nD) (f := fun x => nD (x + w.length)) (by simp only [YY, GL]; rfl) (by omega) fun x hx => by
          refine ⟨GL s S c2 c3 (some (.d (.lst (rowsD w)))) (some (.d (nD w.length))) (some (.d (nD x))) (some (.d (rowD r))) c8 c9, rfl, ?_⟩
          have a1 : fAdd (nD x) (nD w.length) = some (.d (nD (x + w.length))) := addN x _
          show RI (.ok true _) _
          simp only [RI, if_true]
          simp only [YY, GL, look_nD, a1]
          refine ⟨?_, ?_, ?_⟩ <;> first | rfl | trivial
      have tu := tuple_run inn
      obtain ⟨k, S2, d2, k2, j2⟩ := draw_lit jS (n := 2) 2 rfl (by omega) (by omega)
      have sl := sl_tup (xs := ND r) (m0 := mVar 7) (m := mCall (m__law_draw) [mVar 1, mD (.int 2)]) (g := GL s S c2 c3 (some (.d (.lst (rowsD w)))) (some (.d (nD w.length))) none (some (.d (rowD r))) c8 c9) (g2 := GL s S2 c2 c3 (some (.d (.lst (rowsD w)))) (some (.d (nD w.length))) none (some (.d (rowD r))) c8 c9) (k := k) rfl (by simp only [YY, GL, d2])
      have b := bin_run (F := fAdd) (ga := GL s S c2 c3 (some (.d (.lst (rowsD w)))) (some (.d (nD w.length))) none (some (.d (rowD r))) c8 c9) tu sl rfl rfl (add_tup (r.map fun x => nD (x + w.length)) ((ND r).take k) (by rw [List.length_map, List.length_take]; omega))
      have eq : r.map (fun x => nD (x + w.length)) ++ (ND r).take k = ND (r.map (fun x => x + w.length) ++ r.take k) := by
        simp [ND, List.map_take, Function.comp_def]
      rw [eq] at b
      show RI (.ok true _) _
      simp only [RI, if_true]
      erw [b]
      refine ⟨?_, j2, _, rfl, ⟨k, rfl⟩, ?_⟩
      · rfl
      · simp only [List.length_append, List.length_map, List.length_take]
        omega
  refine ⟨v, S', ⟨vl, fun i hi => ?_⟩, fun r hr => ?_, jS', ?_⟩
  · have hv : i < v.length := by omega
    obtain ⟨⟨k, h⟩, _⟩ := vr i _ _ (List.getElem?_eq_getElem hi) (List.getElem?_eq_getElem hv)
    exact ⟨k, by rw [Wt.row_get hv, Wt.row_get hi]; exact h⟩
  · obtain ⟨i, hv, rfl⟩ := List.getElem_of_mem hr
    have hi : i < w.length := by omega
    exact (vr i _ _ (List.getElem?_eq_getElem hi) (List.getElem?_eq_getElem hv)).2
  · have ad := Lib.add_lists (rowsD w) (v.map rowD) (by simp [rowsD]; omega)
    have b := bin_run (F := fAdd) (ma := mFz (mVar 4)) (a := .d (.lst (rowsD w))) (g := GL s S c2 c3 (some (.own (.lst (rowsD w)))) (some (.d (nD w.length))) none none c8 c9) (ga := GL s S c2 c3 (some (.d (.lst (rowsD w)))) (some (.d (nD w.length))) none none c8 c9) rfl e rfl rfl ad
    rw [show rowsD w ++ v.map rowD = rowsD (w ++ v) by simp [rowsD]] at b
    exact b
/-! ### a turn -/
theorem ne_nat (a : Nat) : fEq true (nD a) (nD a) = some (.d (.bl false)) := by simp [fEq, fits, eqD, nD]
theorem ne_big (n : Nat) : fEq true (bigD n) (bigD n) = some (.d (.bl false)) := by simp [fEq, bigD, fits, eqD, nD, fitsA, eqA]
theorem why_at {T : List String} {P : Addr} {m : ST RV} {g : Sg} (h : g.st[(0 : Nat)]? = some (.tab P qLam)) : mWhy T P m g = whyR T (m g) := by
  show (match g.st[(0 : Nat)]? with
    | some (C.tab P' q) => if P' = P ∧ q = qLam then whyR T (m g) else .stuck
    | _ => .stuck) = _
  rw [h]
  simp
theorem tab_at {P : Addr} {S : List C} (h : IsJar (tab P) S) : S[(0 : Nat)]? = some (.tab P qLam) := by
  obtain ⟨j, rfl, _⟩ := h
  rfl
theorem turn06 {P : Addr} {S : List C} (jS : IsJar (tab P) S) (s x : D) (c3 c4 c5 c8 c9 : Option SD) :
    SI (sSeq (sSet 3 (mCall (m__law_of) [mVar 1, mLst [mD (.int 64), mD (.int 65), mD (.int 63), mD (.int 62), mBin fAdd (mD (.int 1)) (mCall (m__law_draw) [mVar 1, mD (.int 200)])]]))
  (sSeq (sSet 4 (mCall (m__law_chain) [mVar 3, mBin (fEq false) (mCall (m__law_draw) [mVar 1, mD (.int 2)]) (mD (.int 0))]))
  (sSeq (sSet 5 (mAps fLenA [mVar 4]))
  (sSeq (sSet 4 (mBin fAdd (mFz (mVar 4)) (mComp (mItems (mVar 4)) [7] (tName 7) (mYes) (mBin fAdd (mAps fTuple [mComp (mItems (mVar 7)) [6] (tName 6) (mYes) (mBin fAdd (mVar 6) (mVar 5))]) (mSl (mVar 7) (mNoPart) (mPart (mCall (m__law_draw) [mVar 1, mD (.int 2)])))))))
  (sSeq (sSet 8 (mCall (m__law_of) [mVar 1, mLst [mD (.int 0), mVar 5]]))
  (sSeq (sSet 9 (mWhy exT P (mCall (m_picture) ([mVar 4] ++ [mVar 8]))))
  (sSeq (sIf (mTest (mBin (fEq true) (mVar 9) (mIf (mTest (mBin fLe (mVar 5) (mD (.int 64)))) (mTup [mD (.str "told"), mD .non]) (mTup [mD (.str "TooBig"), mVar 5])))) (sRet (mD (.bl false))) (sNil))
  (sSeq (sIf (mAnd (mTest (mBin fLe (mVar 5) (mD (.int 64)))) (mTest (mBin (fEq true) (mAps fLenA [mBin fIxA (mCall (m_picture) ([mVar 4] ++ [mVar 8])) (mD (.int 1))]) (mVar 5)))) (sRet (mD (.bl false))) (sNil))
  (sIf (mTest (mBin (fEq true) (mCall (m_picture) ([mBin fAdd (mVar 4) (mLst [mTup [mAps fLenA [mVar 4]]])] ++ [mAps fLenA [mVar 4]])) (mTup [mD (.int 0), mTup [mTup [mD (.int 0)]]]))) (sRet (mD (.bl false))) (sNil))))))))) (GL s S (some (.d x)) c3 c4 c5 none none c8 c9))
      (fun g => ∃ (S : List C) (c2 c3 c4 c5 c8 c9 : Option SD), g = GL s S c2 c3 c4 c5 none none c8 c9 ∧ IsJar (tab P) S) (fun _ => False) (fun _ => False) (fun r _ => False) := by
  have e4 := line4
  have z1 : (1 : Nat) ≤ sizeLine := by decide
  have z2 : (2 : Nat) ≤ sizeLine := by decide
  have z5 : (5 : Nat) ≤ sizeLine := by decide
  obtain ⟨k, S1, d1, k1, j1⟩ := draw_lit jS (n := 200) 200 rfl (by omega) (by omega)
  have a1 : fAdd (.int 1) (nD k) = some (.d (nD (1 + k))) := addN 1 k
  obtain ⟨y, S2, e2, hy, j2⟩ := law_of_ok j1 (xs := [.int 64, .int 65, .int 63, .int 62, nD (1 + k)]) (by show 0 < 5; decide) (by show 5 < _; decide)
  have Q : ∃ n : Nat, y = nD n ∧ 1 ≤ n ∧ n ≤ 200 := by
    simp only [List.mem_cons, List.not_mem_nil, or_false] at hy
    rcases hy with rfl | rfl | rfl | rfl | rfl
    · exact ⟨64, rfl, by omega, by omega⟩
    · exact ⟨65, rfl, by omega, by omega⟩
    · exact ⟨63, rfl, by omega, by omega⟩
    · exact ⟨62, rfl, by omega, by omega⟩
    · exact ⟨1 + k, rfl, by omega, by omega⟩
  obtain ⟨n, rfl, n1, n2⟩ := Q
  refine SI.seq_eq (g' := GL s S2 (some (.d x)) (some (.d (nD n))) c4 c5 none none c8 c9) (by simp only [YY, GL, d1, a1, e2, z5, look_nD, Nat.zero_add, Nat.reduceAdd]) ?_
  obtain ⟨k3, S3, d3, kb3, j3⟩ := draw_lit j2 (n := 2) 2 rfl (by omega) (by omega)
  obtain ⟨b, hb⟩ : ∃ b, b = decide (k3 = 0) := ⟨_, rfl⟩
  have q3 : fEq false (nD k3) (.int 0) = some (.d (.bl b)) := by rw [hb]; exact eq_nat0 k3
  have ec := law_chain_ok n1 n2 b S3
  refine SI.seq_eq (g' := GL s S3 (some (.d x)) (some (.d (nD n))) (some (.own (.lst (rowsD (Wt.chn n b))))) c5 none none c8 c9) (by simp only [YY, GL, d3, q3, ec, look_nD, look_bl]) ?_
  have ol := Wt.chn_len (b := b) n1
  have ll : Wt.chl n b ≤ 201 := by unfold Wt.chl; split <;> omega
  have l1 : 1 ≤ Wt.chl n b := by unfold Wt.chl; split <;> omega
  obtain ⟨w, hw⟩ : ∃ w, w = Wt.chn n b := ⟨_, rfl⟩
  have pc := Wt.chn_pic (b := b) n1
  have fw : Fit w := by rw [hw]; exact chn_fit n1 (by omega) b
  have two : ∀ r ∈ w, r.length ≤ 2 := fun r hr => by
    obtain ⟨i, hi, rfl⟩ := List.getElem_of_mem hr
    rw [← Wt.row_get hi, hw]
    exact Wt.chn_two n1 i
  rw [← hw] at ol pc ⊢
  rw [← ol] at ll l1 pc
  have ln : ∀ v : Wt.Web, fLenA [.lst (rowsD v)] = some (.d (nD v.length)) := fun v => IsW.len (.inl rfl)
  refine SI.seq_eq (g' := GL s S3 (some (.d x)) (some (.d (nD n))) (some (.own (.lst (rowsD w)))) (some (.d (nD w.length))) none none c8 c9) ?_ ?_
  · rw [x_set, aps_own (i := 4) rfl (ln w)]
    rfl
  obtain ⟨v, S4, db, v4, j4, ed⟩ := dbl_run j3 (w := w) (by omega) two s (some (.d x)) (some (.d (nD n))) c8 c9
  refine SI.seq_eq (g' := GL s S4 (some (.d x)) (some (.d (nD n))) (some (.own (.lst (rowsD (w ++ v))))) (some (.d (nD w.length))) none none c8 c9) (by rw [x_set, ed]; rfl) ?_
  obtain ⟨y, S5, e5, hy, j5⟩ := law_of_ok j4 (xs := [.int 0, nD w.length]) (by show 0 < 2; decide) (by show 2 < _; decide)
  have Q : ∃ a : Nat, y = nD a ∧ (a = 0 ∨ a = w.length) := by
    simp only [List.mem_cons, List.not_mem_nil, or_false] at hy
    rcases hy with rfl | rfl
    · exact ⟨0, rfl, .inl rfl⟩
    · exact ⟨_, rfl, .inr rfl⟩
  obtain ⟨a, rfl, ha⟩ := Q
  refine SI.seq_eq (g' := GL s S5 (some (.d x)) (some (.d (nD n))) (some (.own (.lst (rowsD (w ++ v))))) (some (.d (nD w.length))) none none (some (.d (nD a))) c9) (by simp only [YY, GL, e5, z2, look_nD, Nat.zero_add, Nat.reduceAdd]) ?_
  have okd := Wt.dbl_ok fw.ok db
  have vl := db.len
  have fd : Fit (w ++ v) := ⟨okd, by rw [List.length_append]; omega, fun i => by
    by_cases c : i < (w ++ v).length
    · have := Wt.row_mem c
      rcases List.mem_append.mp this with z | z
      · have := two _ z; omega
      · have := v4 _ z; omega
    · rw [Wt.row_out (by omega)]
      simp⟩
  have wb : IsWeb (w ++ v) (.lst (rowsD (w ++ v))) := ⟨fd, by rw [List.length_append]; omega, by rw [List.length_append]; omega, .inl rfl⟩
  have al : a < (w ++ v).length := by rw [List.length_append]; omega
  have pd := Wt.dbl_pic fw.ok db (a := a) (by omega) ha
  rw [← pd] at pc
  obtain ⟨u, hu⟩ : ∃ u, u = w ++ v := ⟨_, rfl⟩
  rw [← hu] at fd wb al pc ⊢
  have ul : u.length ≤ 402 := by rw [hu, List.length_append]; omega
  -- the last test, whatever stands in the ninth slot
  have fin : ∀ c9 : Option SD, SI (sIf (mTest (mBin (fEq true) (mCall (m_picture) ([mBin fAdd (mVar 4) (mLst [mTup [mAps fLenA [mVar 4]]])] ++ [mAps fLenA [mVar 4]])) (mTup [mD (.int 0), mTup [mTup [mD (.int 0)]]]))) (sRet (mD (.bl false))) (sNil)
      (GL s S5 (some (.d x)) (some (.d (nD n))) (some (.d (.lst (rowsD u)))) (some (.d (nD w.length))) none none (some (.d (nD a))) c9)) (fun g => ∃ (S : List C) (c2 c3 c4 c5 c8 c9 : Option SD), g = GL s S c2 c3 c4 c5 none none c8 c9 ∧ IsJar (tab P) S) (fun _ => False) (fun _ => False) (fun r _ => False) := fun c9 => by
    have lp := loop_pic fd.ok
    have wl : IsWeb (u ++ [[u.length]]) (.lst (rowsD (u ++ [[u.length]]))) := ⟨⟨Wt.loop_ok fd.ok, by rw [List.length_append]; simp; omega, fun i => by
      by_cases c : i < (u ++ [[u.length]]).length
      · have := Wt.row_mem c
        rcases List.mem_append.mp this with z | z
        · obtain ⟨i, hi, e⟩ := List.getElem_of_mem z
          rw [← Wt.row_get hi] at e
          rw [← e]
          exact fd.row i
        · rw [List.mem_singleton] at z
          rw [z]
          simp
      · rw [Wt.row_out (by omega)]
        simp⟩, by rw [List.length_append]; simp, by rw [List.length_append]; simp; omega, .inl rfl⟩
    have pk := picture_ok wl (a := u.length) (by rw [List.length_append]; simp) (by rw [lp]; simp) S5
    rw [lp] at pk
    have ca : fAdd (.lst (rowsD u)) (.lst [.tup [nD u.length]]) = some (.new (.lst (rowsD (u ++ [[u.length]])))) := cat_one u [u.length] (by omega)
    have q : fEq true (picD (0, [[0]])) (.tup [.int 0, .tup [.tup [.int 0]]]) = some (.d (.bl false)) := rfl
    simp only [YY, GL, ln, look_lst, ca, pk, look_pic, q, z1, z2, Nat.zero_add, Nat.reduceAdd, List.cons_append, List.nil_append]
    exact ⟨S5, _, _, _, _, _, _, rfl, j5⟩
  by_cases h64 : w.length ≤ 64
  · have pk := picture_ok wb al (by omega) S5
    have le : fLe (nD w.length) (.int 64) = some (.d (.bl true)) := by
      have : (w.length : Int) ≤ 64 := by omega
      rw [nD, f_leI, decide_eq_true this]
    have c : mCall (m_picture) ([mVar 4] ++ [mVar 8]) (GL s S5 (some (.d x)) (some (.d (nD n))) (some (.own (.lst (rowsD u)))) (some (.d (nD w.length))) none none (some (.d (nD a))) c9) = .ok (.d (picD (Wt.pic u a))) (GL s S5 (some (.d x)) (some (.d (nD n))) (some (.d (.lst (rowsD u)))) (some (.d (nD w.length))) none none (some (.d (nD a))) c9) := by
      simp only [YY, GL, pk, List.cons_append, List.nil_append]
    refine SI.seq_eq (g' := GL s S5 (some (.d x)) (some (.d (nD n))) (some (.d (.lst (rowsD u)))) (some (.d (nD w.length))) none none (some (.d (nD a))) (some (.d (.tup [.str "told", .non])))) ?_ ?_
    · rw [x_set, why_at (tab_at j5), c]
      rfl
    have nt : fEq true (.tup [.str "told", .non]) (.tup [.str "told", .non]) = some (.d (.bl false)) := by rfl
    have i1 : fIxA (picD (Wt.pic u a)) (.int 1) = some (.d (.tup (rowsD (Wt.pic u a).2))) := rfl
    have ll : fLenA [.tup (rowsD (Wt.pic u a).2)] = some (.d (nD w.length)) := by rw [← pc]; exact IsW.len (.inr rfl)
    refine SI.seq_eq (g' := GL s S5 (some (.d x)) (some (.d (nD n))) (some (.d (.lst (rowsD u)))) (some (.d (nD w.length))) none none (some (.d (nD a))) (some (.d (.tup [.str "told", .non])))) (by simp only [YY, GL, look_nD, le, look_tup, nt, z2, Nat.zero_add, Nat.reduceAdd]) ?_
    refine SI.seq_eq (g' := GL s S5 (some (.d x)) (some (.d (nD n))) (some (.d (.lst (rowsD u)))) (some (.d (nD w.length))) none none (some (.d (nD a))) (some (.d (.tup [.str "told", .non])))) (by simp only [YY, GL, look_nD, le, pk, look_pic, look_tup, i1, ll, ne_nat, z2, Nat.zero_add, Nat.reduceAdd, List.cons_append, List.nil_append]) ?_
    exact fin _
  · have pk := picture_big wb al (by omega) S5
    rw [pc] at pk
    have le : fLe (nD w.length) (.int 64) = some (.d (.bl false)) := by
      have : ¬ (w.length : Int) ≤ 64 := by omega
      rw [nD, f_leI, decide_eq_false this]
    have c : mCall (m_picture) ([mVar 4] ++ [mVar 8]) (GL s S5 (some (.d x)) (some (.d (nD n))) (some (.own (.lst (rowsD u)))) (some (.d (nD w.length))) none none (some (.d (nD a))) c9) = .exc (tooBig w.length) (GL s S5 (some (.d x)) (some (.d (nD n))) (some (.d (.lst (rowsD u)))) (some (.d (nD w.length))) none none (some (.d (nD a))) c9) := by
      simp only [YY, GL, pk, x_ofexc, List.cons_append, List.nil_append]
    refine SI.seq_eq (g' := GL s S5 (some (.d x)) (some (.d (nD n))) (some (.d (.lst (rowsD u)))) (some (.d (nD w.length))) none none (some (.d (nD a))) (some (.d (bigD w.length)))) ?_ ?_
    · rw [x_set, why_at (tab_at j5), c]
      rfl
    have nb := ne_big w.length
    refine SI.seq_eq (g' := GL s S5 (some (.d x)) (some (.d (nD n))) (some (.d (.lst (rowsD u)))) (some (.d (nD w.length))) none none (some (.d (nD a))) (some (.d (bigD w.length)))) ?_ ?_
    · have t : mBin (fEq true) (mVar 9) (mIf (mTest (mBin fLe (mVar 5) (mD (.int 64)))) (mTup [mD (.str "told"), mD .non]) (mTup [mD (.str "TooBig"), mVar 5])) (GL s S5 (some (.d x)) (some (.d (nD n))) (some (.d (.lst (rowsD u)))) (some (.d (nD w.length))) none none (some (.d (nD a))) (some (.d (bigD w.length)))) = .ok (.d (.bl false)) (GL s S5 (some (.d x)) (some (.d (nD n))) (some (.d (.lst (rowsD u)))) (some (.d (nD w.length))) none none (some (.d (nD a))) (some (.d (bigD w.length)))) := by
        refine bin_run (F := fEq true) (a := .d (bigD w.length)) (ga := GL s S5 (some (.d x)) (some (.d (nD n))) (some (.d (.lst (rowsD u)))) (some (.d (nD w.length))) none none (some (.d (nD a))) (some (.d (bigD w.length)))) (b := .d (bigD w.length)) (r := .d (.bl false)) rfl ?_ rfl rfl nb
        simp only [YY, GL, look_nD, le, z2, Nat.zero_add, Nat.reduceAdd, Bool.false_eq_true, if_false]
        rfl
      rw [x_if, x_test, t]
      rfl
    refine SI.seq_eq (g' := GL s S5 (some (.d x)) (some (.d (nD n))) (some (.d (.lst (rowsD u)))) (some (.d (nD w.length))) none none (some (.d (nD a))) (some (.d (bigD w.length)))) (by simp only [YY, GL, look_nD, le, Bool.false_eq_true, if_false]) ?_
    exact fin _
/-! ### the law -/
theorem chain64 : ∃ w : Wt.Web, Fit w ∧ w.length = 64 ∧ (Wt.pic w 0).2.length = 64 ∧ ∀ S, m__law_chain [.int 64, .bl false] S = .ok (.new (.lst (rowsD w))) S :=
  by
    obtain ⟨n, hn⟩ : ∃ n : Nat, n = 64 := ⟨64, rfl⟩
    have e : (.int 64 : D) = nD n := by rw [hn]; rfl
    refine ⟨Wt.chn n false, chn_fit (by omega) (by omega) false, ?_, ?_, fun S => ?_⟩
    · rw [Wt.chn_len (b := false) (by omega), hn]
      rfl
    · rw [Wt.chn_pic (b := false) (by omega), hn]
      rfl
    · rw [e]
      exact law_chain_ok (by omega) (by omega) false S
theorem law_true (P : Addr) (ns : List Int) (hn : ns.length ≤ 63) : ∃ S, m_law P [.scr ns] [.tab P qLam] = .ok (.d (.bl true)) S := by
  have key : FI (m_law P [.scr ns] [.tab P qLam]) fun r _ => r = .d (.bl true) := by
    refine FI.fnM ?_
    rw [show env0 10 [.scr ns] = [some (.d (.scr ns)), none, none, none, none, none, none, none, none, none] from rfl, b_law]
    obtain ⟨m, hm⟩ : ∃ m : SM, m = (sRet (mAndV (mBin (fEq false) (mD v_MOST_ROWS) (mD (.int 64))) (mCall (m__law_same 40) [mAps fLenA [mBin fIxA (mCall (fun ds S => m_picture (ds ++ [.int 0]) S) [mCall (m__law_chain) [mD (.int 64), mD (.bl false)]]) (mD (.int 1))], mD (.int 64)]))) := ⟨_, rfl⟩
    rw [← hm]
    obtain ⟨j, ej, ok⟩ := jar_ok ns hn [.tab P qLam]
    refine SI.seq_eq (g' := ⟨[some (.d (.scr ns)), some (.d (.obj 1)), none, none, none, none, none, none, none, none], [.tab P qLam, jarC j]⟩) ?_ ?_
    · simp only [XX, s_share, ej]
      rfl
    refine SI.seq ?_
    rw [x_for]
    have ei : ∀ g : Sg, (mRange rng1 [mD (.int 3)]) g = .ok (rng 0 3) g := fun g => rfl
    rw [ei, R.to_ok]
    refine SI.for_ (fun rest g => ∃ (S : List C) (c2 c3 c4 c5 c8 c9 : Option SD), g = GL (.scr ns) S c2 c3 c4 c5 none none c8 c9 ∧ IsJar (tab P) S) ⟨_, _, _, _, _, _, _, rfl, j, rfl, ok⟩ ?_ ?_
    · rintro x xs g ⟨S, c2, c3, c4, c5, c8, c9, rfl, jS⟩
      refine ⟨GL (.scr ns) S (some (.d x)) c3 c4 c5 none none c8 c9, rfl, ?_⟩
      exact (turn06 jS (.scr ns) x c3 c4 c5 c8 c9).mono (fun g h => h) (fun _ h => h.elim) (fun _ h => h.elim) (fun _ _ h => h.elim)
    · rintro g ⟨S, c2, c3, c4, c5, c8, c9, rfl, jS⟩
      obtain ⟨w, fw, cl, cp, ec⟩ := chain64
      have ec := ec S
      have wb : IsWeb w (.lst (rowsD w)) := ⟨fw, by omega, by omega, .inl rfl⟩
      have pk := picture_ok wb (a := 0) (by omega) (by omega) S
      have pk : m_picture [.lst (rowsD w), .int 0] S = .ok (.d (picD (Wt.pic w 0))) S := pk
      have i1 : fIxA (picD (Wt.pic w 0)) (.int 1) = some (.d (.tup (rowsD (Wt.pic w 0).2))) := rfl
      have l2 : fLenA [.tup (rowsD (Wt.pic w 0).2)] = some (.d (nD 64)) := by rw [← cp]; exact IsW.len (.inr rfl)
      have sm := same_nD 39 64 S
      have sm : m__law_same 40 [nD 64, .int 64] S = .ok (.d (.bl true)) S := sm
      have q1 : fEq false v_MOST_ROWS (.int 64) = some (.d (.bl true)) := rfl
      have lk : ∀ g, look v_MOST_ROWS g = some v_MOST_ROWS := fun _ => rfl
      have c1 : mCall (fun ds S => m_picture (ds ++ [.int 0]) S) [mCall (m__law_chain) [mD (.int 64), mD (.bl false)]] (GL (.scr ns) S c2 c3 c4 c5 none none c8 c9) = .ok (.d (picD (Wt.pic w 0))) (GL (.scr ns) S c2 c3 c4 c5 none none c8 c9) := by
        simp only [YY, GL, ec, pk, C.d, List.cons_append, List.nil_append]
      have c2' : mCall (m__law_same 40) [mAps fLenA [mBin fIxA (mCall (fun ds S => m_picture (ds ++ [.int 0]) S) [mCall (m__law_chain) [mD (.int 64), mD (.bl false)]]) (mD (.int 1))], mD (.int 64)] (GL (.scr ns) S c2 c3 c4 c5 none none c8 c9) = .ok (.d (.bl true)) (GL (.scr ns) S c2 c3 c4 c5 none none c8 c9) := by
        refine call2 (x := nD 64) (z := .int 64) (g1 := GL (.scr ns) S c2 c3 c4 c5 none none c8 c9) (g2 := GL (.scr ns) S c2 c3 c4 c5 none none c8 c9) ?_ rfl sm
        rw [x_aps, x_P1, x_bin, c1]
        simp only [YY, GL, look_pic, i1, look_tup, l2]
      have e1 : mBin (fEq false) (mD v_MOST_ROWS) (mD (.int 64)) (GL (.scr ns) S c2 c3 c4 c5 none none c8 c9) = .ok (.d (.bl true)) (GL (.scr ns) S c2 c3 c4 c5 none none c8 c9) := bin_run rfl rfl rfl rfl q1
      have ea : mAndV (mBin (fEq false) (mD v_MOST_ROWS) (mD (.int 64))) (mCall (m__law_same 40) [mAps fLenA [mBin fIxA (mCall (fun ds S => m_picture (ds ++ [.int 0]) S) [mCall (m__law_chain) [mD (.int 64), mD (.bl false)]]) (mD (.int 1))], mD (.int 64)]) (GL (.scr ns) S c2 c3 c4 c5 none none c8 c9) = .ok (.d (.bl true)) (GL (.scr ns) S c2 c3 c4 c5 none none c8 c9) := by
        rw [x_andV, e1, bind_ok, x_asB, bind_ok, if_pos rfl]
        exact c2'
      rw [hm, x_ret, ea, R.to_ok]
      exact rfl
  obtain ⟨r, S, e, rfl⟩ := key.of
  exact ⟨S, e⟩
end K06
theorem PySem.Challenge.cw_selfhold_k06_sizes_of_webs_and_sets_holds : PySem.Challenge.rw_selfhold_k06_sizes_of_webs_and_sets.Holds :=
  K06.row_of K06.law_true
