import PyProof.Rows.All
import Wide.All
import OpenK.AllK
import Wide.FinOn
import HandS.ForMost
import HandS.Exc
import HandS.Wide
import HandS.Deep
import HandS.TupAny
import HandS.SortInts
import HandS.IsInst
import HandS.Flow
import HandS.Conv
import HandS.CallSlots
import HandS.WordsExc
import HandS.Iter
import HandS.Comp
import KE.KExcSuper
import KE.KSuper
import HandS.ExcInit
import HandS.ExcIs
import HandS.ExcField
import HandS.TryOnly
import KE.KExcIs
import HandS.OwnEq
import PyProof.InstNe
import HandS.HeadEnd
import HandS.Defaults
import HandS.Text
import HandS.Property
import PyProof.ReprRoads
import HandS.Head0
import HandS.Head1
import HandS.Head2
import HandS.HeadHook1
import HandS.HeadHook2
import HandS.Set
import HandS.NoneIn
import HandS.Strs
import HandS.SetBool
import HandS.DictComp
import KE.KDictWalk
import HandS.TupSets
import HandS.SortRule
import HandS.RaiseMore
import PyProof.ExcBaseAll.ValueError
import HandS.More
import HandS.TupLe
import PySem.Challenge.RW_looseorder_k01_names_rules_and_closure
set_option Elab.async false
set_option linter.all false
set_option maxRecDepth 100000
section
/-! D0: plain data over the hand layer: what stands in the heap, as trees; the state of a def as values by slot. -/
namespace DL
open PySem PySem.Spec L2

/-- plain data -/
inductive D where
  | non | bl (b : Bool) | int (i : Int) | str (x : Str)
  | tup (xs : List D) | lst (xs : List D) | scr (ns : List Int)
  | ins (c : Str) (fs : List (Str × D))
  | dK (kvs : List (L2.Key × D)) | dT (kvs : List (List L2.Key × D))
  | ktp (xs : List Str)
  deriving Inhabited

/-- what is known of the module: its written part, its names; XI: the exception that a suite holds -/
structure Bas where
  K : PySem.W.Frag
  mg : Str → Option Value
  XI : Addr → Value → Option Addr → Prop

/-- a tuple of the written part -/
def KT0 (K : PySem.W.Frag) (a : Addr) (xs : List V) : Prop := ∃ (o : Obj) (its : Array Value) (n : Nat), K.lookup a = some o ∧ o.cls = .type "tuple" ∧ o.data = .seq its n ∧ its.size ≤ sizeLine ∧ Vals xs its.toList
mutual
inductive Rep (B : Bas) (F : Hp) : V → D → Prop
  | non : Rep B F .non .non
  | bl (b : Bool) : Rep B F (.bl b) (.bl b)
  | int (i : Int) : Rep B F (.int i) (.int i)
  | str (x : Str) : Rep B F (.str x) (.str x)
  | tup {a : Addr} {xs : List V} {ds : List D} : F a = some (.tup xs) → RepL B F xs ds → Rep B F (.ref a) (.tup ds)
  | lst {a : Addr} {xs : List V} {ds : List D} : F a = some (.lst xs) → RepL B F xs ds → Rep B F (.ref a) (.lst ds)
  | scr {a : Addr} {ns : List Int} : SqL B.K F a (ns.map V.int) → Rep B F (.ref a) (.scr ns)
  | ins {a C dx : Addr} {c : Str} {fs : List (Str × V)} {gs : List (Str × D)} : B.mg c = some (.ref C) → F a = some (.ins C dx fs) → F dx = some (.own a) → RepF B F fs gs → Rep B F (.ref a) (.ins c gs)
  | dK {a : Addr} {fs : List (L2.Key × V)} {gs : List (L2.Key × D)} : F a = some (.dK fs) → RepK B F fs gs → Rep B F (.ref a) (.dK gs)
  | dT {a : Addr} {fs : List (List L2.Key × V)} {gs : List (List L2.Key × D)} : F a = some (.dT fs) → RepT B F fs gs → Rep B F (.ref a) (.dT gs)
  | ktp {a : Addr} {xs : List Str} : KT0 B.K a (xs.map V.str) → Rep B F (.ref a) (.ktp xs)
inductive RepL (B : Bas) (F : Hp) : List V → List D → Prop
  | nil : RepL B F [] []
  | cons {v : V} {d : D} {vs : List V} {ds : List D} : Rep B F v d → RepL B F vs ds → RepL B F (v :: vs) (d :: ds)
inductive RepF (B : Bas) (F : Hp) : List (Str × V) → List (Str × D) → Prop
  | nil : RepF B F [] []
  | cons {f : Str} {v : V} {d : D} {vs : List (Str × V)} {ds : List (Str × D)} : Rep B F v d → RepF B F vs ds → RepF B F ((f, v) :: vs) ((f, d) :: ds)
inductive RepK (B : Bas) (F : Hp) : List (L2.Key × V) → List (L2.Key × D) → Prop
  | nil : RepK B F [] []
  | cons {f : L2.Key} {v : V} {d : D} {vs : List (L2.Key × V)} {ds : List (L2.Key × D)} : Rep B F v d → RepK B F vs ds → RepK B F ((f, v) :: vs) ((f, d) :: ds)
inductive RepT (B : Bas) (F : Hp) : List (List L2.Key × V) → List (List L2.Key × D) → Prop
  | nil : RepT B F [] []
  | cons {f : List L2.Key} {v : V} {d : D} {vs : List (List L2.Key × V)} {ds : List (List L2.Key × D)} : Rep B F v d → RepT B F vs ds → RepT B F ((f, v) :: vs) ((f, d) :: ds)
end

theorem rd_mono {F F' : Hp} (m : ∀ a o, F a = some o → F' a = some o) {a : Addr} {u : HO} (h : Rd F a u) : Rd F' a u := h.elim (fun h => .inl (m _ _ h)) fun ⟨o, h⟩ => .inr ⟨o, m _ _ h⟩
theorem sqt_mono {K : PySem.W.Frag} {F F' : Hp} (m : ∀ a o, F a = some o → F' a = some o) {a : Addr} {xs : List V} (h : SqT K F a xs) : SqT K F' a xs := h.elim (fun h => .inl (rd_mono m h)) .inr
/-- a tuple of ours -/
theorem tq {K : PySem.W.Frag} {F : Hp} {a : Addr} {xs : List V} (h : F a = some (.tup xs)) : SqT K F a xs := .inl (.inl h)
theorem sql_mono {K : PySem.W.Frag} {F F' : Hp} (m : ∀ a o, F a = some o → F' a = some o) {a : Addr} {xs : List V} (h : SqL K F a xs) : SqL K F' a xs := h.elim (fun h => .inl (rd_mono m h)) .inr

mutual
theorem Rep.mono {B : Bas} {F F' : Hp} (m : ∀ a o, F a = some o → F' a = some o) : ∀ {v : V} {d : D}, Rep B F v d → Rep B F' v d
  | _, _, .non => .non
  | _, _, .bl b => .bl b
  | _, _, .int i => .int i
  | _, _, .str x => .str x
  | _, _, .tup h l => .tup (m _ _ h) (l.mono m)
  | _, _, .lst h l => .lst (m _ _ h) (l.mono m)
  | _, _, .scr h => .scr (sql_mono m h)
  | _, _, .ins g h o l => .ins g (m _ _ h) (m _ _ o) (l.mono m)
  | _, _, .dK h l => .dK (m _ _ h) (l.mono m)
  | _, _, .dT h l => .dT (m _ _ h) (l.mono m)
  | _, _, .ktp h => .ktp h
theorem RepL.mono {B : Bas} {F F' : Hp} (m : ∀ a o, F a = some o → F' a = some o) : ∀ {v : List V} {d : List D}, RepL B F v d → RepL B F' v d
  | _, _, .nil => .nil
  | _, _, .cons h l => .cons (h.mono m) (l.mono m)
theorem RepF.mono {B : Bas} {F F' : Hp} (m : ∀ a o, F a = some o → F' a = some o) : ∀ {v : List (Str × V)} {d : List (Str × D)}, RepF B F v d → RepF B F' v d
  | _, _, .nil => .nil
  | _, _, .cons h l => .cons (h.mono m) (l.mono m)
theorem RepK.mono {B : Bas} {F F' : Hp} (m : ∀ a o, F a = some o → F' a = some o) : ∀ {v : List (L2.Key × V)} {d : List (L2.Key × D)}, RepK B F v d → RepK B F' v d
  | _, _, .nil => .nil
  | _, _, .cons h l => .cons (h.mono m) (l.mono m)
theorem RepT.mono {B : Bas} {F F' : Hp} (m : ∀ a o, F a = some o → F' a = some o) : ∀ {v : List (List L2.Key × V)} {d : List (List L2.Key × D)}, RepT B F v d → RepT B F' v d
  | _, _, .nil => .nil
  | _, _, .cons h l => .cons (h.mono m) (l.mono m)
end
/-- the exception that is held does not matter to data -/
def Bas.wi (B : Bas) (I : Addr → Value → Option Addr → Prop) : Bas := ⟨B.K, B.mg, I⟩
mutual
theorem Rep.wi {B : Bas} {F : Hp} {I : Addr → Value → Option Addr → Prop} : ∀ {v : V} {d : D}, Rep B F v d → Rep (B.wi I) F v d
  | _, _, .non => .non
  | _, _, .bl b => .bl b
  | _, _, .int i => .int i
  | _, _, .str x => .str x
  | _, _, .tup h l => .tup h l.wi
  | _, _, .lst h l => .lst h l.wi
  | _, _, .scr h => .scr h
  | _, _, .ins g h o l => .ins g h o l.wi
  | _, _, .dK h l => .dK h l.wi
  | _, _, .dT h l => .dT h l.wi
  | _, _, .ktp h => .ktp h
theorem RepL.wi {B : Bas} {F : Hp} {I : Addr → Value → Option Addr → Prop} : ∀ {v : List V} {d : List D}, RepL B F v d → RepL (B.wi I) F v d
  | _, _, .nil => .nil
  | _, _, .cons h l => .cons h.wi l.wi
theorem RepF.wi {B : Bas} {F : Hp} {I : Addr → Value → Option Addr → Prop} : ∀ {v : List (Str × V)} {d : List (Str × D)}, RepF B F v d → RepF (B.wi I) F v d
  | _, _, .nil => .nil
  | _, _, .cons h l => .cons h.wi l.wi
theorem RepK.wi {B : Bas} {F : Hp} {I : Addr → Value → Option Addr → Prop} : ∀ {v : List (L2.Key × V)} {d : List (L2.Key × D)}, RepK B F v d → RepK (B.wi I) F v d
  | _, _, .nil => .nil
  | _, _, .cons h l => .cons h.wi l.wi
theorem RepT.wi {B : Bas} {F : Hp} {I : Addr → Value → Option Addr → Prop} : ∀ {v : List (List L2.Key × V)} {d : List (List L2.Key × D)}, RepT B F v d → RepT (B.wi I) F v d
  | _, _, .nil => .nil
  | _, _, .cons h l => .cons h.wi l.wi
end
section
variable {B : Bas} {F : Hp}
theorem RepL.length : ∀ {vs : List V} {ds : List D}, RepL B F vs ds → vs.length = ds.length
  | _, _, .nil => rfl
  | _, _, .cons _ l => congrArg (· + 1) l.length
theorem RepL.get : ∀ {vs : List V} {ds : List D} {i : Nat} {d : D}, RepL B F vs ds → ds[i]? = some d → ∃ v, vs[i]? = some v ∧ Rep B F v d
  | _, _, _, _, .nil, e => by simp at e
  | _, _, 0, _, .cons h _, e => by simp at e; subst e; exact ⟨_, rfl, h⟩
  | _, _, i + 1, _, .cons _ l, e => by simpa using RepL.get (i := i) l (by simpa using e)
theorem RepL.getV : ∀ {vs : List V} {ds : List D} {i : Nat} {v : V}, RepL B F vs ds → vs[i]? = some v → ∃ d, ds[i]? = some d ∧ Rep B F v d
  | _, _, _, _, .nil, e => by simp at e
  | _, _, 0, _, .cons h _, e => by simp at e; subst e; exact ⟨_, rfl, h⟩
  | _, _, i + 1, _, .cons _ l, e => by simpa using RepL.getV (i := i) l (by simpa using e)
theorem RepL.append : ∀ {vs ws : List V} {ds es : List D}, RepL B F vs ds → RepL B F ws es → RepL B F (vs ++ ws) (ds ++ es)
  | _, _, _, _, .nil, l => l
  | _, _, _, _, .cons h l, m => .cons h (l.append m)
theorem RepL.set {v : V} {d : D} (h : Rep B F v d) : ∀ {vs : List V} {ds : List D} (i : Nat), RepL B F vs ds → RepL B F (vs.set i v) (ds.set i d)
  | _, _, _, .nil => .nil
  | _, _, 0, .cons _ l => .cons h l
  | _, _, i + 1, .cons g l => .cons g (RepL.set h i l)
theorem RepL.take : ∀ {vs : List V} {ds : List D} (n : Nat), RepL B F vs ds → RepL B F (vs.take n) (ds.take n)
  | _, _, 0, _ => .nil
  | _, _, _ + 1, .nil => .nil
  | _, _, n + 1, .cons h l => .cons h (RepL.take n l)
theorem RepL.drop : ∀ {vs : List V} {ds : List D} (n : Nat), RepL B F vs ds → RepL B F (vs.drop n) (ds.drop n)
  | _, _, 0, l => l
  | _, _, _ + 1, .nil => .nil
  | _, _, n + 1, .cons _ l => RepL.drop n l
theorem RepL.erase : ∀ {vs : List V} {ds : List D} (i : Nat), RepL B F vs ds → RepL B F (vs.eraseIdx i) (ds.eraseIdx i)
  | _, _, _, .nil => .nil
  | _, _, 0, .cons _ l => l
  | _, _, i + 1, .cons h l => .cons h (RepL.erase i l)
theorem RepL.dropLast : ∀ {vs : List V} {ds : List D}, RepL B F vs ds → RepL B F vs.dropLast ds.dropLast
  | _, _, .nil => .nil
  | _, _, .cons _ .nil => .nil
  | _, _, .cons h (.cons g l) => .cons h (RepL.dropLast (.cons g l))
theorem RepL.ins {v : V} {d : D} (h : Rep B F v d) : ∀ {vs : List V} {ds : List D} (i : Nat), RepL B F vs ds → RepL B F (vs.take i ++ v :: vs.drop i) (ds.take i ++ d :: ds.drop i) := fun i l => (RepL.take i l).append (.cons h (RepL.drop i l))
theorem RepL.ints : ∀ ns : List Int, RepL B F (ns.map V.int) (ns.map D.int)
  | [] => .nil
  | n :: r => .cons (.int n) (RepL.ints r)
theorem RepL.strs : ∀ ns : List Str, RepL B F (ns.map V.str) (ns.map D.str)
  | [] => .nil
  | n :: r => .cons (.str n) (RepL.strs r)
theorem RepL.inv_ints : ∀ {ns : List Int} {vs : List V}, RepL B F vs (ns.map D.int) → vs = ns.map V.int
  | [], _, .nil => rfl
  | _ :: _, _, .cons (.int _) l => by rw [List.map_cons, RepL.inv_ints l]
theorem RepL.inv_strs : ∀ {ns : List Str} {vs : List V}, RepL B F vs (ns.map D.str) → vs = ns.map V.str
  | [], _, .nil => rfl
  | _ :: _, _, .cons (.str _) l => by rw [List.map_cons, RepL.inv_strs l]
theorem RepF.get : ∀ {fs : List (Str × V)} {gs : List (Str × D)} {f : Str} {d : D}, RepF B F fs gs → gs.lookup f = some d → ∃ v, fs.lookup f = some v ∧ Rep B F v d
  | _, _, _, _, .nil, e => by simp at e
  | _, _, f, _, .cons (f := g) h l, e => by
    simp only [List.lookup] at e ⊢
    cases q : f == g with
    | true => rw [q] at e; simp only at e ⊢; cases e; exact ⟨_, rfl, h⟩
    | false => rw [q] at e; simp only at e ⊢; exact RepF.get l e
theorem RepF.none : ∀ {fs : List (Str × V)} {gs : List (Str × D)} {f : Str}, RepF B F fs gs → gs.lookup f = none → fs.lookup f = none
  | _, _, _, .nil, _ => rfl
  | _, _, f, .cons (f := g) h l, e => by
    simp only [List.lookup] at e ⊢
    cases q : f == g with
    | true => rw [q] at e; simp at e
    | false => rw [q] at e; simp only at e ⊢; exact RepF.none l e
theorem RepF.length : ∀ {fs : List (Str × V)} {gs : List (Str × D)}, RepF B F fs gs → fs.length = gs.length
  | _, _, .nil => rfl
  | _, _, .cons _ l => congrArg (· + 1) l.length
/-- an attribute stored -/
def putD (f : Str) (d : D) : List (Str × D) → List (Str × D)
  | [] => [(f, d)]
  | (g, e) :: r => if g = f then (g, d) :: r else (g, e) :: putD f d r
end
end DL
end
section
/-! D1: the slots of a def as data; what a step may change. -/
namespace DL
open PySem PySem.Spec L2

theorem RepF.put {B : Bas} {F : Hp} {f : Str} {v : V} {d : D} (h : Rep B F v d) : ∀ {fs : List (Str × V)} {gs : List (Str × D)}, RepF B F fs gs → RepF B F (putF f v fs) (putD f d gs)
  | _, _, .nil => .cons h .nil
  | (g, x) :: r, (_, e) :: q, .cons k l => by
    show RepF B F (if g = f then (g, v) :: r else (g, x) :: putF f v r) (if g = f then (g, d) :: q else (g, e) :: putD f d q)
    by_cases c : g = f
    · rw [if_pos c, if_pos c]; exact .cons h l
    · rw [if_neg c, if_neg c]; exact .cons k (RepF.put h l)

/-- what a slot owns: a list, an object that is being made -/
inductive OB where
  | lst (xs : List D)
  | ob (c : Str) (fs : List (Str × D))
  | dK (kvs : List (L2.Key × D)) | dT (kvs : List (List L2.Key × D))
/-- a slot's content: plain data; an object of its own (b: handed in by the caller, who sees it change); such an object, locked; the exception of a suite; nothing any more -/
inductive SV where
  | fz (d : D) | ow (b : Bool) (o : OB) | lk (o : OB) | xn (c : Str) (fs : List (Str × D)) | dd
abbrev Env := List (Option SV)
def SV.obj : SV → Bool
  | .ow _ _ => true
  | .lk _ => true
  | _ => false

def RepO (B : Bas) (F H : Hp) (a : Addr) : OB → Prop
  | .lst ds => ∃ xs, H a = some (.lst xs) ∧ RepL B F xs ds
  | .ob c fs => ∃ C dx vs, B.mg c = some (.ref C) ∧ H a = some (.ins C dx vs) ∧ F dx = some (.own a) ∧ RepF B F vs fs
  | .dK ds => ∃ xs, H a = some (.dK xs) ∧ RepK B F xs ds
  | .dT ds => ∃ xs, H a = some (.dT xs) ∧ RepT B F xs ds
theorem RepO.keep {B : Bas} {F F' H H' : Hp} {a : Addr} {o : OB} (m : ∀ a o, F a = some o → F' a = some o) (k : ∀ o, H a = some o → H' a = some o) (h : RepO B F H a o) : RepO B F' H' a o := by
  cases o with
  | lst ds => obtain ⟨xs, h1, h2⟩ := h; exact ⟨xs, k _ h1, h2.mono m⟩
  | ob c fs => obtain ⟨C, dx, vs, g, h1, h2, h3⟩ := h; exact ⟨C, dx, vs, g, k _ h1, m _ _ h2, h3.mono m⟩
  | dK ds => obtain ⟨xs, h1, h2⟩ := h; exact ⟨xs, k _ h1, h2.mono m⟩
  | dT ds => obtain ⟨xs, h1, h2⟩ := h; exact ⟨xs, k _ h1, h2.mono m⟩
theorem RepO.some {B : Bas} {F H : Hp} {a : Addr} {o : OB} (h : RepO B F H a o) : ∃ u, H a = some u := by
  cases o with
  | lst ds => obtain ⟨xs, h1, _⟩ := h; exact ⟨_, h1⟩
  | ob c fs => obtain ⟨C, dx, vs, g, h1, _⟩ := h; exact ⟨_, h1⟩
  | dK ds => obtain ⟨xs, h1, _⟩ := h; exact ⟨_, h1⟩
  | dT ds => obtain ⟨xs, h1, _⟩ := h; exact ⟨_, h1⟩

def SvR (B : Bas) (F H : Hp) (v : V) : SV → Prop
  | .fz d => Rep B F v d
  | .ow _ o => ∃ a, v = .ref a ∧ F a = none ∧ RepO B F H a o
  | .lk o => ∃ a, v = .ref a ∧ F a = none ∧ RepO B F H a o
  | .xn c fs => ∃ a C dd vs, v = .ref a ∧ B.mg c = some (.ref C) ∧ B.XI a (.ref C) dd ∧ ((dd = none ∧ fs = []) ∨ ∃ e, dd = some e ∧ F e = some (.xd vs) ∧ RepF B F vs fs)
  | .dd => True

def OwnAt (ρ : Env) (σ : St) (i : Nat) (a : Addr) : Prop := ∃ b o, ρ[i]? = some (some (.ow b o)) ∧ σ[i]? = some (some (.ref a))
def HasAt (ρ : Env) (σ : St) (i : Nat) (a : Addr) : Prop := ∃ sv, ρ[i]? = some (some sv) ∧ sv.obj = true ∧ σ[i]? = some (some (.ref a))
theorem OwnAt.has {ρ : Env} {σ : St} {i : Nat} {a : Addr} (h : OwnAt ρ σ i a) : HasAt ρ σ i a := let ⟨b, o, h1, h2⟩ := h; ⟨_, h1, rfl, h2⟩

structure Rel (B : Bas) (F : Hp) (ρ : Env) (σ : St) (H : Hp) : Prop where
  ext : ∀ a o, F a = some o → H a = some o
  len : σ.length = ρ.length
  sl : ∀ (i : Nat) (sv : SV), ρ[i]? = some (some sv) → ∃ v, σ[i]? = some (some v) ∧ SvR B F H v sv
  sep : ∀ i j a, OwnAt ρ σ i a → HasAt ρ σ j a → i = j

/-- what may come to be held as data: new things, tuples -/
def NewT (H : Hp) (a : Addr) : Prop := H a = none ∨ ∃ xs, H a = some (.tup xs)
theorem RepO.noT {B : Bas} {F H : Hp} {a : Addr} {o : OB} (h : RepO B F H a o) : ¬ NewT H a := by
  intro z
  cases o with
  | lst ds => obtain ⟨xs, h1, _⟩ := h; rcases z with z | ⟨_, z⟩ <;> rw [h1] at z <;> cases z
  | ob c fs => obtain ⟨C, dx, vs, g, h1, _⟩ := h; rcases z with z | ⟨_, z⟩ <;> rw [h1] at z <;> cases z
  | dK ds => obtain ⟨xs, h1, _⟩ := h; rcases z with z | ⟨_, z⟩ <;> rw [h1] at z <;> cases z
  | dT ds => obtain ⟨xs, h1, _⟩ := h; rcases z with z | ⟨_, z⟩ <;> rw [h1] at z <;> cases z
structure Stp (F : Hp) (ρ : Env) (σ : St) (H : Hp) (F' : Hp) (ρ' : Env) (σ' : St) (H' : Hp) : Prop where
  mono : ∀ a o, F a = some o → F' a = some o
  newF : ∀ a, F' a ≠ none → F a ≠ none ∨ NewT H a ∨ ∃ k, OwnAt ρ σ k a
  keep : ∀ a o, H a = some o → (∀ k, ¬ OwnAt ρ σ k a) → H' a = some o
  dom : ∀ a, H' a = none → H a = none
  has : ∀ k a, HasAt ρ' σ' k a → H a = none ∨ HasAt ρ σ k a
  own : ∀ (k : Nat) (b : Bool) (o : OB) (a : Addr), ρ'[k]? = some (some (.ow b o)) → σ'[k]? = some (some (.ref a)) → (b = false ∧ H a = none) ∨ ∃ o0, ρ[k]? = some (some (.ow b o0)) ∧ σ[k]? = some (some (.ref a))
  lks : ∀ (k : Nat) (o : OB) (a : Addr), ρ'[k]? = some (some (.lk o)) → σ'[k]? = some (some (.ref a)) → ∃ o0, ρ[k]? = some (some (.lk o0)) ∧ σ[k]? = some (some (.ref a))

theorem Stp.refl (F : Hp) (ρ : Env) (σ : St) (H : Hp) : Stp F ρ σ H F ρ σ H :=
  ⟨fun _ _ h => h, fun _ h => .inl h, fun _ _ h _ => h, fun _ h => h, fun _ _ h => .inr h, fun _ _ o _ h1 h2 => .inr ⟨o, h1, h2⟩, fun _ o _ h1 h2 => ⟨o, h1, h2⟩⟩
theorem Stp.ownAt {F F' H H' : Hp} {ρ ρ' : Env} {σ σ' : St} (s : Stp F ρ σ H F' ρ' σ' H') {k : Nat} {a : Addr} (h : OwnAt ρ' σ' k a) : H a = none ∨ OwnAt ρ σ k a := by
  obtain ⟨b, o, h1, h2⟩ := h
  rcases s.own k b o a h1 h2 with ⟨_, q⟩ | ⟨o0, q1, q2⟩
  · exact .inl q
  · exact .inr ⟨b, o0, q1, q2⟩
theorem Stp.newT {F F' H H' : Hp} {ρ ρ' : Env} {σ σ' : St} (s : Stp F ρ σ H F' ρ' σ' H') {a : Addr} (h : NewT H' a) : NewT H a ∨ ∃ k, OwnAt ρ σ k a := by
  rcases h with h | ⟨xs, h⟩
  · exact .inl (.inl (s.dom a h))
  · by_cases o : ∃ k, OwnAt ρ σ k a
    · exact .inr o
    · cases q : H a with
      | none => exact .inl (.inl q)
      | some u =>
        have e := s.keep a u q (fun k z => o ⟨k, z⟩)
        rw [h] at e; cases e
        exact .inl (.inr ⟨xs, q⟩)
theorem Stp.trans {F F1 F2 H H1 H2 : Hp} {ρ ρ1 ρ2 : Env} {σ σ1 σ2 : St} (s : Stp F ρ σ H F1 ρ1 σ1 H1) (t : Stp F1 ρ1 σ1 H1 F2 ρ2 σ2 H2) : Stp F ρ σ H F2 ρ2 σ2 H2 where
  mono := fun a o h => t.mono a o (s.mono a o h)
  newF := fun a h => by
    rcases t.newF a h with h | h | ⟨k, h⟩
    · exact s.newF a h
    · exact .inr (s.newT h)
    · rcases s.ownAt h with h | h
      · exact .inr (.inl (.inl h))
      · exact .inr (.inr ⟨k, h⟩)
  keep := fun a o h hn => t.keep a o (s.keep a o h hn) fun k hk => by
    rcases s.ownAt hk with q | q
    · rw [h] at q; cases q
    · exact hn k q
  dom := fun a h => s.dom a (t.dom a h)
  has := fun k a h => by
    rcases t.has k a h with h | h
    · exact .inl (s.dom a h)
    · exact s.has k a h
  own := fun k b o a h1 h2 => by
    rcases t.own k b o a h1 h2 with ⟨q, h⟩ | ⟨o0, q1, q2⟩
    · exact .inl ⟨q, s.dom a h⟩
    · exact s.own k b o0 a q1 q2
  lks := fun k o a h1 h2 => let ⟨o0, q1, q2⟩ := t.lks k o a h1 h2; s.lks k o0 a q1 q2

/-- a new thing at p, tracked outside of F or (fz) within -/
theorem Rel.alloc {B : Bas} {F H : Hp} {ρ : Env} {σ : St} {p : Addr} {u : HO} (R : Rel B F ρ σ H) (hp : H p = none) : Rel B F ρ σ (upd H p u) ∧ Stp F ρ σ H F ρ σ (upd H p u) := by
  have k : ∀ a o, H a = some o → upd H p u a = some o := fun a o h => by rw [upd_ne (ne_of_none h hp)]; exact h
  have dm : ∀ a, upd H p u a = none → H a = none := fun a h => by
    cases q : H a with
    | none => rfl
    | some o => rw [k a o q] at h; cases h
  refine ⟨⟨fun a o h => k a o (R.ext a o h), R.len, fun i sv h => ?_, R.sep⟩, ⟨fun _ _ h => h, fun _ h => .inl h, fun a o h _ => k a o h, dm, fun _ _ h => .inr h, fun _ _ o _ h1 h2 => .inr ⟨o, h1, h2⟩, fun _ o _ h1 h2 => ⟨o, h1, h2⟩⟩⟩
  obtain ⟨v, h1, h2⟩ := R.sl i sv h
  refine ⟨v, h1, ?_⟩
  cases sv with
  | fz d => exact h2
  | ow b o => obtain ⟨a, e, f, q⟩ := h2; exact ⟨a, e, f, q.keep (fun _ _ h => h) (fun o => k a o)⟩
  | lk o => obtain ⟨a, e, f, q⟩ := h2; exact ⟨a, e, f, q.keep (fun _ _ h => h) (fun o => k a o)⟩
  | xn c fs => exact h2
  | dd => trivial

theorem SvR.mono {B : Bas} {F F' H : Hp} {v : V} {sv : SV} (m : ∀ a o, F a = some o → F' a = some o) (nf : ∀ a, sv.obj = true → v = .ref a → F a = none → F' a = none) (h : SvR B F H v sv) : SvR B F' H v sv := by
  cases sv with
  | fz d => exact Rep.mono m h
  | ow b o => obtain ⟨a, e, f, q⟩ := h; exact ⟨a, e, nf a rfl e f, q.keep m (fun _ h => h)⟩
  | lk o => obtain ⟨a, e, f, q⟩ := h; exact ⟨a, e, nf a rfl e f, q.keep m (fun _ h => h)⟩
  | xn c fs =>
    obtain ⟨a, C, dd, vs, e, g, x, q⟩ := h
    refine ⟨a, C, dd, vs, e, g, x, q.elim .inl fun ⟨e, h1, h2, h3⟩ => .inr ⟨e, h1, m _ _ h2, h3.mono m⟩⟩
  | dd => trivial

/-- what stands at p, in no slot, goes into F -/
theorem Rel.freeze {B : Bas} {F0 H0 F H : Hp} {ρ0 ρ : Env} {σ0 σ : St} {p : Addr} {u : HO} (R : Rel B F ρ σ H) (S : Stp F0 ρ0 σ0 H0 F ρ σ H) (hp : H p = some u) (hf : F p = none) (hn : H0 p = none) (hs : ∀ k, ¬ HasAt ρ σ k p) :
    Rel B (upd F p u) ρ σ H ∧ Stp F0 ρ0 σ0 H0 (upd F p u) ρ σ H := by
  have m : ∀ a o, F a = some o → upd F p u a = some o := fun a o h => by rw [upd_ne (ne_of_none h hf)]; exact h
  refine ⟨⟨fun a o h => ?_, R.len, fun i sv h => ?_, R.sep⟩, ⟨fun a o h => m a o (S.mono a o h), fun a h => ?_, S.keep, S.dom, S.has, S.own, S.lks⟩⟩
  · by_cases e : a = p
    · subst e; rw [upd_same] at h; cases h; exact hp
    · rw [upd_ne e] at h; exact R.ext a o h
  · obtain ⟨v, h1, h2⟩ := R.sl i sv h
    refine ⟨v, h1, h2.mono m fun a ho e f => ?_⟩
    subst e
    rw [upd_ne (fun e => hs i ⟨sv, h, ho, by rw [h1, e]⟩)]; exact f
  · by_cases e : a = p
    · subst e; exact .inr (.inl (.inl hn))
    · rw [upd_ne e] at h; exact S.newF a h
end DL
end
section
/-! D2: expressions as functions of the slots. -/
namespace DL
open PySem PySem.Spec L2

/-- an expression's value: plain data; a new object that nothing else holds; what stands in a slot -/
inductive RV where
  | fz (d : D) | fr (o : OB) | sl (i : Nat)
inductive Out (α : Type) where
  | ok (a : α) (ρ : Env)
  | ex (c : Str) (fs : List (Str × D)) (ρ : Env)
  | no
def Out.bind {α β : Type} (o : Out α) (f : α → Env → Out β) : Out β := match o with
  | .ok a ρ => f a ρ
  | .ex c fs ρ => .ex c fs ρ
  | .no => .no
abbrev ESem := Env → Out RV

def RvR (B : Bas) (F : Hp) (ρ : Env) (σ : St) (H0 H : Hp) (v : V) : RV → Prop
  | .fz d => Rep B F v d
  | .fr o => ∃ a, v = .ref a ∧ H0 a = none ∧ F a = none ∧ RepO B F H a o ∧ ∀ k, ¬ HasAt ρ σ k a
  | .sl i => σ[i]? = some (some v) ∧ ∃ sv, ρ[i]? = some (some sv)
def XR (B : Bas) (F : Hp) (cls : Value) (dd : Option Addr) (c : Str) (fs : List (Str × D)) : Prop :=
  ∃ C, B.mg c = some (.ref C) ∧ cls = .ref C ∧ ((dd = none ∧ fs = []) ∨ ∃ e vs, dd = some e ∧ F e = some (.xd vs) ∧ RepF B F vs fs)
def Live (ρ ρ' : Env) : Prop := ∀ (i : Nat) (sv : SV), ρ[i]? = some (some sv) → ∃ sv', ρ'[i]? = some (some sv')
theorem Live.refl (ρ : Env) : Live ρ ρ := fun _ sv h => ⟨sv, h⟩
theorem Live.trans {a b c : Env} (h : Live a b) (k : Live b c) : Live a c := fun i sv e => let ⟨s1, e1⟩ := h i sv e; k i s1 e1

section
variable {B : Bas} {F F' F0 H H' H0 G0 : Hp} {ρ ρ' ρ0 : Env} {σ σ0 : St} {v : V} {rv : RV}
theorem RvR.next (S : Stp F ρ σ H F' ρ' σ H') (l : Live ρ ρ') (h : RvR B F ρ σ H0 H v rv) : RvR B F' ρ' σ H0 H' v rv := by
  cases rv with
  | fz d => exact Rep.mono S.mono h
  | sl i => obtain ⟨h1, sv, h2⟩ := h; exact ⟨h1, l i sv h2⟩
  | fr o =>
    obtain ⟨a, e, h0, hf, ho, hh⟩ := h
    obtain ⟨u, hu⟩ := ho.some
    have no : ∀ k, ¬ OwnAt ρ σ k a := fun k q => hh k q.has
    refine ⟨a, e, h0, ?_, ho.keep S.mono fun o q => S.keep a o q no, fun k q => ?_⟩
    · cases q : F' a with
      | none => rfl
      | some z =>
        rcases S.newF a (by rw [q]; exact fun z => nomatch z) with q | q | ⟨k, q⟩
        · exact absurd hf q
        · exact absurd q ho.noT
        · exact absurd q (no k)
    · rcases S.has k a q with q | q
      · rw [hu] at q; cases q
      · exact hh k q
theorem RvR.base (g : ∀ a, H0 a = none → G0 a = none) (h : RvR B F ρ σ H0 H v rv) : RvR B F ρ σ G0 H v rv := by
  cases rv with
  | fz d => exact h
  | sl i => exact h
  | fr o => obtain ⟨a, e, h0, r⟩ := h; exact ⟨a, e, g a h0, r⟩
end

/-! ### reading -/
def OB.d : OB → Option D
  | .lst ds => some (.lst ds)
  | .ob _ _ => none
  | .dK ds => some (.dK ds)
  | .dT ds => some (.dT ds)
def rd (ρ : Env) : RV → Option D
  | .fz d => some d
  | .fr o => o.d
  | .sl i => match ρ[i]? with
    | some (some (.fz d)) => some d
    | some (some (.ow _ o)) => o.d
    | some (some (.lk o)) => o.d
    | _ => none
def RdR (B : Bas) (F H : Hp) (v : V) (d : D) : Prop := Rep B F v d ∨ ∃ a o, v = .ref a ∧ o.d = some d ∧ RepO B F H a o
theorem rdO {B : Bas} {F H : Hp} {a : Addr} {o : OB} {d : D} (h : RepO B F H a o) (e : o.d = some d) : RdR B F H (.ref a) d := .inr ⟨a, o, rfl, e, h⟩
/-- an own thing as plain data -/
theorem repO_d {B : Bas} {F H : Hp} {a : Addr} {o : OB} {d : D} (h : RepO B F H a o) (e : o.d = some d) : ∃ u, H a = some u ∧ ∀ F', (∀ c o, F c = some o → F' c = some o) → F' a = some u → Rep B F' (.ref a) d := by
  cases o with
  | lst ds => obtain ⟨xs, h1, h2⟩ := h; cases e; exact ⟨_, h1, fun F' m q => .lst q (h2.mono m)⟩
  | ob c fs => cases e
  | dK ds => obtain ⟨xs, h1, h2⟩ := h; cases e; exact ⟨_, h1, fun F' m q => .dK q (h2.mono m)⟩
  | dT ds => obtain ⟨xs, h1, h2⟩ := h; cases e; exact ⟨_, h1, fun F' m q => .dT q (h2.mono m)⟩
section
variable {B : Bas} {F F' F0 H H' H0 G0 : Hp} {ρ ρ' ρ0 : Env} {σ σ0 : St} {v : V} {rv : RV} {d : D}
theorem rd_ok (R : Rel B F ρ σ H) (h : RvR B F ρ σ H0 H v rv) (e : rd ρ rv = some d) : RdR B F H v d := by
  cases rv with
  | fz d' => cases e; exact .inl h
  | fr o => obtain ⟨a, rfl, _, _, ho, _⟩ := h; exact rdO ho e
  | sl i =>
    obtain ⟨h1, sv, h2⟩ := h
    obtain ⟨v', h3, h4⟩ := R.sl i sv h2
    rw [h1] at h3; cases h3
    simp only [rd, h2] at e
    cases sv with
    | fz d' => cases e; exact .inl h4
    | ow b o => obtain ⟨a, rfl, _, ho⟩ := h4; exact rdO ho e
    | lk o => obtain ⟨a, rfl, _, ho⟩ := h4; exact rdO ho e
    | xn c fs => cases e
    | dd => cases e

/-! ### into plain data -/
def frz (ρ : Env) : RV → Option (D × Env)
  | .fz d => some (d, ρ)
  | .fr o => o.d.map fun d => (d, ρ)
  | .sl i => match ρ[i]? with
    | some (some (.fz d)) => some (d, ρ)
    | some (some (.ow _ o)) => o.d.map fun d => (d, ρ.set i (some (.fz d)))
    | _ => none
theorem get_set {α : Type} {l : List α} {i j : Nat} {x y : α} (h : (l.set i x)[j]? = some y) : (i = j ∧ y = x) ∨ (i ≠ j ∧ l[j]? = some y) := by
  rw [List.getElem?_set] at h
  by_cases e : i = j
  · rw [if_pos e] at h
    by_cases q : i < l.length
    · rw [if_pos q] at h; cases h; exact .inl ⟨e, rfl⟩
    · rw [if_neg q] at h; cases h
  · rw [if_neg e] at h; exact .inr ⟨e, h⟩
theorem set_get {α : Type} {l : List α} {i j : Nat} {x y : α} (h : l[j]? = some y) : ∃ z, (l.set i x)[j]? = some z := by
  rw [List.getElem?_set]
  by_cases e : i = j
  · subst e
    rw [if_pos rfl, if_pos (List.getElem?_eq_some_iff.mp h).1]
    exact ⟨x, rfl⟩
  · rw [if_neg e]; exact ⟨y, h⟩
theorem live_set {ρ : Env} {i : Nat} {s : SV} : Live ρ (ρ.set i (some s)) := fun j sv h => by
  rw [List.getElem?_set]
  by_cases e : i = j
  · subst e
    rw [if_pos rfl, if_pos (List.getElem?_eq_some_iff.mp h).1]
    exact ⟨s, rfl⟩
  · rw [if_neg e]; exact ⟨sv, h⟩
/-- a slot's own list becomes plain data -/
theorem Rel.frzAt {b : Bool} {o : OB} {i : Nat} (R : Rel B F ρ σ H) (S : Stp F0 ρ0 σ0 H0 F ρ σ H) (h : ρ[i]? = some (some (.ow b o))) (eo : o.d = some d) :
    ∃ F' v, Stp F0 ρ0 σ0 H0 F' (ρ.set i (some (.fz d))) σ H ∧ Rel B F' (ρ.set i (some (.fz d))) σ H ∧ σ[i]? = some (some v) ∧ Rep B F' v d ∧ (∀ a o, F a = some o → F' a = some o) := by
  obtain ⟨v, h1, a, rfl, hf, hro⟩ := R.sl i _ h
  obtain ⟨u, hH, hrep⟩ := repO_d hro eo
  have m : ∀ c o, F c = some o → upd F a u c = some o := fun c o q => by rw [upd_ne (ne_of_none q hf)]; exact q
  have own : OwnAt ρ σ i a := ⟨b, _, h, h1⟩
  have hs : ∀ k c, HasAt (ρ.set i (some (.fz d))) σ k c → HasAt ρ σ k c ∧ i ≠ k := fun k c ⟨sv, q1, q2, q3⟩ => by
    rcases get_set q1 with ⟨_, z⟩ | ⟨z, q⟩
    · injection z with z; subst z; cases q2
    · exact ⟨⟨sv, q, q2, q3⟩, z⟩
  have ho : ∀ (k : Nat) (b : Bool) (o : OB), (ρ.set i (some (.fz d)))[k]? = some (some (.ow b o)) → ρ[k]? = some (some (.ow b o)) ∧ i ≠ k := fun k b o q => by
    rcases get_set q with ⟨_, z⟩ | ⟨z, q⟩
    · cases z
    · exact ⟨q, z⟩
  have hr : Rep B (upd F a u) (.ref a) d := hrep _ m upd_same
  refine ⟨upd F a u, .ref a, ⟨fun c o q => m c o (S.mono c o q), fun c q => ?_, S.keep, S.dom, fun k c q => S.has k c (hs k c q).1, fun k b' o c q1 q2 => S.own k b' o c (ho k b' o q1).1 q2, fun k o c q1 q2 => S.lks k o c (by
      rcases get_set q1 with ⟨_, z⟩ | ⟨_, z⟩
      · cases z
      · exact z) q2⟩,
    ⟨fun c o q => ?_, by rw [List.length_set]; exact R.len, fun j sv q => ?_, fun j k c q1 q2 => ?_⟩, h1, hr, m⟩
  · by_cases e : c = a
    · subst e
      rcases S.ownAt own with z | z
      · exact .inr (.inl (.inl z))
      · exact .inr (.inr ⟨i, z⟩)
    · rw [upd_ne e] at q; exact S.newF c q
  · by_cases e : c = a
    · subst e; rw [upd_same] at q; cases q; exact hH
    · rw [upd_ne e] at q; exact R.ext c o q
  · rcases get_set q with ⟨e, z⟩ | ⟨e, q⟩
    · injection z with z; subst z; subst e; exact ⟨_, h1, hr⟩
    · obtain ⟨v, g1, g2⟩ := R.sl j sv q
      refine ⟨v, g1, g2.mono m fun c hc ev hn => ?_⟩
      subst ev
      rw [upd_ne fun z => e (R.sep i j a own ⟨sv, q, hc, by rw [g1, z]⟩)]
      exact hn
  · obtain ⟨b', o, w1, w2⟩ := q1
    exact R.sep j k c ⟨b', o, (ho j b' o w1).1, w2⟩ (hs k c q2).1
theorem frz_ok (R : Rel B F ρ σ H) (S : Stp F0 ρ0 σ0 H0 F ρ σ H) (h : RvR B F ρ σ H0 H v rv) (e : frz ρ rv = some (d, ρ')) :
    ∃ F', Stp F0 ρ0 σ0 H0 F' ρ' σ H ∧ Live ρ ρ' ∧ Rel B F' ρ' σ H ∧ Rep B F' v d ∧ (∀ a o, F a = some o → F' a = some o) := by
  cases rv with
  | fz d' => cases e; exact ⟨F, S, Live.refl _, R, h, fun _ _ h => h⟩
  | fr o =>
    simp only [frz] at e
    cases eo : o.d with
    | none => rw [eo] at e; cases e
    | some d1 =>
      rw [eo] at e
      cases e
      obtain ⟨a, rfl, h0, hf, hro, hh⟩ := h
      obtain ⟨u, hH, hrep⟩ := repO_d hro eo
      have m : ∀ c o, F c = some o → upd F a u c = some o := fun c o q => by rw [upd_ne (ne_of_none q hf)]; exact q
      obtain ⟨R', S'⟩ := R.freeze S hH hf h0 hh
      exact ⟨_, S', Live.refl _, R', hrep _ m upd_same, m⟩
  | sl i =>
    obtain ⟨h1, sv, h2⟩ := h
    simp only [frz, h2] at e
    cases sv with
    | fz d' =>
      cases e
      obtain ⟨v', h3, h4⟩ := R.sl i _ h2
      rw [h1] at h3; cases h3
      exact ⟨F, S, Live.refl _, R, h4, fun _ _ h => h⟩
    | ow b o =>
      dsimp only at e
      cases eo : o.d with
      | none => rw [eo] at e; cases e
      | some d1 =>
        rw [eo] at e
        cases e
        obtain ⟨F', v', S', R', q1, q2, m⟩ := R.frzAt S h2 eo
        rw [h1] at q1; cases q1
        exact ⟨F', S', live_set, R', q2, m⟩
    | lk o => cases e
    | xn c fs => cases e
    | dd => cases e
end

/-! ### what an expression's reading is to give -/
def PostE (B : Bas) (F : Hp) (ρ : Env) (σ : St) (H : Hp) (rv : RV) (ρ' : Env) (Q : VK) : Prop :=
  ∀ F' H' v, Stp F ρ σ H F' ρ' σ H' → Live ρ ρ' → Rel B F' ρ' σ H' → RvR B F' ρ' σ H H' v rv → Q v H'
def PostX (B : Bas) (F : Hp) (ρ : Env) (σ : St) (H : Hp) (c : Str) (fs : List (Str × D)) (ρ' : Env) (W : WX) : Prop :=
  ∀ F' H' cls dd, Stp F ρ σ H F' ρ' σ H' → Rel B F' ρ' σ H' → XR B F' cls dd c fs → W cls dd σ H'
def PostC (B : Bas) (F : Hp) (ρ : Env) (σ : St) (H : Hp) (b : Bool) (ρ' : Env) (Q : Bool → Hp → Prop) : Prop :=
  ∀ F' H', Stp F ρ σ H F' ρ' σ H' → Live ρ ρ' → Rel B F' ρ' σ H' → Q b H'
def PostL (B : Bas) (F : Hp) (ρ : Env) (σ : St) (H : Hp) (ds : List D) (ρ' : Env) (Q : List V → Hp → Prop) : Prop :=
  ∀ F' H' vs, Stp F ρ σ H F' ρ' σ H' → Live ρ ρ' → Rel B F' ρ' σ H' → RepL B F' vs ds → Q vs H'
/-- an argument: data, or a slot -/
inductive PR (B : Bas) (F : Hp) (ρ : Env) (σ : St) : List V → List RV → Prop
  | nil : PR B F ρ σ [] []
  | fz {v : V} {d : D} {vs : List V} {rs : List RV} : Rep B F v d → PR B F ρ σ vs rs → PR B F ρ σ (v :: vs) (.fz d :: rs)
  | sl {v : V} {i : Nat} {vs : List V} {rs : List RV} {sv : SV} : σ[i]? = some (some v) → ρ[i]? = some (some sv) → PR B F ρ σ vs rs → PR B F ρ σ (v :: vs) (.sl i :: rs)
theorem PR.next {B : Bas} {F F' : Hp} {ρ ρ' : Env} {σ : St} (m : ∀ a o, F a = some o → F' a = some o) (l : Live ρ ρ') : ∀ {vs : List V} {rs : List RV}, PR B F ρ σ vs rs → PR B F' ρ' σ vs rs
  | _, _, .nil => .nil
  | _, _, .fz h r => .fz (h.mono m) (PR.next m l r)
  | _, _, .sl h1 h2 r => let ⟨_, h3⟩ := l _ _ h2; .sl h1 h3 (PR.next m l r)
def PostP (B : Bas) (F : Hp) (ρ : Env) (σ : St) (H : Hp) (rs : List RV) (ρ' : Env) (Q : List V → Hp → Prop) : Prop :=
  ∀ F' H' vs, Stp F ρ σ H F' ρ' σ H' → Live ρ ρ' → Rel B F' ρ' σ H' → PR B F' ρ' σ vs rs → Q vs H'

def Out.OK {α : Type} (o : Out α) (p : α → Env → Prop) (x : Str → List (Str × D) → Env → Prop) : Prop := match o with
  | .ok a ρ => p a ρ
  | .ex c fs ρ => x c fs ρ
  | .no => False
theorem Out.OK_bind {α β : Type} (o : Out α) (f : α → Env → Out β) (p : β → Env → Prop) (x : Str → List (Str × D) → Env → Prop) : (o.bind f).OK p x = o.OK (fun a ρ => (f a ρ).OK p x) x := by cases o <;> rfl
theorem Out.OK.imp {α : Type} {o : Out α} {p p' : α → Env → Prop} {x x' : Str → List (Str × D) → Env → Prop} (h : o.OK p x) (hp : ∀ a ρ, p a ρ → p' a ρ) (hx : ∀ c fs ρ, x c fs ρ → x' c fs ρ) : o.OK p' x' := by
  cases o with
  | ok a ρ => exact hp _ _ h
  | ex c fs ρ => exact hx _ _ _ h
  | no => exact h

def SemG {α β : Type} (B : Bas) (W : WX) (t : St → Hp → β → Prop) (f : Env → Out α) (P : Hp → Env → St → Hp → α → Env → β → Prop) : Prop :=
  ∀ F ρ σ H, Rel B F ρ σ H → ∀ Q : β, (f ρ).OK (fun a ρ' => P F ρ σ H a ρ' Q) (fun c fs ρ' => PostX B F ρ σ H c fs ρ' W) → t σ H Q
/-- the data of a context -/
abbrev bas (X : Cx) (I : Addr → Value → Option Addr → Prop) : Bas := ⟨X.K, X.mg, I⟩
def SE (X : Cx) (I : Addr → Value → Option Addr → Prop) (W : WX) (e : Expr) (f : ESem) : Prop := ∃ t, PE X e t ∧ SemG (bas X I) W t f (PostE (bas X I))
def SC (X : Cx) (I : Addr → Value → Option Addr → Prop) (W : WX) (e : Expr) (f : Env → Out Bool) : Prop := ∃ t, PT X e t ∧ SemG (bas X I) W t f (PostC (bas X I))
def SL (X : Cx) (I : Addr → Value → Option Addr → Prop) (W : WX) (es : List Expr) (f : Env → Out (List D)) : Prop := ∃ t, PA X es t ∧ SemG (bas X I) W t f (PostL (bas X I))
def SA (X : Cx) (I : Addr → Value → Option Addr → Prop) (W : WX) (es : List Expr) (f : Env → Out (List RV)) : Prop := ∃ t, PA X es t ∧ SemG (bas X I) W t f (PostP (bas X I))
theorem PostX.back {B : Bas} {F F1 H H1 : Hp} {ρ ρ1 ρ' : Env} {σ : St} {c : Str} {fs : List (Str × D)} {W : WX} (S : Stp F ρ σ H F1 ρ1 σ H1) (h : PostX B F ρ σ H c fs ρ' W) : PostX B F1 ρ1 σ H1 c fs ρ' W := fun F' H' cls dd S' R' x => h F' H' cls dd (S.trans S') R' x

section
variable {X : Cx} {I : Addr → Value → Option Addr → Prop} {W : WX}
/-! ### names, constants -/
def eN (i : Nat) : ESem := fun ρ => match ρ[i]? with
  | some (some (.fz d)) => .ok (.fz d) ρ
  | some (some (.ow _ _)) => .ok (.sl i) ρ
  | some (some (.lk _)) => .ok (.sl i) ρ
  | _ => .no
theorem se_name {i : Nat} {x : Str} {pos : Pos} (h : PE X (.Name x pos) (tVar i)) : SE X I W (.Name x pos) (eN i) := by
  refine ⟨_, h, fun F ρ σ H R Q h => ?_⟩
  cases e : ρ[i]? with
  | none => simp [eN, e, Out.OK] at h
  | some o =>
    cases o with
    | none => simp [eN, e, Out.OK] at h
    | some sv =>
      obtain ⟨v, h1, h2⟩ := R.sl i sv e
      cases sv with
      | fz d => simp only [eN, e, Out.OK] at h; exact ⟨v, h1, h F H v (Stp.refl _ _ _ _) (Live.refl _) R h2⟩
      | ow b o => simp only [eN, e, Out.OK] at h; exact ⟨v, h1, h F H v (Stp.refl _ _ _ _) (Live.refl _) R ⟨h1, _, e⟩⟩
      | lk o => simp only [eN, e, Out.OK] at h; exact ⟨v, h1, h F H v (Stp.refl _ _ _ _) (Live.refl _) R ⟨h1, _, e⟩⟩
      | xn c fs => simp [eN, e, Out.OK] at h
      | dd => simp [eN, e, Out.OK] at h
def eC (d : D) : ESem := fun ρ => .ok (.fz d) ρ
/-- a constant whose data lean on nothing -/
theorem se_const {e : Expr} {v : V} {d : D} (h : PE X e (tC v)) (r : ∀ F, Rep (bas X I) F v d) : SE X I W e (eC d) :=
  ⟨_, h, fun F ρ σ H R Q h => h F H v (Stp.refl _ _ _ _) (Live.refl _) R (r F)⟩
theorem se_int {i : Int} {j : Nat} {pos : Pos} : SE X I W (.Constant (.int i) j pos) (eC (.int i)) := se_const pe_int fun _ => .int i
theorem se_bl {b : Bool} {j : Nat} {pos : Pos} : SE X I W (.Constant (.bool b) j pos) (eC (.bl b)) := se_const pe_bl fun _ => .bl b
theorem se_non {j : Nat} {pos : Pos} : SE X I W (.Constant .none j pos) (eC .non) := se_const pe_non fun _ => .non
theorem se_str {x : Str} {j : Nat} {pos : Pos} : SE X I W (.Constant (.str x) j pos) (eC (.str x)) := se_const pe_str fun _ => .str x

/-! ### lists of expressions -/
def eF (f : ESem) : Env → Out D := fun ρ => (f ρ).bind fun r ρ1 => match frz ρ1 r with
  | some (d, ρ2) => .ok d ρ2
  | none => .no
def eL : List ESem → Env → Out (List D)
  | [], ρ => .ok [] ρ
  | f :: fs, ρ => (eF f ρ).bind fun d ρ1 => (eL fs ρ1).bind fun ds ρ2 => .ok (d :: ds) ρ2
def PostD (B : Bas) (F : Hp) (ρ : Env) (σ : St) (H : Hp) (d : D) (ρ' : Env) (Q : VK) : Prop :=
  ∀ F' H' v, Stp F ρ σ H F' ρ' σ H' → Live ρ ρ' → Rel B F' ρ' σ H' → Rep B F' v d → Q v H'
theorem SemG.frz {B : Bas} {t : TE} {f : ESem} (h : SemG B W t f (PostE B)) : SemG B W t (eF f) (PostD B) := by
  intro F ρ σ H R Q hq
  refine h F ρ σ H R Q ?_
  rw [eF, Out.OK_bind] at hq
  refine hq.imp (fun r ρ1 q F1 H1 v S1 L1 R1 r1 => ?_) fun c fs ρ1 q => q
  cases e : DL.frz ρ1 r with
  | none => rw [e] at q; exact q.elim
  | some p =>
    obtain ⟨d, ρ2⟩ := p
    rw [e] at q
    obtain ⟨F2, S2, L2, R2, r2, _⟩ := frz_ok R1 S1 r1 e
    exact q F2 H1 v S2 (L1.trans L2) R2 r2
theorem sl_nil : SL X I W [] (eL []) := ⟨_, pa_nil, fun F ρ σ H R Q h => h F H [] (Stp.refl _ _ _ _) (Live.refl _) R .nil⟩
theorem sl_cons {e : Expr} {es : List Expr} {f : ESem} {fs : List ESem} (h : SE X I W e f) (k : SL X I W es (eL fs)) (hs : starEach (e :: es) X.env = (false, eval e X.env) :: starEach es X.env := by rfl) : SL X I W (e :: es) (eL (f :: fs)) := by
  obtain ⟨t, p, m⟩ := h
  obtain ⟨u, q, n⟩ := k
  refine ⟨_, pa_cons p q hs, fun F ρ σ H R Q hq => ?_⟩
  rw [eL, Out.OK_bind] at hq
  refine m.frz F ρ σ H R _ (hq.imp (fun d ρ1 hq F1 H1 v S1 L1 R1 r1 => ?_) fun _ _ _ z => z)
  rw [Out.OK_bind] at hq
  refine n F1 ρ1 σ H1 R1 _ (hq.imp (fun ds ρ2 hq F2 H2 vs S2 L2 R2 r2 => ?_) fun _ _ _ z => z.back S1)
  exact hq F2 H2 (v :: vs) (S1.trans S2) (L1.trans L2) R2 (.cons (r1.mono S2.mono) r2)
def eTup (fs : List ESem) : ESem := fun ρ => (eL fs ρ).bind fun ds ρ1 => if ds.length ≤ sizeLine then .ok (.fz (.tup ds)) ρ1 else .no
def eLst (fs : List ESem) : ESem := fun ρ => (eL fs ρ).bind fun ds ρ1 => if ds.length ≤ sizeLine then .ok (.fr (.lst ds)) ρ1 else .no
theorem nohas {B : Bas} {F H : Hp} {ρ : Env} {σ : St} {p : Addr} (R : Rel B F ρ σ H) (hn : H p = none) (k : Nat) : ¬ HasAt ρ σ k p := fun ⟨sv, q1, q2, q3⟩ => by
  obtain ⟨v, g1, g2⟩ := R.sl k sv q1
  rw [q3] at g1; cases g1
  cases sv with
  | ow b o => obtain ⟨a, e, _, ho⟩ := g2; cases e; obtain ⟨u, hu⟩ := ho.some; rw [hn] at hu; cases hu
  | lk o => obtain ⟨a, e, _, ho⟩ := g2; cases e; obtain ⟨u, hu⟩ := ho.some; rw [hn] at hu; cases hu
  | _ => cases q2
theorem noF {B : Bas} {F H : Hp} {ρ : Env} {σ : St} {p : Addr} (R : Rel B F ρ σ H) (hn : H p = none) : F p = none := by
  cases w : F p with
  | none => rfl
  | some o => rw [R.ext _ _ w] at hn; cases hn
/-- a new list at p, held by nothing -/
theorem newList {B : Bas} {F0 H0 F H : Hp} {ρ0 ρ : Env} {σ0 σ : St} {p : Addr} {xs : List V} {ds : List D} (R : Rel B F ρ σ H) (S : Stp F0 ρ0 σ0 H0 F ρ σ H) (hn : H p = none) (r : RepL B F xs ds) :
    Stp F0 ρ0 σ0 H0 F ρ σ (upd H p (.lst xs)) ∧ Rel B F ρ σ (upd H p (.lst xs)) ∧ RvR B F ρ σ H0 (upd H p (.lst xs)) (.ref p) (.fr (.lst ds)) := by
  obtain ⟨R2, S2⟩ := R.alloc (u := .lst xs) hn
  exact ⟨S.trans S2, R2, p, rfl, S.dom _ hn, noF R hn, ⟨xs, upd_same, r⟩, nohas R hn⟩
/-- a new tuple at p -/
theorem newTup {B : Bas} {F0 H0 F H : Hp} {ρ0 ρ : Env} {σ0 σ : St} {p : Addr} {xs : List V} {ds : List D} (R : Rel B F ρ σ H) (S : Stp F0 ρ0 σ0 H0 F ρ σ H) (hn : H p = none) (r : RepL B F xs ds) :
    Stp F0 ρ0 σ0 H0 (upd F p (.tup xs)) ρ σ (upd H p (.tup xs)) ∧ Rel B (upd F p (.tup xs)) ρ σ (upd H p (.tup xs)) ∧ Rep B (upd F p (.tup xs)) (.ref p) (.tup ds) := by
  obtain ⟨R2, S2⟩ := R.alloc (u := .tup xs) hn
  have hf := noF R hn
  obtain ⟨R3, S3⟩ := R2.freeze (S.trans S2) upd_same hf (S.dom _ hn) (nohas R hn)
  exact ⟨S3, R3, .tup upd_same (r.mono fun a o g => by rw [upd_ne (ne_of_none g hf)]; exact g)⟩
theorem se_tup {es : List Expr} {fs : List ESem} {x1 : Nat} {pos : Pos} (h : SL X I W es (eL fs)) : SE X I W (.Tuple es x1 pos) (eTup fs) := by
  obtain ⟨t, p, m⟩ := h
  refine ⟨_, pe_tup p, fun F ρ σ H R Q hq => ?_⟩
  rw [eTup, Out.OK_bind] at hq
  refine m F ρ σ H R _ (hq.imp (fun ds ρ1 hq F1 H1 vs S1 L1 R1 r1 => ?_) fun _ _ _ z => z)
  by_cases z : ds.length ≤ sizeLine
  · rw [if_pos z] at hq
    refine ⟨by rw [r1.length]; exact z, fun q hn => ?_⟩
    obtain ⟨S3, R3, r3⟩ := newTup R1 S1 hn r1
    exact hq _ _ _ S3 L1 R3 r3
  · rw [if_neg z] at hq; exact hq.elim
theorem se_lst {es : List Expr} {fs : List ESem} {pos : Pos} (h : SL X I W es (eL fs)) : SE X I W (.List es pos) (eLst fs) := by
  obtain ⟨t, p, m⟩ := h
  refine ⟨_, pe_lst p, fun F ρ σ H R Q hq => ?_⟩
  rw [eLst, Out.OK_bind] at hq
  refine m F ρ σ H R _ (hq.imp (fun ds ρ1 hq F1 H1 vs S1 L1 R1 r1 => ?_) fun _ _ _ z => z)
  by_cases z : ds.length ≤ sizeLine
  · rw [if_pos z] at hq
    refine ⟨by rw [r1.length]; exact z, fun q hn => ?_⟩
    obtain ⟨S2, R2, v2⟩ := newList R1 S1 hn r1
    exact hq _ _ _ S2 L1 R2 v2
  · rw [if_neg z] at hq; exact hq.elim
end
end DL
end
section
/-! D3: operators over plain data. -/
namespace DL
open PySem PySem.Spec L2

/-! ### data without objects, for == -/
mutual
def D.pd : D → Option PyData
  | .non => some .none
  | .bl b => some (.bool b)
  | .int i => some (.int i)
  | .str x => some (.str x)
  | .tup xs => (pdL xs).map .tuple
  | .lst xs => (pdL xs).map .list
  | .scr _ => none
  | .ins _ _ => none
  | .dK _ => none
  | .dT _ => none
  | .ktp xs => some (.tuple (xs.map PyData.str))
def pdL : List D → Option (List PyData)
  | [] => some []
  | x :: xs => match x.pd, pdL xs with
    | some a, some b => some (a :: b)
    | _, _ => none
end
theorem dpStrs {K : PySem.W.Frag} {H : Hp} : ∀ xs : List Str, DpAll K H (xs.map V.str) (xs.map PyData.str)
  | [] => .nil
  | x :: r => .cons (.str x) (dpStrs r)
mutual
theorem Rep.dp {B : Bas} {F H : Hp} (m : ∀ a o, F a = some o → H a = some o) : ∀ {v : V} {d : D} {p : PyData}, Rep B F v d → d.pd = some p → Dp B.K H v p
  | _, _, _, .non, e => by simp only [D.pd] at e; cases e; exact .non
  | _, _, _, .bl b, e => by simp only [D.pd] at e; cases e; exact .bl b
  | _, _, _, .int i, e => by simp only [D.pd] at e; cases e; exact .int i
  | _, _, _, .str x, e => by simp only [D.pd] at e; cases e; exact .str x
  | _, .tup ds, _, .tup h l, e => by
    simp only [D.pd] at e
    cases q : pdL ds with
    | none => rw [q] at e; cases e
    | some ps => rw [q] at e; cases e; exact .tup (tq (m _ _ h)) (l.dp m q)
  | _, .lst ds, _, .lst h l, e => by
    simp only [D.pd] at e
    cases q : pdL ds with
    | none => rw [q] at e; cases e
    | some ps => rw [q] at e; cases e; exact .lst (SqL.of (m _ _ h)) (l.dp m q)
  | _, _, _, .scr _, e => by simp only [D.pd] at e; cases e
  | _, _, _, .ins _ _ _ _, e => by simp only [D.pd] at e; cases e
  | _, _, _, .ktp h, e => by simp only [D.pd] at e; cases e; exact .tup (.inr h) (dpStrs _)
theorem RepL.dp {B : Bas} {F H : Hp} (m : ∀ a o, F a = some o → H a = some o) : ∀ {v : List V} {d : List D} {p : List PyData}, RepL B F v d → pdL d = some p → DpAll B.K H v p
  | _, _, _, .nil, e => by simp only [pdL] at e; cases e; exact .nil
  | _, d :: ds, _, .cons h l, e => by
    simp only [pdL] at e
    cases q : d.pd with
    | none => rw [q] at e; cases e
    | some a =>
      cases q2 : pdL ds with
      | none => rw [q, q2] at e; cases e
      | some b => rw [q, q2] at e; cases e; exact .cons (h.dp m q) (l.dp m q2)
end
theorem RdR.dp {B : Bas} {F H : Hp} (m : ∀ a o, F a = some o → H a = some o) {v : V} {d : D} {p : PyData} (h : RdR B F H v d) (e : d.pd = some p) : Dp B.K H v p := by
  rcases h with h | ⟨a, o, rfl, eo, h1⟩
  · exact h.dp m e
  · cases o with
    | lst ds =>
      cases eo
      obtain ⟨xs, h1, h2⟩ := h1
      simp only [D.pd] at e
      cases q : pdL ds with
      | none => rw [q] at e; cases e
      | some ps => rw [q] at e; cases e; exact .lst (SqL.of h1) (h2.dp m q)
    | ob c fs => cases eo
    | dK ds => cases eo; cases e
    | dT ds => cases eo; cases e

/-! ### what is read -/
section
variable {B : Bas} {F H : Hp} {v : V}
theorem RdR.int {i : Int} (h : RdR B F H v (.int i)) : v = .int i := by
  rcases h with h | ⟨a, o, rfl, e, _⟩
  · cases h; rfl
  · cases o <;> cases e
theorem RdR.str {i : Str} (h : RdR B F H v (.str i)) : v = .str i := by
  rcases h with h | ⟨a, o, rfl, e, _⟩
  · cases h; rfl
  · cases o <;> cases e
theorem RdR.bl {i : Bool} (h : RdR B F H v (.bl i)) : v = .bl i := by
  rcases h with h | ⟨a, o, rfl, e, _⟩
  · cases h; rfl
  · cases o <;> cases e
theorem RdR.non (h : RdR B F H v .non) : v = .non := by
  rcases h with h | ⟨a, o, rfl, e, _⟩
  · cases h; rfl
  · cases o <;> cases e
theorem RdR.tup {ds : List D} (h : RdR B F H v (.tup ds)) : ∃ a xs, v = .ref a ∧ F a = some (.tup xs) ∧ RepL B F xs ds := by
  rcases h with h | ⟨a, o, rfl, e, _⟩
  · cases h with
    | tup h l => exact ⟨_, _, rfl, h, l⟩
  · cases o <;> cases e
theorem RdR.lst {ds : List D} (m : ∀ a o, F a = some o → H a = some o) (h : RdR B F H v (.lst ds)) : ∃ a xs, v = .ref a ∧ H a = some (.lst xs) ∧ RepL B F xs ds := by
  rcases h with h | ⟨a, o, rfl, e, h1⟩
  · cases h with
    | lst h l => exact ⟨_, _, rfl, m _ _ h, l⟩
  · cases o with
    | lst ds => cases e; obtain ⟨xs, h1, h2⟩ := h1; exact ⟨_, _, rfl, h1, h2⟩
    | _ => cases e
theorem RdR.dT {ds : List (List L2.Key × D)} (m : ∀ a o, F a = some o → H a = some o) (h : RdR B F H v (.dT ds)) : ∃ a xs, v = .ref a ∧ H a = some (.dT xs) ∧ RepT B F xs ds := by
  rcases h with h | ⟨a, o, rfl, e, h1⟩
  · cases h with
    | dT h l => exact ⟨_, _, rfl, m _ _ h, l⟩
  · cases o with
    | dT ds => cases e; obtain ⟨xs, h1, h2⟩ := h1; exact ⟨_, _, rfl, h1, h2⟩
    | _ => cases e
theorem RdR.dK {ds : List (L2.Key × D)} (m : ∀ a o, F a = some o → H a = some o) (h : RdR B F H v (.dK ds)) : ∃ a xs, v = .ref a ∧ H a = some (.dK xs) ∧ RepK B F xs ds := by
  rcases h with h | ⟨a, o, rfl, e, h1⟩
  · cases h with
    | dK h l => exact ⟨_, _, rfl, m _ _ h, l⟩
  · cases o with
    | dK ds => cases e; obtain ⟨xs, h1, h2⟩ := h1; exact ⟨_, _, rfl, h1, h2⟩
    | _ => cases e
theorem RdR.scr {ns : List Int} (h : RdR B F H v (.scr ns)) : ∃ a, v = .ref a ∧ SqL B.K F a (ns.map V.int) := by
  rcases h with h | ⟨a, o, rfl, e, _⟩
  · cases h with
    | scr h => exact ⟨_, rfl, h⟩
  · cases o <;> cases e
/-- one thing or the other is None -/
theorem RdR.isNon {d : D} (h : RdR B F H v d) : decide (v = .non) = (match d with | .non => true | _ => false) := by
  rcases h with h | ⟨a, o, rfl, e, _⟩
  · cases h <;> simp
  · cases o <;> cases e <;> simp
end

/-! ### operators of two places -/
def OpS (B : Bas) (r : R2) (g : D → D → Option RV) : Prop := ∀ F ρ σ H v u x y rv, Rel B F ρ σ H → RdR B F H v x → RdR B F H u y → g x y = some rv → ∀ Q : VK,
  (∀ F' H' w, Stp F ρ σ H F' ρ σ H' → Rel B F' ρ σ H' → RvR B F' ρ σ H H' w rv → Q w H') → r v u H Q
def orO (g g' : D → D → Option RV) : D → D → Option RV := fun x y => match g x y with | some r => some r | none => g' x y
theorem OpS.or {B : Bas} {r r' : R2} {g g' : D → D → Option RV} (h : OpS B r g) (h' : OpS B r' g') : OpS B (fun x y H Q => r x y H Q ∨ r' x y H Q) (orO g g') := by
  intro F ρ σ H v u x y rv R hv hu e Q q
  unfold orO at e
  cases z : g x y with
  | some r0 => rw [z] at e; cases e; exact .inl (h F ρ σ H v u x y _ R hv hu z Q q)
  | none => rw [z] at e; exact .inr (h' F ρ σ H v u x y _ R hv hu e Q q)
def eOp (g : D → D → Option RV) (fa fb : ESem) : ESem := fun ρ => (fa ρ).bind fun ra ρ1 => (fb ρ1).bind fun rb ρ2 => match rd ρ2 ra, rd ρ2 rb with
  | some x, some y => (match g x y with | some r => .ok r ρ2 | none => .no)
  | _, _ => .no
section
variable {X : Cx} {I : Addr → Value → Option Addr → Prop} {W : WX} {a b : Expr} {fa fb : ESem} {pos : Pos}
theorem sem_op {B : Bas} {r : R2} {g : D → D → Option RV} {ta tb : TE} (hg : OpS B r g) (ma : SemG B W ta fa (PostE B)) (mb : SemG B W tb fb (PostE B)) : SemG B W (tOp r ta tb) (eOp g fa fb) (PostE B) := by
  intro F ρ σ H R Q hq
  rw [eOp, Out.OK_bind] at hq
  refine ma F ρ σ H R _ (hq.imp (fun ra ρ1 hq F1 H1 v S1 L1 R1 r1 => ?_) fun _ _ _ z => z)
  rw [Out.OK_bind] at hq
  refine mb F1 ρ1 σ H1 R1 _ (hq.imp (fun rb ρ2 hq F2 H2 u S2 L2 R2 r2 => ?_) fun _ _ _ z => z.back S1)
  cases ea : rd ρ2 ra with
  | none => rw [ea] at hq; exact hq.elim
  | some x =>
    cases eb : rd ρ2 rb with
    | none => rw [ea, eb] at hq; exact hq.elim
    | some y =>
      rw [ea, eb] at hq
      cases eg : g x y with
      | none => simp only [eg] at hq; exact hq.elim
      | some r0 =>
        simp only [eg] at hq
        refine hg F2 ρ2 σ H2 v u x y r0 R2 (rd_ok R2 (r1.next S2 L2) ea) (rd_ok R2 r2 eb) eg Q fun F' H' w S' R' r' => ?_
        exact hq F' H' w (S1.trans (S2.trans S')) (L1.trans L2) R' (r'.base fun a h => S1.dom a (S2.dom a h))
theorem se_op {op : Operator} {r : R2} {g : D → D → Option RV} (ho : OpR X (binaryOp op) r) (hg : OpS (bas X I) r g) (h : SE X I W a fa) (k : SE X I W b fb) : SE X I W (.BinOp a op b pos) (eOp g fa fb) := by
  obtain ⟨t, p, m⟩ := h
  obtain ⟨u, q, n⟩ := k
  exact ⟨_, pe_op ho p q, sem_op hg m n⟩
theorem se_cmp {op : CmpOp} {r : R2} {g : D → D → Option RV} (ho : OpR X (compareOp op) r) (hg : OpS (bas X I) r g) (h : SE X I W a fa) (k : SE X I W b fb) (hm : behindInMarks op b = false := by first | exact nobehind _ (by decide) (by decide) | rfl) :
    SE X I W (.Compare a [op] [b] pos) (eOp g fa fb) := by
  obtain ⟨t, p, m⟩ := h
  obtain ⟨u, q, n⟩ := k
  exact ⟨_, pe_cmpR ho p q hm, sem_op hg m n⟩
/-- a truth value out of an expression that gives one -/
def cB (f : ESem) : Env → Out Bool := fun ρ => (f ρ).bind fun r ρ1 => match r with
  | .fz (.bl b) => .ok b ρ1
  | _ => .no
theorem sem_cB {B : Bas} {t : TE} {f : ESem} (m : SemG B W t f (PostE B)) : SemG B W (tTest t) (cB f) (PostC B) := by
  intro F ρ σ H R Q hq
  rw [cB, Out.OK_bind] at hq
  refine m F ρ σ H R _ (hq.imp (fun ra ρ1 hq F1 H1 v S1 L1 R1 r1 => ?_) fun _ _ _ z => z)
  cases ra with
  | fz d =>
    cases d with
    | bl b => cases r1; exact ⟨b, rfl, hq F1 H1 S1 L1 R1⟩
    | _ => exact hq.elim
  | _ => exact hq.elim
theorem sc_cmp {op : CmpOp} {r : R2} {g : D → D → Option RV} (ho : OpR X (compareOp op) r) (hg : OpS (bas X I) r g) (h : SE X I W a fa) (k : SE X I W b fb) (hm : behindInMarks op b = false := by first | exact nobehind _ (by decide) (by decide) | rfl) :
    SC X I W (.Compare a [op] [b] pos) (cB (eOp g fa fb)) := by
  obtain ⟨t, p, m⟩ := h
  obtain ⟨u, q, n⟩ := k
  exact ⟨_, pt_cmpR ho p q hm, sem_cB (sem_op hg m n)⟩
end

/-! ### the operators -/
def ret1 {B : Bas} {F H : Hp} {ρ : Env} {σ : St} (R : Rel B F ρ σ H) {w : V} {rv : RV} {Q : VK} (q : ∀ F' H' w, Stp F ρ σ H F' ρ σ H' → Rel B F' ρ σ H' → RvR B F' ρ σ H H' w rv → Q w H') (h : RvR B F ρ σ H H w rv) : Q w H := q F H w (Stp.refl _ _ _ _) R h
section
variable {B : Bas}
def gI0 (k : Int → Int → D) : D → D → Option RV
  | .int i, .int j => some (.fz (k i j))
  | _, _ => none
theorem ops_I0 {k : Int → Int → V} {k' : Int → Int → D} (hk : ∀ F i j, Rep B F (k i j) (k' i j)) : OpS B (rI0 k) (gI0 k') := by
  intro F ρ σ H v u x y rv R hv hu e Q q
  cases x <;> cases y <;> simp only [gI0] at e <;> cases e
  rename_i i j
  exact ⟨i, j, hv.int, hu.int, ret1 R q (hk F i j)⟩
def gI (c : Int → Int → Bool) (k : Int → Int → D) : D → D → Option RV
  | .int i, .int j => if c i j then some (.fz (k i j)) else none
  | _, _ => none
theorem ops_I {C : Int → Int → Prop} {c : Int → Int → Bool} {k : Int → Int → V} {k' : Int → Int → D} (hc : ∀ i j, c i j = true → C i j) (hk : ∀ F i j, Rep B F (k i j) (k' i j)) : OpS B (rI C k) (gI c k') := by
  intro F ρ σ H v u x y rv R hv hu e Q q
  cases x <;> cases y <;> simp only [gI] at e <;> try cases e
  rename_i i j
  cases z : c i j with
  | false => rw [z] at e; cases e
  | true => rw [z] at e; cases e; exact ⟨i, j, hv.int, hu.int, hc i j z, ret1 R q (hk F i j)⟩
end
end DL
end
section
/-! D4: the operators, one by one. -/
namespace DL
open PySem PySem.Spec L2

section
variable {B : Bas}
/-! ### + -/
def addD : D → D → Option RV
  | .int i, .int j => some (.fz (.int (i + j)))
  | .str a, .str b => if a.length + b.length ≤ sizeLine then some (.fz (.str (a ++ b))) else none
  | .lst a, .lst b => if a.length + b.length ≤ sizeLine then some (.fr (.lst (a ++ b))) else none
  | .tup a, .tup b => if a.length + b.length ≤ sizeLine then some (.fz (.tup (a ++ b))) else none
  | _, _ => none
def rAddA (K : PySem.W.Frag) : R2 := fun x y H Q => rI0 (fun i j => .int (i + j)) x y H Q ∨ (∃ i j, x = .str i ∧ y = .str j ∧ i.length + j.length ≤ sizeLine ∧ Q (.str (i ++ j)) H) ∨ rCat x y H Q ∨ rCatA K x y H Q
theorem op_addA {X : Cx} : OpR X (binaryOp .Add) (rAddA X.K) := op_add.or (op_add_str.or (op_cat.or op_catA))
theorem ops_add : OpS B (rAddA B.K) addD := by
  intro F ρ σ H v u x y rv R hv hu e Q q
  cases x <;> cases y <;> simp only [addD] at e <;> try cases e
  · exact .inl ⟨_, _, hv.int, hu.int, ret1 R q (.int _)⟩
  · rename_i a b
    split at e
    · rename_i z; cases e; exact .inr (.inl ⟨a, b, hv.str, hu.str, z, ret1 R q (.str _)⟩)
    · cases e
  · rename_i a b
    split at e
    · rename_i z
      cases e
      obtain ⟨p, xs, rfl, h1, l1⟩ := hv.tup
      obtain ⟨p', ys, rfl, h2, l2⟩ := hu.tup
      refine .inr (.inr (.inr ⟨p, p', xs, ys, rfl, rfl, tq (R.ext _ _ h1), tq (R.ext _ _ h2), by rw [l1.length, l2.length]; exact z, fun w => ?_, fun _ w => ?_, fun _ _ r hn => ?_⟩))
      · subst w; cases l1; exact ret1 R q (.tup h2 l2)
      · subst w; cases l2; rw [List.append_nil] at q; exact ret1 R q (.tup h1 l1)
      · obtain ⟨S, R', r'⟩ := newTup R (Stp.refl _ _ _ _) hn (l1.append l2)
        exact q _ _ _ S R' r'
    · cases e
  · rename_i a b
    split at e
    · rename_i z
      cases e
      obtain ⟨p, xs, rfl, h1, l1⟩ := hv.lst R.ext
      obtain ⟨p', ys, rfl, h2, l2⟩ := hu.lst R.ext
      refine .inr (.inr (.inl ⟨p, p', xs, ys, rfl, rfl, h1, h2, by rw [l1.length, l2.length]; exact z, fun r hn => ?_⟩))
      obtain ⟨S, R', r'⟩ := newList R (Stp.refl _ _ _ _) hn (l1.append l2)
      exact q _ _ _ S R' r'
    · cases e
/-! ### -, *, //, %, ** -/
def subD : D → D → Option RV := gI0 fun i j => .int (i - j)
theorem ops_sub : OpS B (rI0 fun i j => .int (i - j)) subD := ops_I0 fun _ _ _ => .int _
def divD : D → D → Option RV := gI (fun _ j => decide (0 < j) && decide (j < 1073741824)) fun i j => .int (i / j)
theorem ops_div : OpS B (rI CDiv fun i j => .int (i / j)) divD := ops_I (fun i j h => by simpa [CDiv] using h) fun _ _ _ => .int _
def modD : D → D → Option RV := gI (fun _ j => decide (0 < j)) fun i j => .int (i % j)
theorem ops_mod : OpS B (rI (fun _ j => 0 < j) fun i j => .int (i % j)) modD := ops_I (fun i j h => by simpa using h) fun _ _ _ => .int _
def powD : D → D → Option RV := gI (fun i j => decide (0 ≤ j) && (decide (j ≤ 1000000) && decide (i.natAbs < 2 ^ 64))) fun i j => .int (i ^ j.toNat)
theorem ops_pow : OpS B (rI CPow fun i j => .int (i ^ j.toNat)) powD := ops_I (fun i j h => by simpa [CPow] using h) fun _ _ _ => .int _
def mulD : D → D → Option RV
  | .int i, .int j => if i.natAbs.log2 + j.natAbs.log2 < 1000000 then some (.fz (.int (i * j))) else none
  | .lst a, .int k => if -(2 ^ 63) ≤ k ∧ k < 2 ^ 63 ∧ a.length * k.toNat ≤ sizeLine then some (.fr (.lst (List.replicate k.toNat a).flatten)) else none
  | _, _ => none
def rMulA : R2 := fun x y H Q => rI CMulW (fun i j => .int (i * j)) x y H Q ∨ rRep x y H Q
theorem op_mulA {X : Cx} : OpR X (binaryOp .Mult) rMulA := op_mulW.or op_rep
theorem RepL.rep {F : Hp} {vs : List V} {ds : List D} (h : RepL B F vs ds) : ∀ k : Nat, RepL B F (List.replicate k vs).flatten (List.replicate k ds).flatten
  | 0 => .nil
  | k + 1 => by simp only [List.replicate_succ, List.flatten_cons]; exact h.append (RepL.rep h k)
theorem ops_mul : OpS B rMulA mulD := by
  intro F ρ σ H v u x y rv R hv hu e Q q
  cases x <;> cases y <;> simp only [mulD] at e <;> try cases e
  · split at e
    · rename_i z; cases e; exact .inl ⟨_, _, hv.int, hu.int, z, ret1 R q (.int _)⟩
    · cases e
  · split at e
    · rename_i z
      cases e
      obtain ⟨p, xs, rfl, h1, l1⟩ := hv.lst R.ext
      refine .inr ⟨p, _, xs, rfl, hu.int, h1, z.1, z.2.1, by rw [l1.length]; exact z.2.2, fun r hn => ?_⟩
      obtain ⟨S, R', r'⟩ := newList R (Stp.refl _ _ _ _) hn (l1.rep _)
      exact q _ _ _ S R' r'
    · cases e
/-! ### orders of ints -/
def cmpD (p : Int → Int → Bool) : D → D → Option RV := gI0 fun i j => .bl (p i j)
theorem ops_cmp {p : Int → Int → Bool} : OpS B (rI0 fun i j => .bl (p i j)) (cmpD p) := ops_I0 fun _ _ _ => .bl _
abbrev ltD := cmpD fun i j => decide (i < j)
abbrev leD := cmpD fun i j => decide (i ≤ j)
abbrev gtD := cmpD fun i j => decide (j < i)
abbrev geD := cmpD fun i j => decide (j ≤ i)
/-! ### ==, != of data -/
def deq (x y : D) : Option Bool := match x.pd, y.pd with
  | some a, some b => if SeqAt.shaped a && SeqAt.shaped b then some (PyData.eqv a b) else none
  | _, _ => none
theorem deq_dp {F H : Hp} {v u : V} {x y : D} {b : Bool} (m : ∀ a o, F a = some o → H a = some o) (hv : RdR B F H v x) (hu : RdR B F H u y) (e : deq x y = some b) :
    ∃ d f, Dp B.K H v d ∧ Dp B.K H u f ∧ SeqAt.shaped d = true ∧ SeqAt.shaped f = true ∧ PyData.eqv d f = b := by
  unfold deq at e
  cases ex : x.pd with
  | none => rw [ex] at e; cases e
  | some d =>
    cases ey : y.pd with
    | none => rw [ex, ey] at e; cases e
    | some f =>
      rw [ex, ey] at e
      dsimp only at e
      split at e
      · rename_i z
        rw [Bool.and_eq_true] at z
        cases e
        exact ⟨d, f, hv.dp m ex, hu.dp m ey, z.1, z.2, rfl⟩
      · cases e
def eqD (x y : D) : Option RV := match x, y with
  | .str a, .str b => some (.fz (.bl (decide (a = b))))
  | x, y => (deq x y).map fun b => .fz (.bl b)
def neD (x y : D) : Option RV := match x, y with
  | .str a, .str b => some (.fz (.bl (!decide (a = b))))
  | x, y => (deq x y).map fun b => .fz (.bl (!b))
def rEqA (K : PySem.W.Frag) : R2 := fun x y H Q => rEq x y H Q ∨ rEqD K x y H Q
def rNeA (K : PySem.W.Frag) : R2 := fun x y H Q => rNe x y H Q ∨ rNeD K x y H Q
theorem op_eqA {X : Cx} (hu : X.A.units + 64 < cLine) : OpR X (compareOp .Eq) (rEqA X.K) := op_eq.or (op_eqD hu)
theorem op_neA {X : Cx} (hu : X.A.units + 64 < cLine) : OpR X (compareOp .NotEq) (rNeA X.K) := op_ne.or (op_neD hu)
theorem dec_strV {a b : Str} : decide (V.str a = V.str b) = decide (a = b) := by
  by_cases h : a = b
  · subst h; simp
  · rw [decide_eq_false h, decide_eq_false (fun e => h (by injection e))]
theorem ops_eq : OpS B (rEqA B.K) eqD := by
  intro F ρ σ H v u x y rv R hv hu e Q q
  unfold eqD at e
  split at e
  · cases e
    refine .inl ?_
    rw [hv.str, hu.str]
    refine ⟨rfl, ?_⟩
    rw [dec_strV]
    exact ret1 R q (.bl _)
  · cases z : deq x y with
    | none => rw [z] at e; cases e
    | some b =>
      rw [z] at e; cases e
      obtain ⟨d, f, h1, h2, s1, s2, rfl⟩ := deq_dp R.ext hv hu z
      exact .inr ⟨d, f, h1, h2, s1, s2, ret1 R q (.bl _)⟩
theorem ops_ne : OpS B (rNeA B.K) neD := by
  intro F ρ σ H v u x y rv R hv hu e Q q
  unfold neD at e
  split at e
  · cases e
    refine .inl ?_
    rw [hv.str, hu.str]
    refine ⟨rfl, ?_⟩
    rw [dec_strV]
    exact ret1 R q (.bl _)
  · cases z : deq x y with
    | none => rw [z] at e; cases e
    | some b =>
      rw [z] at e; cases e
      obtain ⟨d, f, h1, h2, s1, s2, rfl⟩ := deq_dp R.ext hv hu z
      exact .inr ⟨d, f, h1, h2, s1, s2, ret1 R q (.bl _)⟩
/-! ### is None -/
def D.isNon : D → Bool
  | .non => true
  | _ => false
def isD : D → D → Option RV
  | x, .non => some (.fz (.bl x.isNon))
  | _, _ => none
def isntD : D → D → Option RV
  | x, .non => some (.fz (.bl (!x.isNon)))
  | _, _ => none
theorem RdR.isN {F H : Hp} {v : V} {d : D} (h : RdR B F H v d) : decide (v = .non) = d.isNon := by
  rcases h with h | ⟨a, o, rfl, e, _⟩
  · cases h <;> simp [D.isNon]
  · cases o <;> cases e <;> simp [D.isNon]
theorem ops_is : OpS B (fun x y H Q => y = .non ∧ Q (.bl (decide (x = .non))) H) isD := by
  intro F ρ σ H v u x y rv R hv hu e Q q
  cases y <;> simp only [isD] at e <;> cases e
  refine ⟨hu.non, ?_⟩
  rw [hv.isN]
  exact ret1 R q (.bl _)
theorem ops_isnt : OpS B (fun x y H Q => y = .non ∧ Q (.bl (!decide (x = .non))) H) isntD := by
  intro F ρ σ H v u x y rv R hv hu e Q q
  cases y <;> simp only [isntD] at e <;> cases e
  refine ⟨hu.non, ?_⟩
  rw [hv.isN]
  exact ret1 R q (.bl _)
/-! ### in, not in -/
end
section
variable {X : Cx}
def rInTD (K : PySem.W.Frag) (n : Bool) : R2 := fun x y H Q => ∃ d ds, Dp K H x d ∧ Dp K H y (.tuple ds) ∧ SeqAt.shaped d = true ∧ SeqAt.shaped (.tuple ds) = true ∧ Q (.bl (if n then !ds.any fun z => PyData.eqv z d else ds.any fun z => PyData.eqv z d)) H
theorem canAll_of_tuple {ds : List PyData} (h : SeqAt.shaped (.tuple ds) = true) : PyData.canLayAll0 ds = true := by
  have := SeqAt.canLay_of_shaped h
  simpa only [PyData.canLay0] using this
theorem room_inT {d : PyData} {ds : List PyData} {u : Nat} (h : SeqAt.shaped d = true) (hu : u + 65 < cLine) : u + 1 + min (PyData.depthAll ds) d.depth < cLine := by
  have h1 := SeqAt.depth_of_shaped h
  have h2 : min (PyData.depthAll ds) d.depth ≤ d.depth := Nat.min_le_right _ _
  omega
theorem op_inTD (hu : X.A.units + 65 < cLine) : OpR X (compareOp .In) (rInTD X.K false) := by
  intro pins s σ H x y v u Q I rx ry h
  obtain ⟨d, ds, hd, he, sd, se, q⟩ := h
  obtain ⟨as, r1⟩ := Dp.reads I d x v hd rx
  obtain ⟨bs, r2⟩ := Dp.reads I (.tuple ds) y u he ry
  exact SeqAt.in_tuple_reads r2 r1 (canAll_of_tuple se) (SeqAt.canLay_of_shaped sd) (room_inT sd hu) ⟨.bl _, H, I, rfl, q⟩
theorem op_notInTD (hu : X.A.units + 65 < cLine) : OpR X (compareOp .NotIn) (rInTD X.K true) := by
  intro pins s σ H x y v u Q I rx ry h
  obtain ⟨d, ds, hd, he, sd, se, q⟩ := h
  obtain ⟨as, r1⟩ := Dp.reads I d x v hd rx
  obtain ⟨bs, r2⟩ := Dp.reads I (.tuple ds) y u he ry
  exact SeqAt.notIn_tuple_reads r2 r1 (canAll_of_tuple se) (SeqAt.canLay_of_shaped sd) (room_inT sd hu) ⟨.bl _, H, I, rfl, q⟩
end
/-- x in y -/
def din (x y : D) : Option Bool := match y with
  | .tup ys => (match x.pd, pdL ys with | some d, some ds => if SeqAt.shaped d && SeqAt.shaped (.tuple ds) then some (ds.any fun z => PyData.eqv z d) else none | _, _ => none)
  | .lst ys => (match x.pd, pdL ys with | some d, some ds => if SeqAt.shaped d && SeqAt.shaped (.list ds) then some (ds.any fun z => PyData.eqv z d) else none | _, _ => none)
  | .str z => (match x with | .str ⟨⟨[c]⟩⟩ => some (decide (c ∈ z.cps.toList)) | _ => none)
  | .ktp ys => (match x.pd with | some d => if SeqAt.shaped d && SeqAt.shaped (.tuple (ys.map PyData.str)) then some ((ys.map PyData.str).any fun z => PyData.eqv z d) else none | _ => none)
  | _ => none
def inD (x y : D) : Option RV := (din x y).map fun b => .fz (.bl b)
def ninD (x y : D) : Option RV := (din x y).map fun b => .fz (.bl (!b))
def rInA (K : PySem.W.Frag) : R2 := fun x y H Q => rInTD K false x y H Q ∨ rInD K x y H Q ∨ (∃ (c : Nat) (z : Str), x = .str ⟨#[c]⟩ ∧ y = .str z ∧ Q (.bl (decide (c ∈ z.cps.toList))) H)
def rNinA (K : PySem.W.Frag) : R2 := fun x y H Q => rInTD K true x y H Q ∨ rNotInD K x y H Q ∨ (∃ (c : Nat) (z : Str), x = .str ⟨#[c]⟩ ∧ y = .str z ∧ Q (.bl (!decide (c ∈ z.cps.toList))) H)
theorem op_inA {X : Cx} (hu : X.A.units + 65 < cLine) : OpR X (compareOp .In) (rInA X.K) := (op_inTD hu).or ((op_inD hu).or op_in_sign)
theorem op_ninA {X : Cx} (hu : X.A.units + 65 < cLine) : OpR X (compareOp .NotIn) (rNinA X.K) := (op_notInTD hu).or ((op_notInD hu).or op_notIn_sign)
section
variable {B : Bas}
theorem din_rule {F H : Hp} {v u : V} {x y : D} {b : Bool} {P : Bool → Prop} (m : ∀ a o, F a = some o → H a = some o) (hv : RdR B F H v x) (hu : RdR B F H u y) (e : din x y = some b) (p : P b) :
    (∃ d ds, Dp B.K H v d ∧ Dp B.K H u (.tuple ds) ∧ SeqAt.shaped d = true ∧ SeqAt.shaped (.tuple ds) = true ∧ P (ds.any fun z => PyData.eqv z d)) ∨
    (∃ d ds, Dp B.K H v d ∧ Dp B.K H u (.list ds) ∧ SeqAt.shaped d = true ∧ SeqAt.shaped (.list ds) = true ∧ P (ds.any fun z => PyData.eqv z d)) ∨
    ∃ (c : Nat) (z : Str), v = .str ⟨#[c]⟩ ∧ u = .str z ∧ P (decide (c ∈ z.cps.toList)) := by
  unfold din at e
  cases y with
  | tup ys =>
    dsimp only at e
    cases ex : x.pd with
    | none => rw [ex] at e; cases e
    | some d =>
      cases ey : pdL ys with
      | none => rw [ex, ey] at e; cases e
      | some ds =>
        rw [ex, ey] at e
        dsimp only at e
        split at e
        · rename_i z
          rw [Bool.and_eq_true] at z
          cases e
          exact .inl ⟨d, ds, hv.dp m ex, hu.dp m (by simp only [D.pd, ey, Option.map_some]), z.1, z.2, p⟩
        · cases e
  | lst ys =>
    dsimp only at e
    cases ex : x.pd with
    | none => rw [ex] at e; cases e
    | some d =>
      cases ey : pdL ys with
      | none => rw [ex, ey] at e; cases e
      | some ds =>
        rw [ex, ey] at e
        dsimp only at e
        split at e
        · rename_i z
          rw [Bool.and_eq_true] at z
          cases e
          exact .inr (.inl ⟨d, ds, hv.dp m ex, hu.dp m (by simp only [D.pd, ey, Option.map_some]), z.1, z.2, p⟩)
        · cases e
  | str z =>
    dsimp only at e
    split at e
    · rename_i c
      cases e
      exact .inr (.inr ⟨c, z, hv.str, hu.str, p⟩)
    · cases e
  | ktp ys =>
    dsimp only at e
    cases ex : x.pd with
    | none => rw [ex] at e; cases e
    | some d =>
      rw [ex] at e
      dsimp only at e
      split at e
      · rename_i z
        rw [Bool.and_eq_true] at z
        cases e
        exact .inl ⟨d, ys.map PyData.str, hv.dp m ex, hu.dp m (by simp only [D.pd]), z.1, z.2, p⟩
      · cases e
  | _ => cases e
theorem ops_in : OpS B (rInA B.K) inD := by
  intro F ρ σ H v u x y rv R hv hu e Q q
  unfold inD at e
  cases z : din x y with
  | none => rw [z] at e; cases e
  | some b =>
    rw [z] at e; cases e
    rcases din_rule (P := fun b => Q (.bl b) H) R.ext hv hu z (ret1 R q (.bl _)) with h | h | h
    · obtain ⟨d, ds, h1, h2, h3, h4, h5⟩ := h; exact .inl ⟨d, ds, h1, h2, h3, h4, h5⟩
    · exact .inr (.inl h)
    · exact .inr (.inr h)
theorem ops_nin : OpS B (rNinA B.K) ninD := by
  intro F ρ σ H v u x y rv R hv hu e Q q
  unfold ninD at e
  cases z : din x y with
  | none => rw [z] at e; cases e
  | some b =>
    rw [z] at e; cases e
    rcases din_rule (P := fun b => Q (.bl (!b)) H) R.ext hv hu z (ret1 R q (.bl _)) with h | h | h
    · obtain ⟨d, ds, h1, h2, h3, h4, h5⟩ := h; exact .inl ⟨d, ds, h1, h2, h3, h4, h5⟩
    · exact .inr (.inl h)
    · exact .inr (.inr h)
/-! ### items -/
def idxD : D → D → Option RV
  | .tup xs, .int i => (atI xs i).map .fz
  | .lst xs, .int i => (atI xs i).map .fz
  | .str z, .int i => if z.length ≤ sizeLine then (atI z.cps.toList i).map fun c => .fz (.str ⟨#[c]⟩) else none
  | _, _ => none
theorem atI_rep {F : Hp} {vs : List V} {ds : List D} {i : Int} {d : D} (l : RepL B F vs ds) (h : atI ds i = some d) : ∃ v, atI vs i = some v ∧ Rep B F v d := by
  unfold atI at h ⊢
  rw [l.length]
  cases e : ixN ds.length i with
  | none => rw [e] at h; cases h
  | some j => rw [e] at h; exact l.get h
theorem ops_idx : OpS B (rIx B.K) idxD := by
  intro F ρ σ H v u x y rv R hv hu e Q q
  cases x <;> cases y <;> simp only [idxD] at e <;> try cases e
  · split at e
    · rename_i z i hz
      cases w : atI z.cps.toList i with
      | none => rw [w] at e; cases e
      | some c => rw [w] at e; cases e; exact .inr (.inr ⟨z, i, c, hv.str, hu.int, hz, w, ret1 R q (.str _)⟩)
    · cases e
  · rename_i ds i
    obtain ⟨p, xs, rfl, h1, l1⟩ := hv.tup
    cases w : atI ds i with
    | none => rw [w] at e; cases e
    | some d =>
      rw [w] at e; cases e
      obtain ⟨v, hv1, hv2⟩ := atI_rep l1 w
      exact .inr (.inl ⟨p, xs, i, v, rfl, hu.int, tq (R.ext _ _ h1), hv1, ret1 R q hv2⟩)
  · rename_i ds i
    obtain ⟨p, xs, rfl, h1, l1⟩ := hv.lst R.ext
    cases w : atI ds i with
    | none => rw [w] at e; cases e
    | some d =>
      rw [w] at e; cases e
      obtain ⟨v, hv1, hv2⟩ := atI_rep l1 w
      exact .inl ⟨p, xs, i, v, rfl, hu.int, SqL.of h1, hv1, ret1 R q hv2⟩
end
section
variable {X : Cx} {I : Addr → Value → Option Addr → Prop} {W : WX} {a b : Expr} {fa fb : ESem} {pos : Pos}
theorem se_idx (h : SE X I W a fa) (k : SE X I W b fb) (hs : PlainIx b) : SE X I W (.Subscript a b pos) (eOp idxD fa fb) := by
  obtain ⟨t, p, m⟩ := h
  obtain ⟨u, q, n⟩ := k
  exact ⟨_, pe_ix ix_seq p q hs, sem_op (B := bas X I) ops_idx m n⟩
end
/-! ### slices -/
def cutD (xs : List D) (lo hi : Option Int) : List D := (xs.drop (HT.sIx xs.length 0 lo)).take (HT.sIx xs.length xs.length hi - HT.sIx xs.length 0 lo)
def slcD (x : D) (lo hi : Option Int) : Option RV := match x with
  | .tup xs => some (.fz (.tup (cutD xs lo hi)))
  | .lst xs => some (.fr (.lst (cutD xs lo hi)))
  | .str z => if z.length ≤ sizeLine then some (.fz (.str (cutS z lo hi))) else none
  | _ => none
def eO (f : Option ESem) : Env → Out (Option Int) := match f with
  | none => fun ρ => .ok none ρ
  | some f => fun ρ => (f ρ).bind fun r ρ1 => match r with
    | .fz (.int i) => .ok (some i) ρ1
    | _ => .no
def eSlc (f : ESem) (lo hi : Option ESem) : ESem := fun ρ => (f ρ).bind fun r ρ1 => (eO lo ρ1).bind fun l ρ2 => (eO hi ρ2).bind fun h ρ3 => match rd ρ3 r with
  | some x => (match slcD x l h with | some r => .ok r ρ3 | none => .no)
  | none => .no
def PostO (B : Bas) (F : Hp) (ρ : Env) (σ : St) (H : Hp) (o : Option Int) (ρ' : Env) (Q : Option Int → Hp → Prop) : Prop :=
  ∀ F' H', Stp F ρ σ H F' ρ' σ H' → Live ρ ρ' → Rel B F' ρ' σ H' → Q o H'
def SO (X : Cx) (I : Addr → Value → Option Addr → Prop) (W : WX) (e : Option Expr) (f : Option ESem) : Prop := ∃ t, PO X e t ∧ SemG (bas X I) W t (eO f) (PostO (bas X I))
section
variable {X : Cx} {I : Addr → Value → Option Addr → Prop} {W : WX} {a : Expr} {f : ESem} {pos : Pos}
theorem so_none : SO X I W none none := ⟨_, po_none, fun F ρ σ H R Q h => h F H (Stp.refl _ _ _ _) (Live.refl _) R⟩
theorem so_some (h : SE X I W a f) : SO X I W (some a) (some f) := by
  obtain ⟨t, p, m⟩ := h
  refine ⟨_, po_some p, fun F ρ σ H R Q hq => ?_⟩
  simp only [eO] at hq
  rw [Out.OK_bind] at hq
  refine m F ρ σ H R _ (hq.imp (fun r ρ1 hq F1 H1 v S1 L1 R1 r1 => ?_) fun _ _ _ z => z)
  cases r with
  | fz d =>
    cases d with
    | int i => cases r1; exact ⟨i, rfl, hq F1 H1 S1 L1 R1⟩
    | _ => exact hq.elim
  | _ => exact hq.elim
theorem cutD_rep {B : Bas} {F : Hp} {vs : List V} {ds : List D} {lo hi : Option Int} (l : RepL B F vs ds) : RepL B F (cutV vs lo hi) (cutD ds lo hi) := by
  unfold cutV cutD
  rw [l.length]
  exact (l.drop _).take _
def rSlAll (K : PySem.W.Frag) : V → Option Int → Option Int → Hp → VK → Prop := fun x lo hi H Q => rSlA K x lo hi H Q ∨ rSlL K x lo hi H Q ∨ rSlS x lo hi H Q
theorem sl_all : SlR X (rSlAll X.K) := sl_tupA.or (sl_list.or sl_str)
theorem cutD_whole {ds : List D} {lo hi : Option Int} (h : HT.sIx ds.length 0 lo = 0 ∧ HT.sIx ds.length ds.length hi = ds.length) : cutD ds lo hi = ds := by
  unfold cutD
  rw [h.1, h.2]
  simp
theorem se_slc {p2 : Pos} {lo hi : Option Expr} {fl fh : Option ESem} (h : SE X I W a f) (hl : SO X I W lo fl) (hh : SO X I W hi fh) : SE X I W (.Subscript a (.Slice lo hi none p2) pos) (eSlc f fl fh) := by
  obtain ⟨t, p, m⟩ := h
  obtain ⟨tl, pl, ml⟩ := hl
  obtain ⟨th, ph, mh⟩ := hh
  refine ⟨_, pe_slice sl_all p pl ph, fun F ρ σ H R Q hq => ?_⟩
  rw [eSlc, Out.OK_bind] at hq
  refine m F ρ σ H R _ (hq.imp (fun r ρ1 hq F1 H1 v S1 L1 R1 r1 => ?_) fun _ _ _ z => z)
  rw [Out.OK_bind] at hq
  refine ml F1 ρ1 σ H1 R1 _ (hq.imp (fun l ρ2 hq F2 H2 S2 L2 R2 => ?_) fun _ _ _ z => z.back S1)
  rw [Out.OK_bind] at hq
  refine mh F2 ρ2 σ H2 R2 _ (hq.imp (fun h ρ3 hq F3 H3 S3 L3 R3 => ?_) fun _ _ _ z => z.back (S1.trans S2))
  have r3 := (r1.next S2 L2).next S3 L3
  have S13 := S1.trans (S2.trans S3)
  have L13 := L1.trans (L2.trans L3)
  cases er : rd ρ3 r with
  | none => rw [er] at hq; exact hq.elim
  | some x =>
    rw [er] at hq
    have hx := rd_ok R3 r3 er
    cases x with
    | tup ds =>
      obtain ⟨q, xs, rfl, h1, l1⟩ := hx.tup
      refine .inl ⟨q, xs, rfl, tq (R3.ext _ _ h1), fun w => ?_, fun _ z hn => ?_⟩
      · rw [l1.length] at w
        have e := cutD_whole w
        simp only [slcD] at hq
        refine hq F3 H3 _ S13 L13 R3 ?_
        rw [e]
        exact .tup h1 l1
      · obtain ⟨S, R', r'⟩ := newTup R3 S13 hn (cutD_rep (lo := l) (hi := h) l1)
        exact hq _ _ _ S L13 R' r'
    | lst ds =>
      obtain ⟨q, xs, rfl, h1, l1⟩ := hx.lst R3.ext
      refine .inr (.inl ⟨q, xs, rfl, SqL.of h1, fun z hn => ?_⟩)
      obtain ⟨S, R', r'⟩ := newList R3 S13 hn (cutD_rep (lo := l) (hi := h) l1)
      exact hq _ _ _ S L13 R' r'
    | str z =>
      simp only [slcD] at hq
      by_cases hz : z.length ≤ sizeLine
      · rw [if_pos hz] at hq
        exact .inr (.inr ⟨z, hx.str, hz, hq F3 H3 _ S13 L13 R3 (Rep.str _)⟩)
      · rw [if_neg hz] at hq; exact hq.elim
    | _ => exact hq.elim
end
end DL
end
section
/-! D5: truth, and, or, not, calls of built-ins. -/
namespace DL
open PySem PySem.Spec L2

/-! ### truth -/
def truthD : D → Option Bool
  | .non => some false
  | .bl b => some b
  | .int i => some (i != 0)
  | .str y => if y.length ≤ sizeLine then some ((y.length : Int) != 0) else none
  | .tup xs => some (!xs.isEmpty)
  | .lst xs => some (!xs.isEmpty)
  | .scr ns => some (!ns.isEmpty)
  | .ins _ _ => none
  | .dK xs => some (!xs.isEmpty)
  | .dT _ => none
  | .ktp _ => none
theorem RepK.emp {B : Bas} {F : Hp} {vs : List (L2.Key × V)} {ds : List (L2.Key × D)} (l : RepK B F vs ds) : vs.isEmpty = ds.isEmpty := by cases l <;> rfl
theorem RepL.emp {B : Bas} {F : Hp} {vs : List V} {ds : List D} (l : RepL B F vs ds) : vs.isEmpty = ds.isEmpty := by cases l <;> rfl
theorem tru_rd {B : Bas} {F H : Hp} {v : V} {d : D} {b : Bool} (m : ∀ a o, F a = some o → H a = some o) (h : RdR B F H v d) (e : truthD d = some b) : TruV B.K v H b := by
  cases d with
  | non => cases e; rw [h.non]; rfl
  | bl x => cases e; rw [h.bl]; rfl
  | int i => cases e; rw [h.int]; rfl
  | str y =>
    simp only [truthD] at e
    split at e
    · rename_i z; cases e; rw [h.str]; exact ⟨z, rfl⟩
    · cases e
  | tup xs => cases e; obtain ⟨a, vs, rfl, h1, l⟩ := h.tup; exact .inr (.inl ⟨vs, tq (m _ _ h1), by rw [l.emp]⟩)
  | lst xs => cases e; obtain ⟨a, vs, rfl, h1, l⟩ := h.lst m; exact .inl ⟨vs, SqL.of h1, by rw [l.emp]⟩
  | scr ns => cases e; obtain ⟨a, rfl, h1⟩ := h.scr; exact .inl ⟨_, sql_mono m h1, by cases ns <;> rfl⟩
  | ins c fs => cases e
  | dK xs => cases e; obtain ⟨a, vs, rfl, h1, l⟩ := h.dK m; exact .inr (.inr ⟨vs, h1, by rw [l.emp]⟩)
  | dT xs => cases e
  | ktp xs => cases e
section
variable {X : Cx} {I : Addr → Value → Option Addr → Prop} {W : WX} {a b c : Expr} {f g : ESem} {pos : Pos} {rest : List Expr}
def cT (f : ESem) : Env → Out Bool := fun ρ => (f ρ).bind fun r ρ1 => match rd ρ1 r with
  | some d => (match truthD d with | some b => .ok b ρ1 | none => .no)
  | none => .no
theorem sc_truth (h : SE X I W a f) (he : ∀ whole, isTrue a X.env whole = (do let v ← whole; standAt a.pos; holding [v] (truthy v)) := by intro _; rfl) : SC X I W a (cT f) := by
  obtain ⟨t, p, m⟩ := h
  refine ⟨_, pt_truth p he, fun F ρ σ H R Q hq => ?_⟩
  rw [cT, Out.OK_bind] at hq
  refine m F ρ σ H R _ (hq.imp (fun r ρ1 hq F1 H1 v S1 L1 R1 r1 => ?_) fun _ _ _ z => z)
  cases e : rd ρ1 r with
  | none => rw [e] at hq; exact hq.elim
  | some d =>
    simp only [e] at hq
    cases e2 : truthD d with
    | none => rw [e2] at hq; exact hq.elim
    | some b => rw [e2] at hq; exact ⟨b, tru_rd R1.ext (rd_ok R1 r1 e) e2, hq F1 H1 S1 L1 R1⟩
/-! ### and, or, not as tests -/
abbrev CSem := Env → Out Bool
def SW (X : Cx) (I : Addr → Value → Option Addr → Prop) (W : WX) (e : Expr) (f : CSem) : Prop := ∃ t, PW X e t ∧ SemG (bas X I) W t f (PostC (bas X I))
variable {cf cg ch : CSem}
def cAnd (f g : CSem) : CSem := fun ρ => (f ρ).bind fun k ρ1 => if k = true then g ρ1 else .ok false ρ1
def cOr (f g : CSem) : CSem := fun ρ => (f ρ).bind fun k ρ1 => if k = true then .ok true ρ1 else g ρ1
def cNot (f : CSem) : CSem := fun ρ => (f ρ).bind fun k ρ1 => .ok (!k) ρ1
theorem sw_and1 (h : SC X I W a cf) : SW X I W (.BoolOp .And [a] pos) cf := let ⟨t, p, m⟩ := h; ⟨t, pw_and1 p, m⟩
theorem sw_or1 (h : SC X I W a cf) : SW X I W (.BoolOp .Or [a] pos) cf := let ⟨t, p, m⟩ := h; ⟨t, pw_or1 p, m⟩
theorem SW.sc (h : SW X I W a cf) : SC X I W a cf := let ⟨t, p, m⟩ := h; ⟨t, p.pt, m⟩
theorem sw_and (h : SC X I W a cf) (k : SW X I W (.BoolOp .And (b :: rest) pos) cg) : SW X I W (.BoolOp .And (a :: b :: rest) pos) (cAnd cf cg) := by
  obtain ⟨t, p, m⟩ := h
  obtain ⟨u, q, n⟩ := k
  refine ⟨_, pw_and p q, fun F ρ σ H R Q hq => ?_⟩
  rw [cAnd, Out.OK_bind] at hq
  refine m F ρ σ H R _ (hq.imp (fun k ρ1 hq F1 H1 S1 L1 R1 => ?_) fun _ _ _ z => z)
  cases k with
  | true =>
    rw [if_pos rfl] at hq ⊢
    exact n F1 ρ1 σ H1 R1 _ (hq.imp (fun k ρ2 hq F2 H2 S2 L2 R2 => hq F2 H2 (S1.trans S2) (L1.trans L2) R2) fun _ _ _ z => z.back S1)
  | false =>
    rw [if_neg Bool.false_ne_true] at hq ⊢
    exact hq F1 H1 S1 L1 R1
theorem sw_or (h : SC X I W a cf) (k : SW X I W (.BoolOp .Or (b :: rest) pos) cg) : SW X I W (.BoolOp .Or (a :: b :: rest) pos) (cOr cf cg) := by
  obtain ⟨t, p, m⟩ := h
  obtain ⟨u, q, n⟩ := k
  refine ⟨_, pw_or p q, fun F ρ σ H R Q hq => ?_⟩
  rw [cOr, Out.OK_bind] at hq
  refine m F ρ σ H R _ (hq.imp (fun k ρ1 hq F1 H1 S1 L1 R1 => ?_) fun _ _ _ z => z)
  cases k with
  | false =>
    rw [if_neg Bool.false_ne_true] at hq ⊢
    exact n F1 ρ1 σ H1 R1 _ (hq.imp (fun k ρ2 hq F2 H2 S2 L2 R2 => hq F2 H2 (S1.trans S2) (L1.trans L2) R2) fun _ _ _ z => z.back S1)
  | true =>
    rw [if_pos rfl] at hq ⊢
    exact hq F1 H1 S1 L1 R1
theorem sc_not (h : SC X I W a cf) : SC X I W (.UnaryOp .Not a pos) (cNot cf) := by
  obtain ⟨t, p, m⟩ := h
  refine ⟨_, pt_not p, fun F ρ σ H R Q hq => ?_⟩
  rw [cNot, Out.OK_bind] at hq
  exact m F ρ σ H R _ (hq.imp (fun k ρ1 hq F1 H1 S1 L1 R1 => hq F1 H1 S1 L1 R1) fun _ _ _ z => z)
/-! ### .. as values -/
def eAnd (f g : ESem) : ESem := fun ρ => (f ρ).bind fun r ρ1 => match rd ρ1 r with
  | some d => (match truthD d with | some true => g ρ1 | some false => .ok r ρ1 | none => .no)
  | none => .no
def eOr (f g : ESem) : ESem := fun ρ => (f ρ).bind fun r ρ1 => match rd ρ1 r with
  | some d => (match truthD d with | some true => .ok r ρ1 | some false => g ρ1 | none => .no)
  | none => .no
def eNot (f : ESem) : ESem := fun ρ => (f ρ).bind fun r ρ1 => match rd ρ1 r with
  | some d => (match truthD d with | some b => .ok (.fz (.bl (!b))) ρ1 | none => .no)
  | none => .no
theorem PostE.fwd {B : Bas} {F F1 H H1 : Hp} {ρ ρ1 ρ' : Env} {σ : St} {rv : RV} {Q : VK} (S : Stp F ρ σ H F1 ρ1 σ H1) (L : Live ρ ρ1) (h : PostE B F ρ σ H rv ρ' Q) : PostE B F1 ρ1 σ H1 rv ρ' Q := fun F' H' v S' L' R' r' => h F' H' v (S.trans S') (L.trans L') R' (r'.base fun a z => S.dom a z)
theorem se_one {op : BoolOp} (h : SE X I W a f) : SE X I W (.BoolOp op [a] pos) f := let ⟨t, p, m⟩ := h; ⟨t, pe_one p, m⟩
theorem se_and (h : SE X I W a f) (k : SE X I W (.BoolOp .And (b :: rest) pos) g) : SE X I W (.BoolOp .And (a :: b :: rest) pos) (eAnd f g) := by
  obtain ⟨t, p, m⟩ := h
  obtain ⟨u, q, n⟩ := k
  refine ⟨_, pe_andT p q, fun F ρ σ H R Q hq => ?_⟩
  rw [eAnd, Out.OK_bind] at hq
  refine m F ρ σ H R _ (hq.imp (fun r ρ1 hq F1 H1 v S1 L1 R1 r1 => ?_) fun _ _ _ z => z)
  cases e : rd ρ1 r with
  | none => rw [e] at hq; exact hq.elim
  | some d =>
    simp only [e] at hq
    cases e2 : truthD d with
    | none => rw [e2] at hq; exact hq.elim
    | some k =>
      rw [e2] at hq
      refine ⟨k, tru_rd R1.ext (rd_ok R1 r1 e) e2, ?_⟩
      cases k with
      | true =>
        rw [if_pos rfl]
        exact n F1 ρ1 σ H1 R1 _ (hq.imp (fun _ _ z => z.fwd S1 L1) fun _ _ _ z => z.back S1)
      | false =>
        rw [if_neg Bool.false_ne_true]
        exact hq F1 H1 v S1 L1 R1 r1
theorem se_or (h : SE X I W a f) (k : SE X I W (.BoolOp .Or (b :: rest) pos) g) : SE X I W (.BoolOp .Or (a :: b :: rest) pos) (eOr f g) := by
  obtain ⟨t, p, m⟩ := h
  obtain ⟨u, q, n⟩ := k
  refine ⟨_, pe_orT p q, fun F ρ σ H R Q hq => ?_⟩
  rw [eOr, Out.OK_bind] at hq
  refine m F ρ σ H R _ (hq.imp (fun r ρ1 hq F1 H1 v S1 L1 R1 r1 => ?_) fun _ _ _ z => z)
  cases e : rd ρ1 r with
  | none => rw [e] at hq; exact hq.elim
  | some d =>
    simp only [e] at hq
    cases e2 : truthD d with
    | none => rw [e2] at hq; exact hq.elim
    | some k =>
      rw [e2] at hq
      refine ⟨k, tru_rd R1.ext (rd_ok R1 r1 e) e2, ?_⟩
      cases k with
      | false =>
        rw [if_neg Bool.false_ne_true]
        exact n F1 ρ1 σ H1 R1 _ (hq.imp (fun _ _ z => z.fwd S1 L1) fun _ _ _ z => z.back S1)
      | true =>
        rw [if_pos rfl]
        exact hq F1 H1 v S1 L1 R1 r1
theorem se_not (h : SE X I W a f) : SE X I W (.UnaryOp .Not a pos) (eNot f) := by
  obtain ⟨t, p, m⟩ := h
  refine ⟨_, pe_notT p, fun F ρ σ H R Q hq => ?_⟩
  rw [eNot, Out.OK_bind] at hq
  refine m F ρ σ H R _ (hq.imp (fun r ρ1 hq F1 H1 v S1 L1 R1 r1 => ?_) fun _ _ _ z => z)
  cases e : rd ρ1 r with
  | none => rw [e] at hq; exact hq.elim
  | some d =>
    simp only [e] at hq
    cases e2 : truthD d with
    | none => rw [e2] at hq; exact hq.elim
    | some k =>
      rw [e2] at hq
      exact ⟨k, tru_rd R1.ext (rd_ok R1 r1 e) e2, hq F1 H1 _ S1 L1 R1 (Rep.bl _)⟩
/-! ### a if c else b -/
def eIf (c : CSem) (f g : ESem) : ESem := fun ρ => (c ρ).bind fun k ρ1 => if k = true then f ρ1 else g ρ1
theorem se_if (hc : SC X I W c cf) (h : SE X I W a f) (k : SE X I W b g) : SE X I W (.IfExp c a b pos) (eIf cf f g) := by
  obtain ⟨tc, pc, mc⟩ := hc
  obtain ⟨t, p, m⟩ := h
  obtain ⟨u, q, n⟩ := k
  refine ⟨_, pe_ifExp pc p q, fun F ρ σ H R Q hq => ?_⟩
  rw [eIf, Out.OK_bind] at hq
  refine mc F ρ σ H R _ (hq.imp (fun k ρ1 hq F1 H1 S1 L1 R1 => ?_) fun _ _ _ z => z)
  cases k with
  | true =>
    rw [if_pos rfl] at hq ⊢
    exact m F1 ρ1 σ H1 R1 _ (hq.imp (fun _ _ z => z.fwd S1 L1) fun _ _ _ z => z.back S1)
  | false =>
    rw [if_neg Bool.false_ne_true] at hq ⊢
    exact n F1 ρ1 σ H1 R1 _ (hq.imp (fun _ _ z => z.fwd S1 L1) fun _ _ _ z => z.back S1)
/-! ### - n -/
def eNeg (f : ESem) : ESem := fun ρ => (f ρ).bind fun r ρ1 => match rd ρ1 r with
  | some (.int i) => .ok (.fz (.int (-i))) ρ1
  | _ => .no
theorem se_neg (h : SE X I W a f) : SE X I W (.UnaryOp .USub a pos) (eNeg f) := by
  obtain ⟨t, p, m⟩ := h
  refine ⟨_, pe_un un_neg p, fun F ρ σ H R Q hq => ?_⟩
  rw [eNeg, Out.OK_bind] at hq
  refine m F ρ σ H R _ (hq.imp (fun r ρ1 hq F1 H1 v S1 L1 R1 r1 => ?_) fun _ _ _ z => z)
  cases e : rd ρ1 r with
  | none => rw [e] at hq; exact hq.elim
  | some d =>
    rw [e] at hq
    cases d with
    | int i => exact ⟨i, (rd_ok R1 r1 e).int, hq F1 H1 _ S1 L1 R1 (Rep.int _)⟩
    | _ => exact hq.elim
/-! ### a < b < c -/
def eChain (p q : D → D → Option RV) (fa fb fc : ESem) : ESem := fun ρ => (fa ρ).bind fun ra ρ1 => (fb ρ1).bind fun rb ρ2 => match rd ρ2 ra, rd ρ2 rb with
  | some x, some y => (match p x y with
    | some (.fz (.bl true)) => (fc ρ2).bind fun rc ρ3 => (match rd ρ3 rb, rd ρ3 rc with
      | some y, some z => (match q y z with | some r => .ok r ρ3 | none => .no)
      | _, _ => .no)
    | some (.fz (.bl false)) => .ok (.fz (.bl false)) ρ2
    | _ => .no)
  | _, _ => .no
theorem sem_chain {B : Bas} {r r' : R2} {p q : D → D → Option RV} {ta tb tc : TE} {fa fb fc : ESem} (hp : OpS B r p) (hq' : OpS B r' q) (ma : SemG B W ta fa (PostE B)) (mb : SemG B W tb fb (PostE B)) (mc : SemG B W tc fc (PostE B)) :
    SemG B W (tChain r r' ta tb tc) (eChain p q fa fb fc) (PostE B) := by
  intro F ρ σ H R Q hq
  rw [eChain, Out.OK_bind] at hq
  refine ma F ρ σ H R _ (hq.imp (fun ra ρ1 hq F1 H1 v S1 L1 R1 r1 => ?_) fun _ _ _ z => z)
  rw [Out.OK_bind] at hq
  refine mb F1 ρ1 σ H1 R1 _ (hq.imp (fun rb ρ2 hq F2 H2 u S2 L2 R2 r2 => ?_) fun _ _ _ z => z.back S1)
  cases ea : rd ρ2 ra with
  | none => rw [ea] at hq; exact hq.elim
  | some x =>
    cases eb : rd ρ2 rb with
    | none => rw [ea, eb] at hq; exact hq.elim
    | some y =>
      simp only [ea, eb] at hq
      cases eg : p x y with
      | none => rw [eg] at hq; exact hq.elim
      | some r0 =>
        rw [eg] at hq
        refine hp F2 ρ2 σ H2 v u x y r0 R2 (rd_ok R2 (r1.next S2 L2) ea) (rd_ok R2 r2 eb) eg _ fun F3 H3 w S3 R3 r3 => ?_
        cases r0 with
        | fz d =>
          cases d with
          | bl k =>
            cases r3
            refine ⟨k, rfl, ?_⟩
            cases k with
            | false =>
              rw [if_neg Bool.false_ne_true]
              exact hq F3 H3 _ (S1.trans (S2.trans S3)) (L1.trans L2) R3 (Rep.bl _)
            | true =>
              rw [if_pos rfl]
              simp only at hq
              rw [Out.OK_bind] at hq
              have S13 := S1.trans (S2.trans S3)
              refine mc F3 ρ2 σ H3 R3 _ (hq.imp (fun rc ρ3 hq F4 H4 w S4 L4 R4 r4 => ?_) fun _ _ _ z => z.back S13)
              have r2' := (r2.next S3 (Live.refl _)).next S4 L4
              cases ey : rd ρ3 rb with
              | none => rw [ey] at hq; exact hq.elim
              | some y' =>
                cases ez : rd ρ3 rc with
                | none => rw [ey, ez] at hq; exact hq.elim
                | some z' =>
                  simp only [ey, ez] at hq
                  cases eq : q y' z' with
                  | none => rw [eq] at hq; exact hq.elim
                  | some r5 =>
                    rw [eq] at hq
                    refine hq' F4 ρ3 σ H4 u w y' z' r5 R4 (rd_ok R4 r2' ey) (rd_ok R4 r4 ez) eq Q fun F5 H5 w5 S5 R5 r6 => ?_
                    have S14 := S13.trans S4
                    exact hq F5 H5 w5 (S14.trans S5) ((L1.trans L2).trans L4) R5 (r6.base fun a z => S14.dom a z)
          | _ => exact hq.elim
        | _ => exact hq.elim
theorem se_chain {op op' : CmpOp} {r r' : R2} {p q : D → D → Option RV} {fa fb fc : ESem} (ho : OpR X (compareOp op) r) (hp : OpS (bas X I) r p) (ho' : OpR X (compareOp op') r') (hq : OpS (bas X I) r' q)
    (ha : SE X I W a fa) (hb : SE X I W b fb) (hc : SE X I W c fc) (hm : lastMarks [op, op'] [b, c] = false := by rfl) : SE X I W (.Compare a [op, op'] [b, c] pos) (eChain p q fa fb fc) := by
  obtain ⟨t, pa, m⟩ := ha
  obtain ⟨u, pb, n⟩ := hb
  obtain ⟨w, pc, o⟩ := hc
  exact ⟨_, pe_chain ho ho' pa pb pc hm, sem_chain hp hq m n o⟩
theorem sc_chain {op op' : CmpOp} {r r' : R2} {p q : D → D → Option RV} {fa fb fc : ESem} (ho : OpR X (compareOp op) r) (hp : OpS (bas X I) r p) (ho' : OpR X (compareOp op') r') (hq : OpS (bas X I) r' q)
    (ha : SE X I W a fa) (hb : SE X I W b fb) (hc : SE X I W c fc) (hm : lastMarks [op, op'] [b, c] = false := by rfl) : SC X I W (.Compare a [op, op'] [b, c] pos) (cB (eChain p q fa fb fc)) := by
  obtain ⟨t, pa, m⟩ := ha
  obtain ⟨u, pb, n⟩ := hb
  obtain ⟨w, pc, o⟩ := hc
  exact ⟨_, pt_chain ho ho' pa pb pc hm, sem_cB (sem_chain hp hq m n o)⟩
end
end DL
end
section
/-! DS: sorted() of a tuple of ints. -/
namespace DL
open PySem PySem.Spec L2 PyProof.Rows PySem.Builtin

section
variable {prog : Program} {w : World} {A : Around} {E : Value → Shared → Prop} {s : Shared}
theorem collect_tup {l : Addr} {vs : List Value} {Q : List Value → Shared → Prop} (hl : IsTup s.heap l vs.toArray)
    (h : Q vs { s with heap := (s.heap.push (seqObj "list" #[] 0)).update s.heap.objs.size (Obj.mapSeq (· ++ vs.toArray)) }) (hsz : vs.length ≤ sizeLine) :
    wpAny (model prog w) A (collect (.ref l)) Q E s := by
  obtain ⟨o, ho, hc, n, hd⟩ := id hl
  unfold collect
  refine wpAny_bind (wpAny_runValue (codeAny_builtin entry_proto_collect' ?_))
  show wpAny _ _ (do again (.builtin "list.__iadd__" ⟨[← PySem.newList [], .ref l], []⟩)) _ _ s
  refine wpAny_bind (wpAny_newList (wpAny_pure ⟨Code.quiet_builtin _ (by decide +kernel), codeAny_builtin entry_list_iadd' ?_⟩))
  show wpAny _ _ (Builtin.List.listExtendWith (.ref s.heap.objs.size) (.ref l) (.ref s.heap.objs.size)) _ _ { s with heap := s.heap.push (seqObj "list" #[] 0) }
  unfold Builtin.List.listExtendWith
  have ho' : (s.heap.push (seqObj "list" #[] 0)).get? l = some o := Heap.get?_push_of_some _ ho
  refine wpAny_bind (wpAny_typeOf (T := "tuple") ⟨o, ho', hc⟩ ?_)
  have ht : (Value.type "tuple" == Value.type "tuple") = true := by rfl
  rw [if_pos (by rw [ht]; simp)]
  refine wpAny_bind (listItems_at ho' hd ?_)
  refine wpAny_bind (listItems_at (xs := #[]) (n := 0) (Heap.get?_push_size _ rfl) rfl ?_)
  rw [if_neg (by simp)]
  refine wpAny_bind (listUpdate_at (xs := #[]) (n := 0) (Heap.get?_push_size _ rfl) rfl ?_ (Nat.zero_le _) (by show (#[] ++ vs.toArray).size ≤ sizeLine + 1; simp only [Array.size_append, List.size_toArray, List.length_nil]; omega))
  refine wpAny_pure ?_
  show wpAny (model prog w) A (do
      let o ← load s.heap.objs.size
      match o.data with
      | .seq xs _ => pure xs.toList
      | _ => unsupported "internal:collect") Q E { s with heap := (s.heap.push (seqObj "list" #[] 0)).update s.heap.objs.size (Obj.mapSeq (· ++ vs.toArray)) }
  refine wpAny_bind (wpAny_load (get?_update_seq (Heap.get?_push_size _ rfl) _) ?_)
  show wpAny _ _ (pure ((#[] : Array Value) ++ vs.toArray).toList) Q E _
  rw [show ((#[] : Array Value) ++ vs.toArray).toList = vs by simp]
  exact wpAny_pure h
theorem sorted_tup {l : Addr} {vs : List Value} {ltv : Value → Value → Bool} {Q : Value → Shared → Prop} (O : SrtO.Swo ltv) (hl : IsTup s.heap l vs.toArray) (hz : vs.length ≤ sizeLine)
    (hS : 2 ≤ vs.length → ∀ (h₁ : Heap) (a : Addr), h₁.get? a = some (seqObj "list" vs.toArray 0) → (∀ b o, s.heap.get? b = some o → b ≠ a ∧ h₁.get? b = some o) → SrtO.SortableO prog w A.in1.in1 { s with heap := h₁ } a vs ltv)
    (h : ∀ out : List Value, SrtO.Srtd ltv out → SrtO.Stb ltv out vs → Q (.ref (s.heap.objs.size + 1)) { s with heap := sortedAll s.heap vs out.toArray }) :
    wpAny (model prog w) A (call (.builtin "sorted") [.ref l]) Q E s := by
  refine Calls.call_function_entry kind_sorted plain_sorted entry_sorted (args_sorted1 _) ?_
  unfold Builtin.«sorted»
  refine wpAny_bind (m := checkCount "sorted" 1 1 _) (wpAny_pure ?_)
  refine wpAny_bind (collect_tup hl ?_ hz)
  refine wpAny_bind (wpAny_newList ?_ hz)
  have hsz : ((s.heap.push (seqObj "list" #[] 0)).update s.heap.objs.size (Obj.mapSeq (· ++ vs.toArray))).objs.size = s.heap.objs.size + 1 := by
    rw [Heap.size_update, size_push']
  have hoL : (((s.heap.push (seqObj "list" #[] 0)).update s.heap.objs.size (Obj.mapSeq (· ++ vs.toArray))).push (seqObj "list" vs.toArray 0)).get? (s.heap.objs.size + 1) = some (seqObj "list" vs.toArray 0) := by
    rw [← hsz]; exact Heap.get?_push_size _ rfl
  have keep : ∀ b o, s.heap.get? b = some o → b ≠ s.heap.objs.size + 1 ∧ (((s.heap.push (seqObj "list" #[] 0)).update s.heap.objs.size (Obj.mapSeq (· ++ vs.toArray))).push (seqObj "list" vs.toArray 0)).get? b = some o := fun b o q => by
    have hlt : b < s.heap.objs.size := Heap.lt_size q
    refine ⟨Nat.ne_of_lt (Nat.lt_succ_of_lt hlt), Heap.get?_push_of_some _ ?_⟩
    rw [Heap.get?_update_ne _ _ _ _ (Nat.ne_of_lt hlt)]
    exact Heap.get?_push_of_some _ q
  show wpAny _ _ _ _ _ { s with heap := ((s.heap.push (seqObj "list" #[] 0)).update s.heap.objs.size (Obj.mapSeq (· ++ vs.toArray))).push (seqObj "list" vs.toArray 0) }
  rw [hsz]
  refine wpAny_bind (wpAny_holding (wpAny_call_entry slot_list_sort ⟨_, hoL, rfl⟩ entry_list_sort (SrtO.list_sort_ord O hoL hz (fun h2 => hS h2 _ _ hoL keep) fun out hs hb => ⟨_, rfl, ?_⟩) (args_list_sort _)))
  exact wpAny_pure ⟨_, rfl, h out hs hb⟩
end
/-- sorted(xs), a tuple of ints -/
def rSortedIT (K : PySem.W.Frag) : List V → Hp → VK → Prop := fun vs H Q => ∃ (a : Addr) (ns : List Int), vs = [V.ref a] ∧ SqT K H a (ns.map V.int) ∧
  ∀ (ns' : List Int) (p : Addr), ns'.Perm ns → ns'.Pairwise (· ≤ ·) → H p = none → Q (.ref p) (upd H p (.lst (ns'.map V.int)))
def rSortedA (K : PySem.W.Frag) : List V → Hp → VK → Prop := fun vs H Q => rSortedI K vs H Q ∨ rSortedIT K vs H Q
section
variable {X : Cx}
theorem cr_sortedIT : CallR X (.builtin "sorted") (rSortedIT X.K) := by
  intro pins s σ H vs us Q I r h
  obtain ⟨a, ns, rfl, hs, q⟩ := h
  obtain ⟨its, rv, hl, hz⟩ := I.tuple hs
  rw [Vals.ref1 r]
  have hi := rv.ints
  refine sorted_tup SrtO.swo_int hl (by rw [← rv.length]; exact hz) (fun h2 h₁ a' _ _ => SrtO.ints_sortable hi h2) fun out h1 h2 => ?_
  obtain ⟨k1, k2, k3⟩ := SrtO.ints_out hi h1 h2
  obtain ⟨ep, he'⟩ := PyProof.Rows.sortedAll_at s.heap its out.toArray
  have hlen : ((out.map SrtO.iv).map V.int).length ≤ sizeLine := by
    rw [List.length_map, k2.length_eq]
    rw [List.length_map] at hz
    exact hz
  exact ⟨.ref _, upd H (s.heap.objs.size + 1) (.lst ((out.map SrtO.iv).map V.int)), I.laid (t' := s.toks) (fun _ _ => PyProof.Rows.sortedAll_old) (Nat.le_succ _) ⟨hlen, out, ep, vals_of_ints k1, he'⟩, rfl, q _ _ k2 k3 (I.hok.fresh (Nat.le_succ _))⟩
theorem cr_sortedA : CallR X (.builtin "sorted") (rSortedA X.K) := by
  intro pins s σ H vs us Q I r h
  rcases h with h | h
  · exact cr_sortedI pins s σ H vs us Q I r h
  · exact cr_sortedIT pins s σ H vs us Q I r h
end
end DL
end
section
/-! D6: arguments; calls of built-ins and of one's own defs. -/
namespace DL
open PySem PySem.Spec L2

/-! ### arguments -/
def prm (ρ : Env) : RV → Option RV
  | .fz d => some (.fz d)
  | .fr o => o.d.map .fz
  | .sl i => match ρ[i]? with
    | some (some (.fz d)) => some (.fz d)
    | some (some (.ow _ _)) => some (.sl i)
    | some (some (.lk _)) => some (.sl i)
    | _ => none
theorem prm_ok {B : Bas} {F F0 H H0 : Hp} {ρ ρ0 : Env} {σ0 σ : St} {v : V} {r r' : RV} (R : Rel B F ρ σ H) (S : Stp F0 ρ0 σ0 H0 F ρ σ H) (h : RvR B F ρ σ H0 H v r) (e : prm ρ r = some r') :
    ∃ F', Stp F0 ρ0 σ0 H0 F' ρ σ H ∧ Rel B F' ρ σ H ∧ PR B F' ρ σ [v] [r'] ∧ (∀ a o, F a = some o → F' a = some o) := by
  cases r with
  | fz d => cases e; exact ⟨F, S, R, .fz h .nil, fun _ _ h => h⟩
  | fr o =>
    simp only [prm] at e
    cases eo : o.d with
    | none => rw [eo] at e; cases e
    | some d =>
      rw [eo] at e
      cases e
      obtain ⟨F', S', _, R', r', m⟩ := frz_ok (rv := .fr o) (d := d) (ρ' := ρ) R S h (by simp only [frz, eo]; rfl)
      exact ⟨F', S', R', .fz r' .nil, m⟩
  | sl i =>
    obtain ⟨h1, sv, h2⟩ := h
    simp only [prm, h2] at e
    cases sv with
    | fz d =>
      cases e
      obtain ⟨v', h3, h4⟩ := R.sl i _ h2
      rw [h1] at h3; cases h3
      exact ⟨F, S, R, .fz h4 .nil, fun _ _ h => h⟩
    | ow b o => cases e; exact ⟨F, S, R, .sl h1 h2 .nil, fun _ _ h => h⟩
    | lk o => cases e; exact ⟨F, S, R, .sl h1 h2 .nil, fun _ _ h => h⟩
    | xn c fs => cases e
    | dd => cases e
def eP : List ESem → Env → Out (List RV)
  | [], ρ => .ok [] ρ
  | f :: fs, ρ => (f ρ).bind fun r ρ1 => match prm ρ1 r with
    | some r' => (eP fs ρ1).bind fun rs ρ2 => .ok (r' :: rs) ρ2
    | none => .no
theorem PR.app {B : Bas} {F : Hp} {ρ : Env} {σ : St} : ∀ {vs ws : List V} {rs qs : List RV}, PR B F ρ σ vs rs → PR B F ρ σ ws qs → PR B F ρ σ (vs ++ ws) (rs ++ qs)
  | _, _, _, _, .nil, k => k
  | _, _, _, _, .fz h r, k => .fz h (PR.app r k)
  | _, _, _, _, .sl h1 h2 r, k => .sl h1 h2 (PR.app r k)
section
variable {X : Cx} {I : Addr → Value → Option Addr → Prop} {W : WX} {e : Expr} {es : List Expr} {f : ESem} {fs : List ESem}
theorem sa_nil : SA X I W [] (eP []) := ⟨_, pa_nil, fun F ρ σ H R Q h => h F H [] (Stp.refl _ _ _ _) (Live.refl _) R .nil⟩
theorem sa_cons (h : SE X I W e f) (k : SA X I W es (eP fs)) (hs : starEach (e :: es) X.env = (false, eval e X.env) :: starEach es X.env := by rfl) : SA X I W (e :: es) (eP (f :: fs)) := by
  obtain ⟨t, p, m⟩ := h
  obtain ⟨u, q, n⟩ := k
  refine ⟨_, pa_cons p q hs, fun F ρ σ H R Q hq => ?_⟩
  rw [eP, Out.OK_bind] at hq
  refine m F ρ σ H R _ (hq.imp (fun r ρ1 hq F1 H1 v S1 L1 R1 r1 => ?_) fun _ _ _ z => z)
  cases e1 : prm ρ1 r with
  | none => rw [e1] at hq; exact hq.elim
  | some r' =>
    simp only [e1] at hq
    rw [Out.OK_bind] at hq
    obtain ⟨F2, S2, R2, p2, m2⟩ := prm_ok R1 S1 r1 e1
    refine n F2 ρ1 σ H1 R2 _ (hq.imp (fun rs ρ2 hq F3 H3 vs S3 L3 R3 p3 => ?_) fun _ _ _ z => z.back S2)
    exact hq F3 H3 (v :: vs) (S2.trans S3) (L1.trans L3) R3 ((p2.next S3.mono L3).app p3)
end

/-! ### built-ins -/
def CallS1 (B : Bas) (r : List V → Hp → VK → Prop) (g : D → Option RV) : Prop := ∀ F ρ σ H v x rv, Rel B F ρ σ H → RdR B F H v x → g x = some rv → ∀ Q : VK,
  (∀ F' H' w, Stp F ρ σ H F' ρ σ H' → Rel B F' ρ σ H' → RvR B F' ρ σ H H' w rv → Q w H') → r [v] H Q
def eU (g : D → Option RV) (f : ESem) : ESem := fun ρ => (f ρ).bind fun r ρ1 => match rd ρ1 r with
  | some d => (match g d with | some r' => .ok r' ρ1 | none => .no)
  | none => .no
theorem sem_u {B : Bas} {W : WX} {r : List V → Hp → VK → Prop} {g : D → Option RV} {t : TE} {f : ESem} (hg : CallS1 B r g) (m : SemG B W t f (PostE B)) : SemG B W (fun σ H Q => t σ H fun x H1 => r [x] H1 Q) (eU g f) (PostE B) := by
  intro F ρ σ H R Q hq
  rw [eU, Out.OK_bind] at hq
  refine m F ρ σ H R _ (hq.imp (fun r ρ1 hq F1 H1 v S1 L1 R1 r1 => ?_) fun _ _ _ z => z)
  cases e : rd ρ1 r with
  | none => rw [e] at hq; exact hq.elim
  | some d =>
    simp only [e] at hq
    cases e2 : g d with
    | none => rw [e2] at hq; exact hq.elim
    | some r' =>
      rw [e2] at hq
      exact hg F1 ρ1 σ H1 v d r' R1 (rd_ok R1 r1 e) e2 Q fun F' H' w S' R' q' => hq F' H' w (S1.trans S') L1 R' (q'.base fun a z => S1.dom a z)
theorem CallS1.or {B : Bas} {r r' : List V → Hp → VK → Prop} {g g' : D → Option RV} (h : CallS1 B r g) (h' : CallS1 B r' g') : CallS1 B (fun xs H Q => r xs H Q ∨ r' xs H Q) (fun x => match g x with | some y => some y | none => g' x) := by
  intro F ρ σ H v x rv R hv e Q q
  cases z : g x with
  | some y => simp only [z] at e; cases e; exact .inl (h F ρ σ H v x _ R hv z Q q)
  | none => simp only [z] at e; exact .inr (h' F ρ σ H v x _ R hv e Q q)
section
variable {X : Cx} {I : Addr → Value → Option Addr → Prop} {W : WX} {a : Expr} {f : ESem} {r : List V → Hp → VK → Prop} {g : D → Option RV} {x : Str} {p pos : Pos} {id T : String}
theorem se_callB1 (hc : CallR X (.builtin id) r) (hr : CallS1 (bas X I) r g) (hg : Gl X x) (hm : X.mg x = none) (hv : bootBuiltins x = some (.builtin id)) (h : SE X I W a f) (hn : x ≠ "__name__" := by decide) (hdb : (x == ("__debug__" : Str)) = false := by decide)
    (he : starEach [a] X.env = (false, eval a X.env) :: starEach [] X.env := by rfl) (hpl : (backTo pos (starEach [] X.env)).any (·.1) = false := by rfl) : SE X I W (.Call (.Name x p) [a] [] pos) (eU g f) := by
  obtain ⟨t, q, m⟩ := h
  exact ⟨_, pe_callB hc hg hm hv (pa_cons q pa_nil he) hn hdb he hpl, sem_u hr m⟩
theorem se_callT1 (hc : CallR X (.type T) r) (hr : CallS1 (bas X I) r g) (hg : Gl X x) (hm : X.mg x = none) (hv : bootBuiltins x = some (.type T)) (h : SE X I W a f) (hn : x ≠ "__name__" := by decide) (hdb : (x == ("__debug__" : Str)) = false := by decide)
    (he : starEach [a] X.env = (false, eval a X.env) :: starEach [] X.env := by rfl) (hpl : (backTo pos (starEach [] X.env)).any (·.1) = false := by rfl) : SE X I W (.Call (.Name x p) [a] [] pos) (eU g f) := by
  obtain ⟨t, q, m⟩ := h
  exact ⟨_, pe_callTy hc hg hm hv (pa_cons q pa_nil he) hn hdb he hpl, sem_u hr m⟩
end
section
variable {B : Bas}
def lenD : D → Option RV
  | .str y => if y.length ≤ sizeLine then some (.fz (.int (y.length : Int))) else none
  | .tup xs => some (.fz (.int (xs.length : Int)))
  | .lst xs => some (.fz (.int (xs.length : Int)))
  | .scr ns => some (.fz (.int (ns.length : Int)))
  | _ => none
theorem call_lenD : CallS1 B (fun xs H Q => ∃ x n, xs = [x] ∧ LenV B.K x H n ∧ Q (.int n) H) lenD := by
  intro F ρ σ H v x rv R hv e Q q
  cases x <;> simp only [lenD] at e <;> try cases e
  · split at e
    · rename_i z; cases e; exact ⟨v, _, rfl, by rw [hv.str]; exact ⟨z, rfl⟩, ret1 R q (.int _)⟩
    · cases e
  · obtain ⟨a, vs, rfl, h1, l⟩ := hv.tup; exact ⟨_, _, rfl, .inr ⟨vs, tq (R.ext _ _ h1), l.length.symm⟩, ret1 R q (.int _)⟩
  · obtain ⟨a, vs, rfl, h1, l⟩ := hv.lst R.ext; exact ⟨_, _, rfl, .inl ⟨vs, SqL.of h1, l.length.symm⟩, ret1 R q (.int _)⟩
  · rename_i ns
    obtain ⟨a, rfl, h1⟩ := hv.scr
    exact ⟨_, ns.length, rfl, .inl ⟨_, sql_mono R.ext h1, by rw [List.length_map]⟩, ret1 R q (.int _)⟩
def intD : D → Option RV
  | .int i => some (.fz (.int i))
  | .bl k => some (.fz (.int (if k then 1 else 0)))
  | _ => none
theorem call_intD : CallS1 B (fun xs H Q => (∃ i, xs = [.int i] ∧ Q (.int i) H) ∨ ∃ k, xs = [.bl k] ∧ Q (.int (if k then 1 else 0)) H) intD := by
  intro F ρ σ H v x rv R hv e Q q
  cases x <;> simp only [intD] at e <;> cases e
  · exact .inr ⟨_, by rw [hv.bl], ret1 R q (.int _)⟩
  · exact .inl ⟨_, by rw [hv.int], ret1 R q (.int _)⟩
def listD : D → Option RV
  | .lst xs => some (.fr (.lst xs))
  | .tup xs => some (.fr (.lst xs))
  | _ => none
theorem call_listD : CallS1 B (fun xs H Q => ∃ p ys, xs = [.ref p] ∧ (SqL B.K H p ys ∨ SqT B.K H p ys) ∧ ∀ l, H l = none → Q (.ref l) (upd H l (.lst ys))) listD := by
  intro F ρ σ H v x rv R hv e Q q
  cases x <;> simp only [listD] at e <;> cases e
  · obtain ⟨a, vs, rfl, h1, l⟩ := hv.tup
    refine ⟨a, vs, rfl, .inr (tq (R.ext _ _ h1)), fun p hn => ?_⟩
    obtain ⟨S', R', r'⟩ := newList R (Stp.refl _ _ _ _) hn l
    exact q _ _ _ S' R' r'
  · obtain ⟨a, vs, rfl, h1, l⟩ := hv.lst R.ext
    refine ⟨a, vs, rfl, .inl (SqL.of h1), fun p hn => ?_⟩
    obtain ⟨S', R', r'⟩ := newList R (Stp.refl _ _ _ _) hn l
    exact q _ _ _ S' R' r'
def tupD : D → Option RV
  | .lst xs => some (.fz (.tup xs))
  | .tup xs => some (.fz (.tup xs))
  | _ => none
theorem call_tupD : CallS1 B (fun xs H Q => ∃ p ys, xs = [.ref p] ∧ ((SqL B.K H p ys ∧ ∀ l, H l = none → Q (.ref l) (upd H l (.tup ys))) ∨ (SqT B.K H p ys ∧ Q (.ref p) H))) tupD := by
  intro F ρ σ H v x rv R hv e Q q
  cases x <;> simp only [tupD] at e <;> cases e
  · obtain ⟨a, vs, rfl, h1, l⟩ := hv.tup
    exact ⟨a, vs, rfl, .inr ⟨tq (R.ext _ _ h1), ret1 R q (.tup h1 l)⟩⟩
  · obtain ⟨a, vs, rfl, h1, l⟩ := hv.lst R.ext
    refine ⟨a, vs, rfl, .inl ⟨SqL.of h1, fun p hn => ?_⟩⟩
    obtain ⟨S', R', r'⟩ := newTup R (Stp.refl _ _ _ _) hn l
    exact q _ _ _ S' R' r'
/-! ### sorted, of ints -/
def ints? : List D → Option (List Int)
  | [] => some []
  | .int i :: r => (ints? r).map (i :: ·)
  | _ :: _ => none
theorem ints?_eq : ∀ {ds : List D} {ns : List Int}, ints? ds = some ns → ds = ns.map D.int
  | [], _, e => by simp only [ints?] at e; cases e; rfl
  | .int i :: r, ns, e => by
    simp only [ints?] at e
    cases q : ints? r with
    | none => rw [q] at e; cases e
    | some ms => rw [q] at e; cases e; rw [List.map_cons, ← ints?_eq q]
  | .non :: _, _, e => by simp only [ints?] at e; cases e
  | .bl _ :: _, _, e => by simp only [ints?] at e; cases e
  | .str _ :: _, _, e => by simp only [ints?] at e; cases e
  | .tup _ :: _, _, e => by simp only [ints?] at e; cases e
  | .lst _ :: _, _, e => by simp only [ints?] at e; cases e
  | .scr _ :: _, _, e => by simp only [ints?] at e; cases e
  | .ins _ _ :: _, _, e => by simp only [ints?] at e; cases e
  | .dK _ :: _, _, e => by simp only [ints?] at e; cases e
  | .dT _ :: _, _, e => by simp only [ints?] at e; cases e
  | .ktp _ :: _, _, e => by simp only [ints?] at e; cases e
theorem ints?_map : ∀ ns : List Int, ints? (ns.map D.int) = some ns
  | [] => rfl
  | n :: r => by simp only [List.map_cons, ints?, ints?_map r, Option.map_some]
def sortI (ns : List Int) : List Int := ns.mergeSort fun a b => decide (a ≤ b)
theorem sortI_perm (ns : List Int) : (sortI ns).Perm ns := List.mergeSort_perm _ _
theorem sortI_sorted (ns : List Int) : (sortI ns).Pairwise (· ≤ ·) := by
  have h := List.pairwise_mergeSort (le := fun a b : Int => decide (a ≤ b)) (by intro a b c h1 h2; simp only [decide_eq_true_eq] at *; omega) (by intro a b; simp only [Bool.or_eq_true, decide_eq_true_eq]; omega) ns
  exact h.imp (by intro a b h; simpa using h)
theorem sorted_one {ns ms : List Int} (hp : ns.Perm ms) (h1 : ns.Pairwise (· ≤ ·)) (h2 : ms.Pairwise (· ≤ ·)) : ns = ms := hp.eq_of_pairwise (by intro a b _ _ h k; omega) h1 h2
def srtD : D → Option RV
  | .lst ds => (ints? ds).map fun ns => .fr (.lst ((sortI ns).map D.int))
  | .tup ds => (ints? ds).map fun ns => .fr (.lst ((sortI ns).map D.int))
  | _ => none
theorem call_srtD : CallS1 B (rSortedA B.K) srtD := by
  intro F ρ σ H v x rv R hv e Q q
  cases x <;> simp only [srtD] at e <;> try cases e
  · rename_i ds
    cases z : ints? ds with
    | none => rw [z] at e; cases e
    | some ns =>
      rw [z] at e; cases e
      obtain ⟨a, vs, rfl, h1, l⟩ := hv.tup
      rw [ints?_eq z] at l
      rw [l.inv_ints] at h1
      refine .inr ⟨a, ns, rfl, tq (R.ext _ _ h1), fun ns' p hp hs hn => ?_⟩
      have e' : ns' = sortI ns := sorted_one (hp.trans (sortI_perm ns).symm) hs (sortI_sorted ns)
      subst e'
      obtain ⟨S', R', r'⟩ := newList R (Stp.refl _ _ _ _) hn (RepL.ints (sortI ns))
      exact q _ _ _ S' R' r'
  · rename_i ds
    cases z : ints? ds with
    | none => rw [z] at e; cases e
    | some ns =>
      rw [z] at e; cases e
      obtain ⟨a, vs, rfl, h1, l⟩ := hv.lst R.ext
      rw [ints?_eq z] at l
      rw [l.inv_ints] at h1
      refine .inl ⟨a, ns, rfl, SqL.of h1, fun ns' p hp hs hn => ?_⟩
      have e' : ns' = sortI ns := sorted_one (hp.trans (sortI_perm ns).symm) hs (sortI_sorted ns)
      subst e'
      obtain ⟨S', R', r'⟩ := newList R (Stp.refl _ _ _ _) hn (RepL.ints (sortI ns))
      exact q _ _ _ S' R' r'
end
end DL
end
section
/-! D7: the promise of a def over plain data; its call. -/
namespace DL
open PySem PySem.Spec L2

/-- no exception is held -/
abbrev I0 : Addr → Value → Option Addr → Prop := fun _ _ _ => False
/-- a def over data: its arguments (what is its caller's own stands as ow true), what it gives and what its slots hold behind it -/
abbrev FSem := List SV → Out RV
def argOk : SV → Bool
  | .fz _ => true
  | .ow b _ => b
  | .lk _ => true
  | _ => false
def envOf (as : List SV) : Env := as.map some
structure FinR (B : Bas) (F : Hp) (as : List SV) (vs : List V) (H : Hp) (F' : Hp) (ρa : Env) (H' : Hp) : Prop where
  mono : ∀ a o, F a = some o → F' a = some o
  newF : ∀ a, F' a ≠ none → F a ≠ none ∨ NewT H a ∨ ∃ k, OwnAt (envOf as) (vs.map some) k a
  keep : ∀ a o, H a = some o → (∀ k, ¬ OwnAt (envOf as) (vs.map some) k a) → H' a = some o
  dom : ∀ a, H' a = none → H a = none
  ext : ∀ a o, F' a = some o → H' a = some o
  arg : ∀ (k : Nat) (o : OB), ρa[k]? = some (some (.ow true o)) → ∃ a, vs[k]? = some (.ref a) ∧ F' a = none ∧ RepO B F' H' a o
def RetF (B : Bas) (F' H H' : Hp) (v : V) : RV → Prop
  | .fz d => Rep B F' v d
  | .fr o => ∃ a, v = .ref a ∧ H a = none ∧ F' a = none ∧ RepO B F' H' a o
  | .sl _ => False
/-- the promise -/
def spOf (B : Bas) (n : Nat) (m : FSem) : Sp := fun vs H Q E => ∃ F as, as.length = n ∧ as.all argOk = true ∧ Rel B F (envOf as) (vs.map some) H ∧
  (m as).OK (fun r ρa => ∀ F' H' v, FinR B F as vs H F' ρa H' → RetF B F' H H' v r → Q v H')
    (fun c fs ρa => ∀ F' H' cls dd, FinR B F as vs H F' ρa H' → XR B F' cls dd c fs → E cls dd H')
theorem spOf_len {B : Bas} {n : Nat} {m : FSem} : ∀ vs H Q E, spOf B n m vs H Q E → vs.length = n := fun vs H Q E ⟨F, as, h1, _, R, _⟩ => by
  have h := R.len
  unfold envOf at h
  rw [List.length_map, List.length_map] at h
  omega

/-! ### what goes in -/
def argSV (ρ : Env) : RV → Option SV
  | .fz d => some (.fz d)
  | .fr _ => none
  | .sl i => match ρ[i]? with
    | some (some (.ow _ o)) => some (.ow true o)
    | some (some (.lk o)) => some (.lk o)
    | some (some (.fz d)) => some (.fz d)
    | _ => none
def argsOf (ρ : Env) : List RV → Option (List SV)
  | [] => some []
  | r :: rs => match argSV ρ r, argsOf ρ rs with
    | some a, some as => some (a :: as)
    | _, _ => none
def slotsOf : List RV → List Nat
  | [] => []
  | .sl i :: rs => i :: slotsOf rs
  | _ :: rs => slotsOf rs
def outSV (sv : Option (Option SV)) (b : Bool) : SV := match sv with
  | some (some (.ow true o)) => .ow b o
  | _ => .dd
def back1 (ρ : Env) (r : RV) (s : Option (Option SV)) : Env := match r with
  | .sl i => (match ρ[i]? with
    | some (some (.ow b _)) => ρ.set i (some (outSV s b))
    | _ => ρ)
  | _ => ρ
def back : Env → List RV → Env → Env
  | ρ, [], _ => ρ
  | ρ, r :: rs, ρa => back (back1 ρ r ρa.head?) rs ρa.tail
theorem mem_slots {k : Nat} : ∀ {rs : List RV}, RV.sl k ∈ rs → k ∈ slotsOf rs
  | r :: rs, h => by
    rcases List.mem_cons.mp h with e | h
    · subst e; simp [slotsOf]
    · have := mem_slots h
      cases r <;> simp [slotsOf, this]
theorem back_len : ∀ (rs : List RV) (ρ ρa : Env), (back ρ rs ρa).length = ρ.length
  | [], _, _ => rfl
  | r :: rs, ρ, ρa => by
    rw [back, back_len rs]
    unfold back1
    cases r with
    | sl i =>
      dsimp only
      cases e : ρ[i]? with
      | none => rfl
      | some o =>
        cases o with
        | none => rfl
        | some sv => cases sv <;> simp
    | _ => rfl
/-- a slot behind the call -/
def BackAt (ρ : Env) (rs : List RV) (ρa : Env) (k : Nat) (sv : SV) : Prop :=
  (ρ[k]? = some (some sv) ∧ ∀ b o, sv = .ow b o → RV.sl k ∉ rs) ∨
  ∃ (j : Nat) (b : Bool) (o0 : OB), rs[j]? = some (.sl k) ∧ ρ[k]? = some (some (.ow b o0)) ∧ (sv = .dd ∨ ∃ o', ρa[j]? = some (some (.ow true o')) ∧ sv = .ow b o')
theorem back_at : ∀ (rs : List RV) (ρ ρa : Env), (slotsOf rs).Nodup → ∀ (k : Nat) (sv : SV), (back ρ rs ρa)[k]? = some (some sv) → BackAt ρ rs ρa k sv
  | [], ρ, ρa, _, k, sv, h => .inl ⟨h, fun _ _ _ => by simp⟩
  | .fz d :: rs, ρ, ρa, nd, k, sv, h => by
    rw [back] at h
    rcases back_at rs ρ ρa.tail nd k sv h with ⟨h1, h2⟩ | ⟨j, b, o0, h1, h2, h3⟩
    · exact .inl ⟨h1, fun b o e hm => by rcases List.mem_cons.mp hm with q | q; cases q; exact h2 b o e q⟩
    · exact .inr ⟨j + 1, b, o0, h1, h2, h3.imp_right fun ⟨o', q1, q2⟩ => ⟨o', by rw [List.getElem?_tail] at q1; exact q1, q2⟩⟩
  | .fr o :: rs, ρ, ρa, nd, k, sv, h => by
    rw [back] at h
    rcases back_at rs ρ ρa.tail nd k sv h with ⟨h1, h2⟩ | ⟨j, b, o0, h1, h2, h3⟩
    · exact .inl ⟨h1, fun b o e hm => by rcases List.mem_cons.mp hm with q | q; cases q; exact h2 b o e q⟩
    · exact .inr ⟨j + 1, b, o0, h1, h2, h3.imp_right fun ⟨o', q1, q2⟩ => ⟨o', by rw [List.getElem?_tail] at q1; exact q1, q2⟩⟩
  | .sl i :: rs, ρ, ρa, nd, k, sv, h => by
    obtain ⟨ni, nd'⟩ := List.nodup_cons.mp nd
    rw [back] at h
    unfold back1 at h
    dsimp only at h
    have plain : ∀ {ρ' : Env}, (∀ b o, ρ[i]? ≠ some (some (.ow b o))) → (back ρ rs ρa.tail)[k]? = some (some sv) → BackAt ρ (.sl i :: rs) ρa k sv := fun hn h => by
      rcases back_at rs ρ ρa.tail nd' k sv h with ⟨h1, h2⟩ | ⟨j, b, o0, h1, h2, h3⟩
      · refine .inl ⟨h1, fun b o e hm => ?_⟩
        rcases List.mem_cons.mp hm with q | q
        · cases q; subst e; exact hn b o h1
        · exact h2 b o e q
      · exact .inr ⟨j + 1, b, o0, h1, h2, h3.imp_right fun ⟨o', q1, q2⟩ => ⟨o', by rw [List.getElem?_tail] at q1; exact q1, q2⟩⟩
    cases e : ρ[i]? with
    | none => rw [e] at h; exact plain (ρ' := ρ) (fun _ _ z => by rw [e] at z; cases z) h
    | some u =>
      cases u with
      | none => rw [e] at h; exact plain (ρ' := ρ) (fun _ _ z => by rw [e] at z; cases z) h
      | some w =>
        cases w with
        | ow b o =>
          rw [e] at h
          dsimp only at h
          rcases back_at rs _ ρa.tail nd' k sv h with ⟨h1, h2⟩ | ⟨j, b', o0, h1, h2, h3⟩
          · rcases get_set h1 with ⟨z, q⟩ | ⟨z, q⟩
            · subst z
              injection q with q
              refine .inr ⟨0, b, o, rfl, e, ?_⟩
              subst q
              unfold outSV
              rw [List.head?_eq_getElem?]
              split
              · rename_i o' q; exact .inr ⟨o', q, rfl⟩
              · exact .inl rfl
            · refine .inl ⟨q, fun b' o' e' hm => ?_⟩
              rcases List.mem_cons.mp hm with w | w
              · cases w; exact z rfl
              · exact h2 b' o' e' w
          · have nk : i ≠ k := fun z => ni (by rw [z]; exact mem_slots (List.mem_of_getElem? h1))
            rcases get_set h2 with ⟨z, _⟩ | ⟨_, q⟩
            · exact absurd z nk
            · exact .inr ⟨j + 1, b', o0, h1, q, h3.imp_right fun ⟨o', q1, q2⟩ => ⟨o', by rw [List.getElem?_tail] at q1; exact q1, q2⟩⟩
        | _ => rw [e] at h; exact plain (ρ' := ρ) (fun _ _ z => by rw [e] at z; cases z) h
theorem back_live {ρ ρa : Env} {rs : List RV} : Live ρ (back ρ rs ρa) := by
  induction rs generalizing ρ ρa with
  | nil => exact Live.refl _
  | cons r rs ih =>
    rw [back]
    refine Live.trans ?_ ih
    unfold back1
    cases r with
    | sl i =>
      dsimp only
      cases e : ρ[i]? with
      | none => exact Live.refl _
      | some o =>
        cases o with
        | none => exact Live.refl _
        | some sv =>
          cases sv with
          | ow b o => exact live_set
          | _ => exact Live.refl _
    | _ => exact Live.refl _
/-- the arguments, one by one -/
theorem args_at {B : Bas} {F : Hp} {ρ : Env} {σ : St} : ∀ {rs : List RV} {vs : List V} {as : List SV}, PR B F ρ σ vs rs → argsOf ρ rs = some as → as.length = rs.length ∧ vs.length = rs.length ∧ ∀ (k : Nat) (sv : SV), as[k]? = some sv → ∃ v, vs[k]? = some v ∧
    ((∃ d, rs[k]? = some (.fz d) ∧ sv = .fz d ∧ Rep B F v d) ∨ ∃ i sv0, rs[k]? = some (.sl i) ∧ ρ[i]? = some (some sv0) ∧ σ[i]? = some (some v) ∧ ((∃ b o, sv0 = .ow b o ∧ sv = .ow true o) ∨ (∃ o, sv0 = .lk o ∧ sv = .lk o) ∨ ∃ d, sv0 = .fz d ∧ sv = .fz d))
  | [], _, _, .nil, e => by cases e; exact ⟨rfl, rfl, fun k sv h => by simp at h⟩
  | .fz d :: rs, _, as, .fz h p, e => by
    simp only [argsOf, argSV] at e
    cases q : argsOf ρ rs with
    | none => rw [q] at e; cases e
    | some as' =>
      rw [q] at e; cases e
      obtain ⟨h1, h2, h3⟩ := args_at p q
      refine ⟨by simp [h1], by simp [h2], fun k sv hk => ?_⟩
      cases k with
      | zero => simp at hk; subst hk; exact ⟨_, rfl, .inl ⟨d, rfl, rfl, h⟩⟩
      | succ k => simpa using h3 k sv (by simpa using hk)
  | .sl i :: rs, _, as, .sl (sv := s0) g1 g2 p, e => by
    simp only [argsOf] at e
    cases q0 : argSV ρ (.sl i) with
    | none => rw [q0] at e; cases e
    | some a0 =>
      cases q : argsOf ρ rs with
      | none => rw [q0, q] at e; cases e
      | some as' =>
        rw [q0, q] at e; cases e
        obtain ⟨h1, h2, h3⟩ := args_at p q
        refine ⟨by simp [h1], by simp [h2], fun k sv hk => ?_⟩
        cases k with
        | zero =>
          simp at hk; subst hk
          refine ⟨_, rfl, .inr ⟨i, s0, rfl, g2, g1, ?_⟩⟩
          simp only [argSV, g2] at q0
          cases s0 with
          | ow b o => cases q0; exact .inl ⟨b, o, rfl, rfl⟩
          | lk o => cases q0; exact .inr (.inl ⟨o, rfl, rfl⟩)
          | fz d => cases q0; exact .inr (.inr ⟨d, rfl, rfl⟩)
          | xn c fs => cases q0
          | dd => cases q0
        | succ k => simpa using h3 k sv (by simpa using hk)
theorem slots_inj : ∀ {rs : List RV} {j k i : Nat}, (slotsOf rs).Nodup → rs[j]? = some (.sl i) → rs[k]? = some (.sl i) → j = k
  | [], _, _, _, _, h, _ => by simp at h
  | r :: rs, 0, 0, _, _, _, _ => rfl
  | .sl i' :: rs, 0, k + 1, i, nd, h1, h2 => by
    simp at h1 h2; subst h1
    exact absurd (mem_slots (List.mem_of_getElem? h2)) (List.nodup_cons.mp nd).1
  | .sl i' :: rs, j + 1, 0, i, nd, h1, h2 => by
    simp at h1 h2; subst h2
    exact absurd (mem_slots (List.mem_of_getElem? h1)) (List.nodup_cons.mp nd).1
  | .sl i' :: rs, j + 1, k + 1, i, nd, h1, h2 => congrArg (· + 1) (slots_inj (List.nodup_cons.mp nd).2 (by simpa using h1) (by simpa using h2))
  | .fz d :: rs, 0, k + 1, i, nd, h1, h2 => by simp at h1
  | .fz d :: rs, j + 1, 0, i, nd, h1, h2 => by simp at h2
  | .fz d :: rs, j + 1, k + 1, i, nd, h1, h2 => congrArg (· + 1) (slots_inj (rs := rs) nd (by simpa using h1) (by simpa using h2))
  | .fr d :: rs, 0, k + 1, i, nd, h1, h2 => by simp at h1
  | .fr d :: rs, j + 1, 0, i, nd, h1, h2 => by simp at h2
  | .fr d :: rs, j + 1, k + 1, i, nd, h1, h2 => congrArg (· + 1) (slots_inj (rs := rs) nd (by simpa using h1) (by simpa using h2))
theorem argsOf_ok : ∀ {rs : List RV} {ρ : Env} {as : List SV}, argsOf ρ rs = some as → as.all argOk = true
  | [], _, _, e => by cases e; rfl
  | r :: rs, ρ, as, e => by
    simp only [argsOf] at e
    cases q0 : argSV ρ r with
    | none => rw [q0] at e; cases e
    | some a0 =>
      cases q : argsOf ρ rs with
      | none => rw [q0, q] at e; cases e
      | some as' =>
        rw [q0, q] at e; cases e
        rw [List.all_cons, argsOf_ok q, Bool.and_true]
        cases r with
        | fz d => cases q0; rfl
        | fr o => cases q0
        | sl i =>
          simp only [argSV] at q0
          split at q0 <;> cases q0 <;> rfl
section
variable {B : Bas} {F0 H0 F H F' H' : Hp} {ρ0 ρ ρa : Env} {σ0 σ : St} {rs : List RV} {vs : List V} {as : List SV}
theorem args_own (R : Rel B F ρ σ H) (p : PR B F ρ σ vs rs) (e : argsOf ρ rs = some as) {k : Nat} {a : Addr} (h : OwnAt (envOf as) (vs.map some) k a) : ∃ i, rs[k]? = some (.sl i) ∧ OwnAt ρ σ i a := by
  obtain ⟨b, o, h1, h2⟩ := h
  unfold envOf at h1
  rw [List.getElem?_map] at h1 h2
  cases q : as[k]? with
  | none => rw [q] at h1; cases h1
  | some sv =>
    rw [q] at h1
    injection h1 with h1; injection h1 with h1; subst h1
    obtain ⟨_, _, h3⟩ := args_at p e
    obtain ⟨v, hv, h4⟩ := h3 k _ q
    rw [hv] at h2
    injection h2 with h2; injection h2 with h2; subst h2
    rcases h4 with ⟨d, _, z, _⟩ | ⟨i, sv0, g1, g2, g3, ⟨b', o', z1, z2⟩ | ⟨o', z1, z2⟩ | ⟨d, z1, z2⟩⟩
    · cases z
    · cases z2; subst z1; exact ⟨i, g1, b', o, g2, g3⟩
    · cases z2
    · cases z2
theorem args_has (R : Rel B F ρ σ H) (p : PR B F ρ σ vs rs) (e : argsOf ρ rs = some as) {k : Nat} {a : Addr} (h : HasAt (envOf as) (vs.map some) k a) : ∃ i, rs[k]? = some (.sl i) ∧ HasAt ρ σ i a := by
  obtain ⟨sv, h1, ho, h2⟩ := h
  unfold envOf at h1
  rw [List.getElem?_map] at h1 h2
  cases q : as[k]? with
  | none => rw [q] at h1; cases h1
  | some sv' =>
    rw [q] at h1
    injection h1 with h1; injection h1 with h1; subst h1
    obtain ⟨_, _, h3⟩ := args_at p e
    obtain ⟨v, hv, h4⟩ := h3 k _ q
    rw [hv] at h2
    injection h2 with h2; injection h2 with h2; subst h2
    rcases h4 with ⟨d, _, z, _⟩ | ⟨i, sv0, g1, g2, g3, ⟨b', o', z1, z2⟩ | ⟨o', z1, z2⟩ | ⟨d, z1, z2⟩⟩
    · subst z; cases ho
    · subst z1; exact ⟨i, g1, _, g2, rfl, g3⟩
    · subst z1; exact ⟨i, g1, _, g2, rfl, g3⟩
    · subst z2; cases ho
/-- what the callee finds -/
theorem args_rel (R : Rel B F ρ σ H) (p : PR B F ρ σ vs rs) (nd : (slotsOf rs).Nodup) (e : argsOf ρ rs = some as) : Rel B F (envOf as) (vs.map some) H := by
  obtain ⟨l1, l2, h3⟩ := args_at p e
  refine ⟨R.ext, by unfold envOf; rw [List.length_map, List.length_map]; omega, fun k sv h => ?_, fun j k a h1 h2 => ?_⟩
  · unfold envOf at h
    rw [List.getElem?_map] at h
    cases q : as[k]? with
    | none => rw [q] at h; cases h
    | some sv' =>
      rw [q] at h
      injection h with h; injection h with h; subst h
      obtain ⟨v, hv, h4⟩ := h3 k _ q
      refine ⟨v, by rw [List.getElem?_map, hv]; rfl, ?_⟩
      rcases h4 with ⟨d, _, z, r⟩ | ⟨i, sv0, g1, g2, g3, h5⟩
      · subst z; exact r
      · obtain ⟨v', w1, w2⟩ := R.sl i sv0 g2
        rw [g3] at w1; cases w1
        rcases h5 with ⟨b', o', z1, z2⟩ | ⟨o', z1, z2⟩ | ⟨d, z1, z2⟩
        · subst z1 z2; exact w2
        · subst z1 z2; exact w2
        · subst z1 z2; exact w2
  · obtain ⟨i, g1, g2⟩ := args_own R p e h1
    obtain ⟨i', k1, k2⟩ := args_has R p e h2
    have z := R.sep i i' a g2 k2
    subst z
    exact slots_inj nd g1 k1
/-- what the caller finds behind the call -/
theorem call_back (S : Stp F0 ρ0 σ0 H0 F ρ σ H) (R : Rel B F ρ σ H) (p : PR B F ρ σ vs rs) (nd : (slotsOf rs).Nodup) (e : argsOf ρ rs = some as) (f : FinR B F as vs H F' ρa H') :
    Stp F0 ρ0 σ0 H0 F' (back ρ rs ρa) σ H' ∧ Rel B F' (back ρ rs ρa) σ H' := by
  have hb := back_at rs ρ ρa nd
  have own : ∀ k a, OwnAt (envOf as) (vs.map some) k a → ∃ i, rs[k]? = some (.sl i) ∧ OwnAt ρ σ i a := fun k a h => args_own R p e h
  have has' : ∀ k a, HasAt (back ρ rs ρa) σ k a → HasAt ρ σ k a := fun k a ⟨sv, h1, h2, h3⟩ => by
    rcases hb k sv h1 with ⟨q, _⟩ | ⟨j, b, o0, q1, q2, q3⟩
    · exact ⟨sv, q, h2, h3⟩
    · exact ⟨_, q2, rfl, h3⟩
  have own' : ∀ (k : Nat) (b : Bool) (o : OB), (back ρ rs ρa)[k]? = some (some (.ow b o)) → ∃ o1, ρ[k]? = some (some (.ow b o1)) := fun k b o h => by
    rcases hb k _ h with ⟨q, _⟩ | ⟨j, b', o0, q1, q2, q3 | ⟨o', q3, q4⟩⟩
    · exact ⟨o, q⟩
    · cases q3
    · cases q4; exact ⟨o0, q2⟩
  -- an object of a slot that was not handed in stands as it was
  have stay : ∀ k a, HasAt ρ σ k a → RV.sl k ∉ rs → (∀ o, H a = some o → H' a = some o) ∧ (F a = none → ¬ NewT H a → F' a = none) := fun k a hk hm => by
    have no : ∀ j, ¬ OwnAt (envOf as) (vs.map some) j a := fun j hj => by
      obtain ⟨i, g1, g2⟩ := own j a hj
      have z := R.sep i k a g2 hk
      subst z
      exact hm (List.mem_of_getElem? g1)
    refine ⟨fun o h => f.keep a o h no, fun hf ho => ?_⟩
    cases q : F' a with
    | none => rfl
    | some z =>
      rcases f.newF a (by rw [q]; exact fun z => nomatch z) with q | q | ⟨j, q⟩
      · exact absurd hf q
      · exact absurd q ho
      · exact absurd q (no j)
  refine ⟨⟨fun a o h => f.mono a o (S.mono a o h), fun a h => ?_, fun a o h hn => ?_, fun a h => S.dom a (f.dom a h), fun k a h => S.has k a (has' k a h), fun k b o a h1 h2 => ?_, fun k o a h1 h2 => S.lks k o a (by
      rcases hb k _ h1 with ⟨q, _⟩ | ⟨j, b, o0, q1, q2, q3 | ⟨o', q3, q4⟩⟩
      · exact q
      · cases q3
      · cases q4) h2⟩,
    ⟨f.ext, by rw [back_len]; exact R.len, fun k sv h => ?_, fun i j a h1 h2 => ?_⟩⟩
  · rcases f.newF a h with h | h | ⟨k, h⟩
    · exact S.newF a h
    · exact .inr (S.newT h)
    · obtain ⟨i, _, g⟩ := own k a h
      rcases S.ownAt g with g | g
      · exact .inr (.inl (.inl g))
      · exact .inr (.inr ⟨i, g⟩)
  · refine f.keep a o (S.keep a o h hn) fun k hk => ?_
    obtain ⟨i, _, g⟩ := own k a hk
    rcases S.ownAt g with g | g
    · rw [h] at g; cases g
    · exact hn i g
  · obtain ⟨o1, q⟩ := own' k b o h1
    exact S.own k b o1 a q h2
  · rcases hb k sv h with ⟨q, hm⟩ | ⟨j, b, o0, q1, q2, q3⟩
    · obtain ⟨v, g1, g2⟩ := R.sl k sv q
      refine ⟨v, g1, ?_⟩
      cases sv with
      | fz d => exact Rep.mono f.mono g2
      | ow b o =>
        obtain ⟨a, e1, e2, e3⟩ := g2
        subst e1
        obtain ⟨s1, s2⟩ := stay k a ⟨_, q, rfl, g1⟩ (hm b o rfl)
        exact ⟨a, rfl, s2 e2 e3.noT, e3.keep f.mono s1⟩
      | lk o =>
        obtain ⟨a, e1, e2, e3⟩ := g2
        subst e1
        have no : ∀ j, ¬ OwnAt (envOf as) (vs.map some) j a := fun j hj => by
          obtain ⟨i, w1, w2⟩ := own j a hj
          have z := R.sep i k a w2 ⟨_, q, rfl, g1⟩
          subst z
          obtain ⟨b', o', w3, _⟩ := w2
          rw [q] at w3; cases w3
        refine ⟨a, rfl, ?_, e3.keep f.mono fun o h => f.keep a o h no⟩
        cases w : F' a with
        | none => rfl
        | some z =>
          rcases f.newF a (by rw [w]; exact fun z => nomatch z) with w | w | ⟨j, w⟩
          · exact absurd e2 w
          · exact absurd w e3.noT
          · exact absurd w (no j)
      | xn c fs =>
        obtain ⟨a, C, dd, ws, e1, g, x, q⟩ := g2
        exact ⟨a, C, dd, ws, e1, g, x, q.elim .inl fun ⟨e, h1, h2, h3⟩ => .inr ⟨e, h1, f.mono _ _ h2, h3.mono f.mono⟩⟩
      | dd => trivial
    · obtain ⟨v, g1, g2⟩ := R.sl k _ q2
      refine ⟨v, g1, ?_⟩
      rcases q3 with q3 | ⟨o', q3, q4⟩
      · subst q3; trivial
      · subst q4
        obtain ⟨a, w1, w2, w3⟩ := f.arg j o' q3
        -- the slot's value is the argument
        obtain ⟨l1, l2, h3⟩ := args_at p e
        have hj : j < as.length := by rw [l1]; exact (List.getElem?_eq_some_iff.mp q1).1
        obtain ⟨v', hv, h4⟩ := h3 j as[j] (List.getElem?_eq_getElem hj)
        rw [hv] at w1; cases w1
        rcases h4 with ⟨d, z, _⟩ | ⟨i, sv0, z1, z2, z3, _⟩
        · rw [q1] at z; cases z
        · rw [q1] at z1; cases z1
          rw [g1] at z3; cases z3
          exact ⟨a, rfl, w2, w3⟩
  · obtain ⟨b, o, w1, w2⟩ := h1
    obtain ⟨o1, q⟩ := own' i b o w1
    exact R.sep i j a ⟨b, o1, q, w2⟩ (has' j a h2)
end

/-! ### the call -/
def eCallF (m : FSem) (fs : List ESem) : ESem := fun ρ => (eP fs ρ).bind fun rs ρ1 => match argsOf ρ1 rs with
  | some as => if (slotsOf rs).Nodup then (match m as with
    | .ok r ρa => .ok r (back ρ1 rs ρa)
    | .ex c fs ρa => .ex c fs (back ρ1 rs ρa)
    | .no => .no) else .no
  | none => .no
theorem RetF.rvr {B : Bas} {F F' H0 H H' : Hp} {ρ ρ' : Env} {σ : St} {v : V} {r : RV} (g : ∀ a, H a = none → H0 a = none) (has : ∀ k a, HasAt ρ' σ k a → HasAt ρ σ k a) (R : Rel B F ρ σ H) (h : RetF B F' H H' v r) : RvR B F' ρ' σ H0 H' v r := by
  cases r with
  | fz d => exact h
  | sl i => exact h.elim
  | fr o => obtain ⟨a, e, h1, h2, h3⟩ := h; exact ⟨a, e, g a h1, h2, h3, fun k hk => nohas R h1 k (has k a hk)⟩
section
variable {X : Cx} {I : Addr → Value → Option Addr → Prop} {W : WX} {k : Nat} {f : Addr} {fd : FuncData} {ps : List Str} {x : Str} {p pos : Pos} {e : Expr} {es : List Expr} {fs : List ESem} {m : FSem} {n : Nat} {dvs : List V} {ds : List Value} {dfs : List ESem}
/-- the promise of a def speaks of data, whatever exception the caller holds -/
theorem Rel.wi {B : Bas} {I' : Addr → Value → Option Addr → Prop} {F H : Hp} {as : List SV} {σ : St} (ha : as.all argOk = true) (R : Rel B F (envOf as) σ H) : Rel (B.wi I') F (envOf as) σ H := by
  refine ⟨R.ext, R.len, fun i sv h => ?_, R.sep⟩
  obtain ⟨v, h1, h2⟩ := R.sl i sv h
  refine ⟨v, h1, ?_⟩
  have hm : argOk sv = true := by
    unfold envOf at h
    rw [List.getElem?_map] at h
    cases q : as[i]? with
    | none => rw [q] at h; cases h
    | some s => rw [q] at h; injection h with h; injection h with h; subst h; exact List.all_eq_true.mp ha _ (List.mem_of_getElem? q)
  have ho : ∀ a o, RepO B F H a o → RepO (B.wi I') F H a o := fun a o h => by
    cases o with
    | lst ds => obtain ⟨xs, h1, h2⟩ := h; exact ⟨xs, h1, h2.wi⟩
    | ob c fs => obtain ⟨C, dx, vs, g, h1, h2, h3⟩ := h; exact ⟨C, dx, vs, g, h1, h2, h3.wi⟩
    | dK ds => obtain ⟨xs, h1, h2⟩ := h; exact ⟨xs, h1, h2.wi⟩
    | dT ds => obtain ⟨xs, h1, h2⟩ := h; exact ⟨xs, h1, h2.wi⟩
  cases sv with
  | fz d => exact Rep.wi h2
  | ow b o => obtain ⟨a, e, f, q⟩ := h2; exact ⟨a, e, f, ho a o q⟩
  | lk o => obtain ⟨a, e, f, q⟩ := h2; exact ⟨a, e, f, ho a o q⟩
  | xn c fs => cases hm
  | dd => trivial
theorem FinR.wi {B : Bas} {I' : Addr → Value → Option Addr → Prop} {F H F' H' : Hp} {as : List SV} {vs : List V} {ρa : Env} (f : FinR B F as vs H F' ρa H') : FinR (B.wi I') F as vs H F' ρa H' :=
  ⟨f.mono, f.newF, f.keep, f.dom, f.ext, fun k o h => let ⟨a, h1, h2, h3⟩ := f.arg k o h; ⟨a, h1, h2, by
    cases o with
    | lst ds => obtain ⟨xs, h1, h2⟩ := h3; exact ⟨xs, h1, h2.wi⟩
    | ob c fs => obtain ⟨C, dx, vs, g, h1, h2, h3⟩ := h3; exact ⟨C, dx, vs, g, h1, h2, h3.wi⟩
    | dK ds => obtain ⟨xs, h1, h2⟩ := h3; exact ⟨xs, h1, h2.wi⟩
    | dT ds => obtain ⟨xs, h1, h2⟩ := h3; exact ⟨xs, h1, h2.wi⟩⟩⟩
theorem RetF.wi {B : Bas} {I' : Addr → Value → Option Addr → Prop} {F' H H' : Hp} {v : V} {r : RV} (h : RetF B F' H H' v r) : RetF (B.wi I') F' H H' v r := by
  cases r with
  | fz d => exact Rep.wi h
  | sl i => exact h.elim
  | fr o =>
    obtain ⟨a, h0, h1, h2, h3⟩ := h
    refine ⟨a, h0, h1, h2, ?_⟩
    cases o with
    | lst ds => obtain ⟨xs, h1, h2⟩ := h3; exact ⟨xs, h1, h2.wi⟩
    | ob c fs => obtain ⟨C, dx, vs, g, h1, h2, h3⟩ := h3; exact ⟨C, dx, vs, g, h1, h2, h3.wi⟩
    | dK ds => obtain ⟨xs, h1, h2⟩ := h3; exact ⟨xs, h1, h2.wi⟩
    | dT ds => obtain ⟨xs, h1, h2⟩ := h3; exact ⟨xs, h1, h2.wi⟩
theorem XR.wi {B : Bas} {I' : Addr → Value → Option Addr → Prop} {F : Hp} {cls : Value} {dd : Option Addr} {c : Str} {fs : List (Str × D)} (h : XR B F cls dd c fs) : XR (B.wi I') F cls dd c fs := by
  obtain ⟨C, h1, h2, h3⟩ := h
  exact ⟨C, h1, h2, h3.imp_right fun ⟨e, vs, q1, q2, q3⟩ => ⟨e, vs, q1, q2, q3.wi⟩⟩
/-- the call, over the data -/
theorem sem_call {t : TA} {F ρ σ H} {as : List SV} {rs : List RV} {vs : List V} {F1 H1 : Hp} {ρ1 : Env} {Q : VK} (R : Rel (bas X I) F ρ σ H) (S1 : Stp F ρ σ H F1 ρ1 σ H1) (L1 : Live ρ ρ1) (R1 : Rel (bas X I) F1 ρ1 σ H1) (pr : PR (bas X I) F1 ρ1 σ vs rs) (ea : argsOf ρ1 rs = some as)
    (nd : (slotsOf rs).Nodup) (hq : (match m as with | .ok r ρa => Out.ok r (back ρ1 rs ρa) | .ex c fs ρa => .ex c fs (back ρ1 rs ρa) | .no => .no).OK (fun r ρ' => PostE (bas X I) F ρ σ H r ρ' Q) (fun c fs ρ' => PostX (bas X I) F ρ σ H c fs ρ' W)) (hn : as.length = n) :
    spOf (bas X I0) n m vs H1 Q (fun cls d H => W cls d σ H) := by
  have aok := argsOf_ok ea
  have R2 : Rel (bas X I0) F1 (envOf as) (vs.map some) H1 := Rel.wi (B := bas X I) (I' := I0) aok (args_rel R1 pr nd ea)
  refine ⟨F1, as, hn, aok, R2, ?_⟩
  have hb := fun ρa => back_at rs ρ1 ρa nd
  cases em : m as with
  | no => rw [em] at hq; exact hq.elim
  | ok r ρa =>
    rw [em] at hq
    refine fun F' H' v f r' => ?_
    obtain ⟨S2, R3⟩ := call_back S1 R1 pr nd ea (FinR.wi (I' := I) f)
    refine hq F' H' v S2 (L1.trans back_live) R3 (RetF.rvr (fun a z => S1.dom a z) (fun k a ⟨sv, h1, h2, h3⟩ => ?_) R1 (RetF.wi (I' := I) r'))
    rcases hb ρa k sv h1 with ⟨q, _⟩ | ⟨j, b, o0, q1, q2, q3⟩
    · exact ⟨sv, q, h2, h3⟩
    · exact ⟨_, q2, rfl, h3⟩
  | ex c fs ρa =>
    rw [em] at hq
    refine fun F' H' cls dd f x => ?_
    obtain ⟨S2, R3⟩ := call_back S1 R1 pr nd ea (FinR.wi (I' := I) f)
    exact hq F' H' cls dd S2 R3 (XR.wi (I' := I) x)
theorem args_len : ∀ {rs : List RV} {ρ : Env} {as : List SV}, argsOf ρ rs = some as → as.length = rs.length
  | [], _, _, e => by cases e; rfl
  | r :: rs, ρ, as, e => by
    simp only [argsOf] at e
    cases q0 : argSV ρ r with
    | none => rw [q0] at e; cases e
    | some a0 =>
      cases q : argsOf ρ rs with
      | none => rw [q0, q] at e; cases e
      | some as' => rw [q0, q] at e; cases e; simp [args_len q]
theorem eP_len : ∀ {fs : List ESem} {ρ ρ' : Env} {rs : List RV}, eP fs ρ = .ok rs ρ' → rs.length = fs.length
  | [], _, _, _, e => by cases e; rfl
  | f :: fs, ρ, ρ', rs, e => by
    rw [eP] at e
    cases q : f ρ with
    | no => rw [q] at e; cases e
    | ex c gs ρ1 => rw [q] at e; cases e
    | ok r ρ1 =>
      rw [q] at e
      simp only [Out.bind] at e
      cases q1 : prm ρ1 r with
      | none => rw [q1] at e; cases e
      | some r' =>
        rw [q1] at e
        dsimp only at e
        cases q2 : eP fs ρ1 with
        | no => rw [q2] at e; cases e
        | ex c gs ρ2 => rw [q2] at e; cases e
        | ok rs' ρ2 => rw [q2] at e; cases e; simp [eP_len q2]
theorem se_call (G : FnOk X.prog X.w X.K X.mg X.base (L2.CX X.prog X.w) k f fd ps (spOf (bas X I0) n m)) (hr : Room k X.A) (hg : Gl X x) (hm : X.mg x = some (.ref f)) (hk : PySem.W.keepIn X.K (.ref f) = true) (hb : Binds X.K fd ps []) (tk : Takes X W)
    (ha : SA X I W (e :: es) (eP fs)) (hn : fs.length = n) (hdb : (x == ("__debug__" : Str)) = false := by decide) (he : starEach (e :: es) X.env = (false, eval e X.env) :: starEach es X.env := by rfl) (hpl : (backTo pos (starEach es X.env)).any (·.1) = false := by rfl) :
    SE X I W (.Call (.Name x p) (e :: es) [] pos) (eCallF m fs) := by
  obtain ⟨t, q, mm⟩ := ha
  refine ⟨_, pe_callSD (E := fun σ cls d H => W cls d σ H) G hr hg hm hk hb .nil (fun σ => passAt tk σ) q hdb he hpl, fun F ρ σ H R Q hq => ?_⟩
  rw [eCallF, Out.OK_bind] at hq
  cases ee : eP fs ρ with
  | no => rw [ee] at hq; exact hq.elim
  | ex c gs ρ1 => exact mm F ρ σ H R _ (by rw [ee] at hq ⊢; exact hq)
  | ok rs ρ1 =>
    refine mm F ρ σ H R _ ?_
    rw [ee] at hq ⊢
    refine fun F1 H1 vs S1 L1 R1 pr => ?_
    show spOf (bas X I0) n m (vs ++ []) H1 Q (fun cls d H => W cls d σ H)
    rw [List.append_nil]
    cases ea : argsOf ρ1 rs with
    | none => simp only [Out.OK, ea] at hq
    | some as =>
      simp only [Out.OK, ea] at hq
      by_cases nd : (slotsOf rs).Nodup
      · rw [if_pos nd] at hq
        exact sem_call (t := t) R S1 L1 R1 pr ea nd hq (by rw [args_len ea, eP_len ee]; exact hn)
      · rw [if_neg nd] at hq; exact hq.elim
end
end DL
end
section
/-! D8: statements as functions of the slots; a def's body. -/
namespace DL
open PySem PySem.Spec L2

inductive SOut where
  | nx (ρ : Env) | rt (r : RV) (ρ : Env) | bk (ρ : Env) | ct (ρ : Env) | ex (c : Str) (fs : List (Str × D)) (ρ : Env) | no
abbrev SSem := Env → SOut
structure SP4 where
  nx : Env → Prop
  rt : RV → Env → Prop
  bk : Env → Prop
  ct : Env → Prop
  ex : Str → List (Str × D) → Env → Prop
def SOut.OK (o : SOut) (p : SP4) : Prop := match o with
  | .nx ρ => p.nx ρ
  | .rt r ρ => p.rt r ρ
  | .bk ρ => p.bk ρ
  | .ct ρ => p.ct ρ
  | .ex c fs ρ => p.ex c fs ρ
  | .no => False
theorem SOut.OK.imp {o : SOut} {p q : SP4} (h : o.OK p) (h1 : ∀ ρ, p.nx ρ → q.nx ρ) (h2 : ∀ r ρ, p.rt r ρ → q.rt r ρ) (h3 : ∀ ρ, p.bk ρ → q.bk ρ) (h4 : ∀ ρ, p.ct ρ → q.ct ρ) (h5 : ∀ c fs ρ, p.ex c fs ρ → q.ex c fs ρ) : o.OK q := by
  cases o with
  | nx ρ => exact h1 _ h
  | rt r ρ => exact h2 _ _ h
  | bk ρ => exact h3 _ h
  | ct ρ => exact h4 _ h
  | ex c fs ρ => exact h5 _ _ _ h
  | no => exact h
def SOut.bind (o : SOut) (f : Env → SOut) : SOut := match o with
  | .nx ρ => f ρ
  | o => o
def Out.sbind {α : Type} (o : Out α) (f : α → Env → SOut) : SOut := match o with
  | .ok a ρ => f a ρ
  | .ex c fs ρ => .ex c fs ρ
  | .no => .no
theorem Out.OK_sbind {α : Type} (o : Out α) (f : α → Env → SOut) (p : SP4) : (o.sbind f).OK p = o.OK (fun a ρ => (f a ρ).OK p) p.ex := by cases o <;> rfl

/-- a value that leaves the def -/
def RetR (B : Bas) (F' : Hp) (ρ : Env) (σ : St) (H H' : Hp) (v : V) : RV → Prop
  | .fz d => Rep B F' v d
  | .fr o => ∃ a, v = .ref a ∧ F' a = none ∧ RepO B F' H' a o ∧ (H a = none ∨ ∃ (k : Nat) (o0 : OB), ρ[k]? = some (some (.ow false o0)) ∧ σ[k]? = some (some (.ref a)))
  | .sl _ => False
def PostN (B : Bas) (F : Hp) (ρ : Env) (σ : St) (H : Hp) (ρ' : Env) (P : St → Hp → Prop) : Prop := ∀ F' σ' H', Stp F ρ σ H F' ρ' σ' H' → Rel B F' ρ' σ' H' → P σ' H'
def PostR (B : Bas) (F : Hp) (ρ : Env) (σ : St) (H : Hp) (r : RV) (ρ' : Env) (P : VK) : Prop := ∀ F' σ' H' v, Stp F ρ σ H F' ρ' σ' H' → Rel B F' ρ' σ' H' → RetR B F' ρ σ H H' v r → P v H'
def PostZ (B : Bas) (F : Hp) (ρ : Env) (σ : St) (H : Hp) (c : Str) (fs : List (Str × D)) (ρ' : Env) (W : WX) : Prop := ∀ F' σ' H' cls dd, Stp F ρ σ H F' ρ' σ' H' → Rel B F' ρ' σ' H' → XR B F' cls dd c fs → W cls dd σ' H'
def posts (B : Bas) (W : WX) (F : Hp) (ρ : Env) (σ : St) (H : Hp) (E : Ends) : SP4 where
  nx := fun ρ' => PostN B F ρ σ H ρ' E.nx
  rt := fun r ρ' => PostR B F ρ σ H r ρ' E.rt
  bk := fun ρ' => PostN B F ρ σ H ρ' E.bk
  ct := fun ρ' => PostN B F ρ σ H ρ' E.ct
  ex := fun c fs ρ' => PostZ B F ρ σ H c fs ρ' W
def SemS (B : Bas) (W : WX) (t : TS) (g : SSem) : Prop := ∀ F ρ σ H, Rel B F ρ σ H → ∀ E : Ends, (g ρ).OK (posts B W F ρ σ H E) → t E σ H
def SS (X : Cx) (I : Addr → Value → Option Addr → Prop) (W : WX) (st : Stmt) (g : SSem) : Prop := ∃ t, PS X st t ∧ SemS (bas X I) W t g
def SSs (X : Cx) (I : Addr → Value → Option Addr → Prop) (W : WX) (st : List Stmt) (g : SSem) : Prop := ∃ t, PSs X st t ∧ SemS (bas X I) W t g

section
variable {B : Bas} {W : WX} {F F1 H H1 : Hp} {ρ ρ1 ρ' : Env} {σ σ1 : St}
theorem PostN.back {P : St → Hp → Prop} (S : Stp F ρ σ H F1 ρ1 σ1 H1) (h : PostN B F ρ σ H ρ' P) : PostN B F1 ρ1 σ1 H1 ρ' P := fun F' σ' H' S' R' => h F' σ' H' (S.trans S') R'
theorem PostZ.back {c : Str} {fs : List (Str × D)} (S : Stp F ρ σ H F1 ρ1 σ1 H1) (h : PostZ B F ρ σ H c fs ρ' W) : PostZ B F1 ρ1 σ1 H1 c fs ρ' W := fun F' σ' H' cls dd S' R' x => h F' σ' H' cls dd (S.trans S') R' x
theorem RetR.back {F' H' : Hp} {v : V} {r : RV} (S : Stp F ρ σ H F1 ρ1 σ1 H1) (h : RetR B F' ρ1 σ1 H1 H' v r) : RetR B F' ρ σ H H' v r := by
  cases r with
  | fz d => exact h
  | sl i => exact h
  | fr o =>
    obtain ⟨a, e, h1, h2, h3⟩ := h
    refine ⟨a, e, h1, h2, ?_⟩
    rcases h3 with h3 | ⟨k, o0, g1, g2⟩
    · exact .inl (S.dom a h3)
    · rcases S.own k false o0 a g1 g2 with ⟨_, q⟩ | ⟨o1, q1, q2⟩
      · exact .inl q
      · exact .inr ⟨k, o1, q1, q2⟩
theorem PostR.back {r : RV} {P : VK} (S : Stp F ρ σ H F1 ρ1 σ1 H1) (h : PostR B F ρ σ H r ρ' P) : PostR B F1 ρ1 σ1 H1 r ρ' P := fun F' σ' H' v S' R' x => h F' σ' H' v (S.trans S') R' (x.back S)
theorem posts_back {E : Ends} {o : SOut} (S : Stp F ρ σ H F1 ρ1 σ1 H1) (h : o.OK (posts B W F ρ σ H E)) : o.OK (posts B W F1 ρ1 σ1 H1 E) :=
  h.imp (fun _ q => q.back S) (fun _ _ q => q.back S) (fun _ q => q.back S) (fun _ q => q.back S) fun _ _ _ q => q.back S
/-- an expression's raise, in a statement -/
theorem PostX.ofZ {c : Str} {fs : List (Str × D)} (h : PostZ B F ρ σ H c fs ρ' W) : PostX B F ρ σ H c fs ρ' W := fun F' H' cls dd S R x => h F' σ H' cls dd S R x
end

section
variable {X : Cx} {I : Addr → Value → Option Addr → Prop} {W : WX} {st : Stmt} {rest : List Stmt} {g g' : SSem} {e : Expr} {f : ESem} {pos : Pos}
/-! ### in a row -/
def sN : SSem := fun ρ => .nx ρ
def sQ (g g' : SSem) : SSem := fun ρ => (g ρ).bind g'
theorem nx_now {B : Bas} {W : WX} {F H : Hp} {ρ : Env} {σ : St} {P : St → Hp → Prop} (R : Rel B F ρ σ H) (h : PostN B F ρ σ H ρ P) : P σ H := h F σ H (Stp.refl _ _ _ _) R
theorem sss_nil : SSs X I W [] sN := ⟨_, pss_nil, fun F ρ σ H R E h => nx_now (W := W) R h⟩
theorem ss_pass : SS X I W (.Pass pos) sN := ⟨_, ps_pass, fun F ρ σ H R E h => nx_now (W := W) R h⟩
theorem ss_break : SS X I W (.Break pos) (fun ρ => .bk ρ) := ⟨_, ps_break, fun F ρ σ H R E h => nx_now (W := W) R h⟩
theorem ss_continue : SS X I W (.Continue pos) (fun ρ => .ct ρ) := ⟨_, ps_continue, fun F ρ σ H R E h => nx_now (W := W) R h⟩
theorem ss_doc {x : Str} {j : Nat} {pos' : Pos} : SS X I W (.Expr (.Constant (.str x) j pos) pos') sN := ⟨_, ps_doc, fun F ρ σ H R E h => nx_now (W := W) R h⟩
theorem sss_cons (h : SS X I W st g) (k : SSs X I W rest g') : SSs X I W (st :: rest) (sQ g g') := by
  obtain ⟨t, p, m⟩ := h
  obtain ⟨u, q, n⟩ := k
  refine ⟨_, pss_cons p q, fun F ρ σ H R E hq => ?_⟩
  refine m F ρ σ H R _ ?_
  unfold sQ SOut.bind at hq
  cases e : g ρ with
  | nx ρ1 =>
    rw [e] at hq
    exact fun F1 σ1 H1 S1 R1 => n F1 ρ1 σ1 H1 R1 E (posts_back S1 hq)
  | rt r ρ1 => rw [e] at hq; exact hq
  | bk ρ1 => rw [e] at hq; exact hq
  | ct ρ1 => rw [e] at hq; exact hq
  | ex c fs ρ1 => rw [e] at hq; exact hq
  | no => rw [e] at hq; exact hq
theorem sss_one (h : SS X I W st g) : SSs X I W [st] g := let ⟨t, p, m⟩ := h; ⟨t, pss_one p, m⟩
/-! ### an expression as a statement; return -/
def sE (f : ESem) : SSem := fun ρ => (f ρ).sbind fun _ ρ1 => .nx ρ1
theorem ss_expr (h : SE X I W e f) (hs : swapsWith e none pos.line X.env = pure false := by rfl) : SS X I W (.Expr e pos) (sE f) := by
  obtain ⟨t, p, m⟩ := h
  refine ⟨_, ps_expr p hs, fun F ρ σ H R E hq => ?_⟩
  rw [sE, Out.OK_sbind] at hq
  exact m F ρ σ H R _ (hq.imp (fun r ρ1 q F1 H1 v S1 L1 R1 r1 => q F1 σ H1 S1 R1) fun _ _ _ z => PostX.ofZ z)
/-- what a def gives back: of its own slots' lists it gives the list itself -/
def retV (ρ : Env) : RV → Option (RV × Env)
  | .fz d => some (.fz d, ρ)
  | .fr o => some (.fr o, ρ)
  | .sl i => match ρ[i]? with
    | some (some (.fz d)) => some (.fz d, ρ)
    | some (some (.ow false o)) => some (.fr o, ρ)
    | _ => none
def sR (f : ESem) : SSem := fun ρ => (f ρ).sbind fun r ρ1 => match retV ρ1 r with
  | some (r', ρ2) => .rt r' ρ2
  | none => .no
theorem retV_ok {B : Bas} {F F1 H H1 : Hp} {ρ ρ1 ρ2 : Env} {σ : St} {v : V} {r r' : RV} (S : Stp F ρ σ H F1 ρ1 σ H1) (R : Rel B F1 ρ1 σ H1) (h : RvR B F1 ρ1 σ H H1 v r) (e : retV ρ1 r = some (r', ρ2)) : ρ2 = ρ1 ∧ RetR B F1 ρ σ H H1 v r' := by
  cases r with
  | fz d => cases e; exact ⟨rfl, h⟩
  | fr o => cases e; obtain ⟨a, e1, h0, h1, h2, _⟩ := h; exact ⟨rfl, a, e1, h1, h2, .inl h0⟩
  | sl i =>
    obtain ⟨h1, sv, h2⟩ := h
    obtain ⟨v', g1, g2⟩ := R.sl i sv h2
    rw [h1] at g1; cases g1
    simp only [retV, h2] at e
    cases sv with
    | fz d => cases e; exact ⟨rfl, g2⟩
    | ow b o =>
      cases b with
      | true => cases e
      | false =>
        cases e
        obtain ⟨a, e1, q1, q2⟩ := g2
        subst e1
        refine ⟨rfl, a, rfl, q1, q2, ?_⟩
        rcases S.own i false o a h2 h1 with ⟨_, q⟩ | ⟨o0, w1, w2⟩
        · exact .inl q
        · exact .inr ⟨i, o0, w1, w2⟩
    | lk o => cases e
    | xn c fs => cases e
    | dd => cases e
theorem ss_ret (h : SE X I W e f) : SS X I W (.Return (some e) pos) (sR f) := by
  obtain ⟨t, p, m⟩ := h
  refine ⟨_, ps_ret p, fun F ρ σ H R E hq => ?_⟩
  rw [sR, Out.OK_sbind] at hq
  refine m F ρ σ H R _ (hq.imp (fun r ρ1 q F1 H1 v S1 L1 R1 r1 => ?_) fun _ _ _ z => PostX.ofZ z)
  cases e : retV ρ1 r with
  | none => rw [e] at q; exact q.elim
  | some z =>
    obtain ⟨r', ρ2⟩ := z
    rw [e] at q
    obtain ⟨e2, r2⟩ := retV_ok S1 R1 r1 e
    subst e2
    exact q F1 σ H1 v S1 R1 r2
theorem ss_retN : SS X I W (.Return none pos) (fun ρ => .rt (.fz .non) ρ) := ⟨_, ps_retN, fun F ρ σ H R E h => h F σ H .non (Stp.refl _ _ _ _) R Rep.non⟩
/-! ### if -/
def sIf (c : CSem) (g g' : SSem) : SSem := fun ρ => (c ρ).sbind fun k ρ1 => if k = true then g ρ1 else g' ρ1
theorem ss_if {c : Expr} {a b : List Stmt} {cf : CSem} (hc : SC X I W c cf) (h : SSs X I W a g) (k : SSs X I W b g') : SS X I W (.If c a b pos) (sIf cf g g') := by
  obtain ⟨tc, pc, mc⟩ := hc
  obtain ⟨t, p, m⟩ := h
  obtain ⟨u, q, n⟩ := k
  refine ⟨_, ps_if pc p q, fun F ρ σ H R E hq => ?_⟩
  rw [sIf, Out.OK_sbind] at hq
  refine mc F ρ σ H R _ (hq.imp (fun k ρ1 hq F1 H1 S1 L1 R1 => ?_) fun _ _ _ z => PostX.ofZ z)
  cases k with
  | true => rw [if_pos rfl] at hq ⊢; exact m F1 ρ1 σ H1 R1 E (posts_back S1 hq)
  | false => rw [if_neg Bool.false_ne_true] at hq ⊢; exact n F1 ρ1 σ H1 R1 E (posts_back S1 hq)
end

/-! ### a name's store -/
/-- what a name then holds; a slot's own list that gets a second name is plain data from then on -/
def putV (ρ : Env) (i : Nat) : RV → Option Env
  | .fz d => some (ρ.set i (some (.fz d)))
  | .fr o => some (ρ.set i (some (.ow false o)))
  | .sl j => match frz ρ (.sl j) with
    | some (d, ρ') => some (ρ'.set i (some (.fz d)))
    | none => none
theorem set_same {α : Type} {l : List α} {i : Nat} {x y : α} (h : (l.set i x)[i]? = some y) : y = x := by
  rcases get_set h with ⟨_, e⟩ | ⟨e, _⟩
  · exact e
  · exact absurd rfl e
theorem Rel.put {B : Bas} {F F0 H H0 : Hp} {ρ ρ0 : Env} {σ σ0 : St} {i : Nat} {v : V} {sv : SV} (R : Rel B F ρ σ H) (S : Stp F0 ρ0 σ0 H0 F ρ σ H) (h : SvR B F H v sv) (ho : sv.obj = true → ∃ o, sv = .ow false o ∧ ∃ a, v = .ref a ∧ H0 a = none ∧ ∀ k, ¬ HasAt ρ σ k a) :
    Rel B F (ρ.set i (some sv)) (σ.set i (some v)) H ∧ Stp F0 ρ0 σ0 H0 F (ρ.set i (some sv)) (σ.set i (some v)) H := by
  have old : ∀ (k : Nat) (s : SV), (ρ.set i (some sv))[k]? = some (some s) → (i = k ∧ s = sv) ∨ (i ≠ k ∧ ρ[k]? = some (some s)) := fun k s q => by
    rcases get_set q with ⟨e, z⟩ | ⟨e, z⟩
    · injection z with z; exact .inl ⟨e, z⟩
    · exact .inr ⟨e, z⟩
  have oldv : ∀ (k : Nat) (a : Addr), i ≠ k → (σ.set i (some v))[k]? = some (some (.ref a)) → σ[k]? = some (some (.ref a)) := fun k a e q => by
    rcases get_set q with ⟨z, _⟩ | ⟨_, z⟩
    · exact absurd z e
    · exact z
  have newv : ∀ (a : Addr), (σ.set i (some v))[i]? = some (some (.ref a)) → v = .ref a := fun a q => by
    have := set_same q
    injection this with this
    exact this.symm
  have hasC : ∀ k a, HasAt (ρ.set i (some sv)) (σ.set i (some v)) k a → (i = k ∧ H0 a = none ∧ ∀ j, ¬ HasAt ρ σ j a) ∨ (i ≠ k ∧ HasAt ρ σ k a) := fun k a ⟨s, q1, q2, q3⟩ => by
    rcases old k s q1 with ⟨e, z⟩ | ⟨e, z⟩
    · subst e; subst z
      obtain ⟨o, _, a', e', h0, hn⟩ := ho q2
      have e2 := newv a q3
      rw [e'] at e2; cases e2
      exact .inl ⟨rfl, h0, hn⟩
    · exact .inr ⟨e, s, z, q2, oldv k a e q3⟩
  refine ⟨⟨R.ext, by rw [List.length_set, List.length_set]; exact R.len, fun k s q => ?_, fun j k a q1 q2 => ?_⟩, ⟨S.mono, S.newF, S.keep, S.dom, fun k a q => ?_, fun k b o a q1 q2 => ?_, fun k o a q1 q2 => ?_⟩⟩
  · rcases old k s q with ⟨e, z⟩ | ⟨e, z⟩
    · subst e; subst z
      have hi : i < ρ.length := by
        have := (List.getElem?_eq_some_iff.mp q).1
        rwa [List.length_set] at this
      exact ⟨v, by rw [List.getElem?_set, if_pos rfl, if_pos (by rw [R.len]; exact hi)], h⟩
    · obtain ⟨w, g1, g2⟩ := R.sl k s z
      exact ⟨w, by rw [List.getElem?_set, if_neg e]; exact g1, g2⟩
  · have q1' := q1.has
    rcases hasC j a q1' with ⟨e1, z1, n1⟩ | ⟨e1, z1⟩
    · rcases hasC k a q2 with ⟨e2, _, _⟩ | ⟨_, z2⟩
      · exact e1.symm.trans e2
      · exact absurd z2 (n1 k)
    · rcases hasC k a q2 with ⟨_, _, n2⟩ | ⟨e2, z2⟩
      · exact absurd z1 (n2 j)
      · obtain ⟨b, o, w1, w2⟩ := q1
        rcases old j _ w1 with ⟨e, _⟩ | ⟨_, w1⟩
        · exact absurd e e1
        · exact R.sep j k a ⟨b, o, w1, oldv j a e1 w2⟩ z2
  · rcases hasC k a q with ⟨_, z, _⟩ | ⟨_, z⟩
    · exact .inl z
    · exact S.has k a z
  · rcases old k _ q1 with ⟨e, z⟩ | ⟨e, z⟩
    · subst e
      obtain ⟨o', e', a', ea, h0, _⟩ := ho (by rw [← z]; rfl)
      rw [e'] at z; cases z
      have e2 := newv a q2
      rw [ea] at e2; cases e2
      exact .inl ⟨rfl, h0⟩
    · exact S.own k b o a z (oldv k a e q2)
  · rcases old k _ q1 with ⟨e, z⟩ | ⟨e, z⟩
    · obtain ⟨o', e', _⟩ := ho (by rw [← z]; rfl)
      rw [e'] at z; cases z
    · exact S.lks k o a z (oldv k a e q2)
theorem putV_ok {B : Bas} {F F0 H H0 : Hp} {ρ ρ0 ρ' : Env} {σ σ0 : St} {i : Nat} {v : V} {r : RV} (R : Rel B F ρ σ H) (S : Stp F0 ρ0 σ0 H0 F ρ σ H) (h : RvR B F ρ σ H0 H v r) (e : putV ρ i r = some ρ') :
    ∃ F', Rel B F' ρ' (σ.set i (some v)) H ∧ Stp F0 ρ0 σ0 H0 F' ρ' (σ.set i (some v)) H := by
  cases r with
  | fz d => cases e; exact ⟨F, R.put (sv := .fz d) S h (fun z => nomatch z)⟩
  | fr o =>
    cases e
    obtain ⟨a, e1, h0, hf, hr, hn⟩ := h
    exact ⟨F, R.put (sv := .ow false o) S ⟨a, e1, hf, hr⟩ fun _ => ⟨o, rfl, a, e1, h0, hn⟩⟩
  | sl j =>
    simp only [putV] at e
    cases q : frz ρ (.sl j) with
    | none => rw [q] at e; cases e
    | some z =>
      obtain ⟨d, ρ1⟩ := z
      rw [q] at e; cases e
      obtain ⟨F', S', _, R', r', _⟩ := frz_ok R S h q
      exact ⟨F', R'.put (sv := .fz d) S' r' (fun z => nomatch z)⟩
section
variable {X : Cx} {I : Addr → Value → Option Addr → Prop} {W : WX} {st : Stmt} {rest : List Stmt} {g g' : SSem} {e : Expr} {f : ESem} {pos : Pos}
def sA (i : Nat) (f : ESem) : SSem := fun ρ => (f ρ).sbind fun r ρ1 => match putV ρ1 i r with
  | some ρ2 => .nx ρ2
  | none => .no
theorem sem_asg {B : Bas} {i : Nat} {t : TE} (m : SemG B W t f (PostE B)) : SemS B W (tAsg t (gName i)) (sA i f) := by
  intro F ρ σ H R E hq
  rw [sA, Out.OK_sbind] at hq
  refine m F ρ σ H R _ (hq.imp (fun r ρ1 hq F1 H1 v S1 L1 R1 r1 => ?_) fun _ _ _ z => PostX.ofZ z)
  cases e : putV ρ1 i r with
  | none => rw [e] at hq; exact hq.elim
  | some ρ2 =>
    rw [e] at hq
    obtain ⟨F2, R2, S2⟩ := putV_ok R1 S1 r1 e
    exact hq F2 _ H1 S2 R2
theorem ss_set {i : Nat} {x : Str} {pos' : Pos} (hN : X.N.Nodup) (hi : X.N[i]? = some x) (hx : Loc X.env.scope x) (h : SE X I W e f) (hs : swapsWith e (some (.Name x pos')) pos.line X.env = pure false := by rfl) (hf : X.fn x = true ∨ X.env.scope.names.lookup x = some .local := by first | exact .inl rfl | exact .inr rfl | assumption) :
    SS X I W (.Assign [.Name x pos'] e pos) (sA i f) := by
  obtain ⟨t, p, m⟩ := h
  exact ⟨_, ps_set hN hi hx p hs hf, sem_asg m⟩
/-! ### a, b = x, y -/
def sPar (i j : Nat) (fa fb : ESem) : SSem := fun ρ => (eL [fa, fb] ρ).sbind fun ds ρ1 => match ds with
  | [x, y] => .nx ((ρ1.set i (some (.fz x))).set j (some (.fz y)))
  | _ => .no
theorem ss_par {i j : Nat} {x y : Str} {a b : Expr} {fa fb : ESem} {px py pt : Pos} {kt k2 : Nat} {pt2 : Pos} (hc : X.calm = true) (hN : X.N.Nodup) (hi : X.N[i]? = some x) (hj : X.N[j]? = some y) (hij : i ≠ j)
    (hx : X.env.scope.names.lookup x = some .local) (hy : X.env.scope.names.lookup y = some .local) (ha : SL X I W [a, b] (eL [fa, fb]))
    (hw : swappedStores [.Tuple [.Name x px, .Name y py] kt pt] (.Tuple [a, b] k2 pt2) X.env = pure (some [x, y]))
    (hs : swapsWithSole [.Tuple [.Name x px, .Name y py] kt pt] (.Tuple [a, b] k2 pt2) pos.line X.env = pure false := by rfl) :
    SS X I W (.Assign [.Tuple [.Name x px, .Name y py] kt pt] (.Tuple [a, b] k2 pt2) pos) (sPar i j fa fb) := by
  obtain ⟨t, p, m⟩ := ha
  refine ⟨_, ps_par hc hN hi hj hij hx hy p hw hs, fun F ρ σ H R E hq => ?_⟩
  rw [sPar, Out.OK_sbind] at hq
  refine m F ρ σ H R _ (hq.imp (fun ds ρ1 hq F1 H1 vs S1 L1 R1 r1 => ?_) fun _ _ _ z => PostX.ofZ z)
  cases r1 with
  | nil => exact hq.elim
  | cons r1 r2 =>
    cases r2 with
    | nil => exact hq.elim
    | cons r2 r3 =>
      cases r3 with
      | cons _ _ => exact hq.elim
      | nil =>
        refine ⟨_, _, rfl, ?_⟩
        obtain ⟨R2, S2⟩ := R1.put (i := i) (sv := .fz _) S1 r1 (fun z => nomatch z)
        obtain ⟨R3, S3⟩ := R2.put (i := j) (sv := .fz _) S2 r2 (fun z => nomatch z)
        exact hq F1 _ H1 S3 R3
end

/-! ### a def's body -/
def runB (g : SSem) (n : Nat) : FSem := fun as => match g (envOf as ++ List.replicate (n - as.length) none) with
  | .nx ρ => .ok (.fz .non) ρ
  | .rt r ρ => .ok r ρ
  | .ex c fs ρ => .ex c fs ρ
  | _ => .no
theorem get_app {α : Type} {l m : List α} {k : Nat} {x : α} (h : (l ++ m)[k]? = some x) : l[k]? = some x ∨ x ∈ m := by
  rw [List.getElem?_append] at h
  split at h
  · exact .inl h
  · exact .inr (List.mem_of_getElem? h)
section
variable {P : Program} {w : World} {K : PySem.W.Frag} {mg : Str → Option Value} {base : Heap}
theorem start_rel {B : Bas} {F H : Hp} {as : List SV} {vs : List V} {n : Nat} {N : List Str} (hl : vs.length = as.length) (hN : N.length = n) (R : Rel B F (envOf as) (vs.map some) H) : Rel B F (envOf as ++ List.replicate (n - as.length) none) (L2.start N vs) H := by
  unfold L2.start
  have gρ : ∀ (k : Nat) (sv : SV), (envOf as ++ List.replicate (n - as.length) none)[k]? = some (some sv) → (envOf as)[k]? = some (some sv) := fun k sv h => by
    rcases get_app h with h | h
    · exact h
    · exact absurd (List.eq_of_mem_replicate h) (by simp)
  have gσ : ∀ (k : Nat) (v : V), (vs.map some ++ List.replicate (N.length - vs.length) none)[k]? = some (some v) → (vs.map some)[k]? = some (some v) := fun k v h => by
    rcases get_app h with h | h
    · exact h
    · exact absurd (List.eq_of_mem_replicate h) (by simp)
  refine ⟨R.ext, by unfold envOf; simp only [List.length_append, List.length_map, List.length_replicate]; omega, fun k sv h => ?_, fun i j a h1 h2 => ?_⟩
  · obtain ⟨v, g1, g2⟩ := R.sl k sv (gρ k sv h)
    exact ⟨v, by rw [List.getElem?_append, if_pos (List.getElem?_eq_some_iff.mp g1).1]; exact g1, g2⟩
  · obtain ⟨b, o, w1, w2⟩ := h1
    obtain ⟨s, w3, w4, w5⟩ := h2
    exact R.sep i j a ⟨b, o, gρ _ _ w1, gσ _ _ w2⟩ ⟨s, gρ _ _ w3, w4, gσ _ _ w5⟩
/-- from the slots' end to what the caller is told -/
theorem fin_of {B : Bas} {F H F' H' : Hp} {as : List SV} {vs : List V} {n : Nat} {N : List Str} {ρ' : Env} {σ' : St} (hl : vs.length = as.length) (hN : N.length = n) (S : Stp F (envOf as ++ List.replicate (n - as.length) none) (L2.start N vs) H F' ρ' σ' H') (R : Rel B F' ρ' σ' H') : FinR B F as vs H F' ρ' H' := by
  have gρ : ∀ (k : Nat) (sv : SV), (envOf as ++ List.replicate (n - as.length) none)[k]? = some (some sv) → (envOf as)[k]? = some (some sv) := fun k sv h => by
    rcases get_app h with h | h
    · exact h
    · exact absurd (List.eq_of_mem_replicate h) (by simp)
  have gσ : ∀ (k : Nat) (v : V), (L2.start N vs)[k]? = some (some v) → (vs.map some)[k]? = some (some v) := fun k v h => by
    unfold L2.start at h
    rcases get_app h with h | h
    · exact h
    · exact absurd (List.eq_of_mem_replicate h) (by simp)
  have own : ∀ k a, OwnAt (envOf as ++ List.replicate (n - as.length) none) (L2.start N vs) k a → OwnAt (envOf as) (vs.map some) k a := fun k a ⟨b, o, h1, h2⟩ => ⟨b, o, gρ _ _ h1, gσ _ _ h2⟩
  refine ⟨S.mono, fun a h => ?_, fun a o h hn => S.keep a o h fun k hk => hn k (own k a hk), S.dom, R.ext, fun k o h => ?_⟩
  · rcases S.newF a h with h | h | ⟨k, h⟩
    · exact .inl h
    · exact .inr (.inl h)
    · exact .inr (.inr ⟨k, own k a h⟩)
  · obtain ⟨v, g1, a, e, g2, g3⟩ := R.sl k _ h
    subst e
    rcases S.own k true o a h g1 with ⟨z, _⟩ | ⟨o0, q1, q2⟩
    · cases z
    · have q2' := gσ _ _ q2
      rw [List.getElem?_map] at q2'
      refine ⟨a, ?_, g2, g3⟩
      cases w : vs[k]? with
      | none => rw [w] at q2'; cases q2'
      | some u => rw [w] at q2'; exact Option.some.inj q2'
theorem fn_data {x qual : Str} {st : Stmt} {f : Addr} {fd : FuncData} {N ps : List Str} {k : Nat} {g : SSem} (Fn : Fun K x qual st f fd) (S : FnScope N ps (defScope st))
    (body : ∀ (cdv : Value) (A : Around) (outer : List PySem.Env) (s : Shared) (H : Hp) (E : XK) , Room k (A.deeper (PyProof.Rows.envOfC qual (defScope st) s.heap.objs.size f cdv)) →
      Takes (cxOf (L2.CX P w) P w K mg base N qual (defScope st) f cdv A outer s H E) (fun cls d _ H => E cls d H) →
      SSs (cxOf (L2.CX P w) P w K mg base N qual (defScope st) f cdv A outer s H E) I0 (fun cls d _ H => E cls d H) (defBody st) g) :
    FnOk P w K mg base (L2.CX P w) (k + 1) f fd ps (spOf ⟨K, mg, I0⟩ ps.length (runB g N.length)) := by
  refine Fn.okX S (fun vs H Q E h => spOf_len vs H Q E h) fun cdv A outer s H vs Q E hr h => ?_
  have hlen := spOf_len vs H Q E h
  obtain ⟨F, as, hn, ha, R, hq⟩ := h
  have hl : vs.length = as.length := hlen.trans hn.symm
  obtain ⟨t, p, m⟩ := body cdv A outer s H E hr (takes_of rfl rfl rfl rfl)
  refine ⟨t, p, m F _ (L2.start N vs) H (start_rel hl rfl R) _ ?_⟩
  unfold runB at hq
  have noF' : ∀ (k : Nat) (o0 : OB), (envOf as ++ List.replicate (N.length - as.length) none)[k]? ≠ some (some (.ow false o0)) := fun k o0 h => by
    rcases get_app h with h | h
    · unfold envOf at h
      rw [List.getElem?_map] at h
      cases w : as[k]? with
      | none => rw [w] at h; cases h
      | some u =>
        rw [w] at h; injection h with h; injection h with h; subst h
        have := List.all_eq_true.mp ha _ (List.mem_of_getElem? w)
        cases this
    · exact absurd (List.eq_of_mem_replicate h) (by simp)
  cases e : g (envOf as ++ List.replicate (N.length - as.length) none) with
  | nx ρ' => rw [e] at hq; exact fun F' σ' H' S' R' => hq F' H' .non (fin_of hl rfl S' R') Rep.non
  | rt r ρ' =>
    rw [e] at hq
    refine fun F' σ' H' v S' R' r' => hq F' H' v (fin_of hl rfl S' R') ?_
    cases r with
    | fz d => exact r'
    | sl i => exact r'
    | fr o =>
      obtain ⟨a, e1, h1, h2, h3⟩ := r'
      rcases h3 with h3 | ⟨k, o0, h3, _⟩
      · exact ⟨a, e1, h3, h1, h2⟩
      · exact absurd h3 (noF' k o0)
  | bk ρ' => rw [e] at hq; exact hq.elim
  | ct ρ' => rw [e] at hq; exact hq.elim
  | ex c fs ρ' => rw [e] at hq; exact fun F' σ' H' cls dd S' R' x => hq F' H' cls dd (fin_of hl rfl S' R') x
  | no => rw [e] at hq; exact hq.elim
end
end DL
end
section
/-! D9: what changes a slot's list; loops. -/
namespace DL
open PySem PySem.Spec L2

/-! ### a slot's list changed -/
theorem Rel.mutate {B : Bas} {F H : Hp} {ρ : Env} {σ : St} {k : Nat} {b : Bool} {o o' : OB} {a : Addr} {u : HO} (R : Rel B F ρ σ H) (h1 : ρ[k]? = some (some (.ow b o))) (h2 : σ[k]? = some (some (.ref a))) (hn : RepO B F (upd H a u) a o') :
    Rel B F (ρ.set k (some (.ow b o'))) σ (upd H a u) ∧ Stp F ρ σ H F (ρ.set k (some (.ow b o'))) σ (upd H a u) := by
  obtain ⟨v, g1, a', e, hf, hr⟩ := R.sl k _ h1
  rw [h2] at g1; cases g1; cases e
  have own : OwnAt ρ σ k a := ⟨b, o, h1, h2⟩
  have kp : ∀ c w, c ≠ a → H c = some w → upd H a u c = some w := fun c w z q => by rw [upd_ne z]; exact q
  have old : ∀ (j : Nat) (s : SV), (ρ.set k (some (.ow b o')))[j]? = some (some s) → (k = j ∧ s = .ow b o') ∨ (k ≠ j ∧ ρ[j]? = some (some s)) := fun j s q => by
    rcases get_set q with ⟨e, z⟩ | ⟨e, z⟩
    · injection z with z; exact .inl ⟨e, z⟩
    · exact .inr ⟨e, z⟩
  have has : ∀ j c, HasAt (ρ.set k (some (.ow b o'))) σ j c → HasAt ρ σ j c := fun j c ⟨s, q1, q2, q3⟩ => by
    rcases old j s q1 with ⟨e, _⟩ | ⟨_, z⟩
    · subst e; exact ⟨_, h1, rfl, q3⟩
    · exact ⟨s, z, q2, q3⟩
  have ow : ∀ (j : Nat) (b' : Bool) (o1 : OB), (ρ.set k (some (.ow b o')))[j]? = some (some (.ow b' o1)) → ∃ o2, ρ[j]? = some (some (.ow b' o2)) := fun j b' o1 q => by
    rcases old j _ q with ⟨e, z⟩ | ⟨_, z⟩
    · subst e; cases z; exact ⟨o, h1⟩
    · exact ⟨o1, z⟩
  refine ⟨⟨fun c w q => kp c w (fun z => by rw [z, hf] at q; cases q) (R.ext c w q), by rw [List.length_set]; exact R.len, fun j s q => ?_, fun i j c q1 q2 => ?_⟩,
    ⟨fun _ _ q => q, fun _ q => .inl q, fun c w q hno => kp c w (fun z => hno k (by rw [z]; exact own)) q, fun c q => ?_, fun j c q => .inr (has j c q), fun j b' o1 c q1 q2 => let ⟨o2, q⟩ := ow j b' o1 q1; .inr ⟨o2, q, q2⟩, fun j o1 c q1 q2 => ?_⟩⟩
  · rcases old j s q with ⟨e, z⟩ | ⟨e, z⟩
    · subst e; subst z; exact ⟨_, h2, a, rfl, hf, hn⟩
    · obtain ⟨w, w1, w2⟩ := R.sl j s z
      refine ⟨w, w1, ?_⟩
      have ne : s.obj = true → ∀ c, w = .ref c → c ≠ a := fun hs c ec ea => by
        subst ec; subst ea
        exact e (R.sep k j c own ⟨s, z, hs, w1⟩)
      cases s with
      | fz d => exact w2
      | ow b' o1 => obtain ⟨c, e1, e2, e3⟩ := w2; exact ⟨c, e1, e2, e3.keep (fun _ _ q => q) fun w q => kp c w (ne rfl c e1) q⟩
      | lk o1 => obtain ⟨c, e1, e2, e3⟩ := w2; exact ⟨c, e1, e2, e3.keep (fun _ _ q => q) fun w q => kp c w (ne rfl c e1) q⟩
      | xn c fs => exact w2
      | dd => trivial
  · obtain ⟨b', o1, w1, w2⟩ := q1
    obtain ⟨o2, q⟩ := ow i b' o1 w1
    exact R.sep i j c ⟨b', o2, q, w2⟩ (has j c q2)
  · by_cases z : c = a
    · subst z; rw [upd_same] at q; cases q
    · rw [upd_ne z] at q; exact q
  · rcases old j _ q1 with ⟨_, z⟩ | ⟨_, z⟩
    · cases z
    · exact ⟨o1, z, q2⟩

/-- a method that changes the list of a slot: what it gives, what the list becomes -/
abbrev MSem := List D → List D → Option (D × List D)
def MutS (B : Bas) (r : V → List V → Hp → VK → Prop) (g : MSem) : Prop := ∀ (F H : Hp) (a : Addr) (us : List V) (xs : List D) (vs : List V) (ds : List D) (d : D) (xs' : List D), (∀ a o, F a = some o → H a = some o) → H a = some (.lst us) → RepL B F us xs → RepL B F vs ds → g xs ds = some (d, xs') → ∀ Q : VK,
  (∀ w us', RepL B F us' xs' → Rep B F w d → Q w (upd H a (.lst us'))) → r (.ref a) vs H Q
def eMut (k : Nat) (g : MSem) (fs : List ESem) : ESem := fun ρ => match ρ[k]? with
  | some (some (.ow _ (.lst _))) => (eL fs ρ).bind fun ds ρ1 => (match ρ1[k]? with
    | some (some (.ow b (.lst xs))) => (match g xs ds with
      | some (d, xs') => .ok (.fz d) (ρ1.set k (some (.ow b (.lst xs'))))
      | none => .no)
    | _ => .no)
  | _ => .no
section
variable {X : Cx} {I : Addr → Value → Option Addr → Prop} {W : WX} {e : Expr} {es : List Expr} {fs : List ESem} {g : MSem} {r : V → List V → Hp → VK → Prop} {k : Nat} {x name : Str} {apos cpos p : Pos} {id : String}
theorem sem_mut {t : TA} (hg : MutS (bas X I) r g) (m : SemG (bas X I) W t (eL fs) (PostL (bas X I))) : SemG (bas X I) W (tBM X.K "list" r (tVar k) t) (eMut k g fs) (PostE (bas X I)) := by
  intro F ρ σ H R Q hq
  unfold eMut at hq
  cases e1 : ρ[k]? with
  | none => rw [e1] at hq; exact hq.elim
  | some o =>
    cases o with
    | none => rw [e1] at hq; exact hq.elim
    | some sv =>
      obtain ⟨v, h1, h2⟩ := R.sl k sv e1
      cases sv with
      | ow b o =>
        cases o with
        | ob c fs => rw [e1] at hq; exact hq.elim
        | dK _ => rw [e1] at hq; exact hq.elim
        | dT _ => rw [e1] at hq; exact hq.elim
        | lst xs =>
          rw [e1] at hq
          dsimp only at hq
          obtain ⟨a, e2, hf, us, hH, hl⟩ := h2
          subst e2
          refine ⟨_, h1, .inl ⟨rfl, us, SqL.of hH⟩, ?_⟩
          rw [Out.OK_bind] at hq
          refine m F ρ σ H R _ (hq.imp (fun ds ρ1 hq F1 H1 vs S1 L1 R1 r1 => ?_) fun _ _ _ z => z)
          cases e3 : ρ1[k]? with
          | none => rw [e3] at hq; exact hq.elim
          | some o =>
            cases o with
            | none => rw [e3] at hq; exact hq.elim
            | some sv1 =>
              cases sv1 with
              | ow b1 o1 =>
                cases o1 with
                | ob c fs => rw [e3] at hq; exact hq.elim
                | dK _ => rw [e3] at hq; exact hq.elim
                | dT _ => rw [e3] at hq; exact hq.elim
                | lst xs1 =>
                  rw [e3] at hq
                  dsimp only at hq
                  obtain ⟨v1, g1, g2⟩ := R1.sl k _ e3
                  rw [h1] at g1; cases g1
                  obtain ⟨a', e4, hf1, us1, hH1, hl1⟩ := g2
                  cases e4
                  cases e5 : g xs1 ds with
                  | none => rw [e5] at hq; exact hq.elim
                  | some z =>
                    obtain ⟨d, xs'⟩ := z
                    rw [e5] at hq
                    refine hg F1 H1 a us1 xs1 vs ds d xs' R1.ext hH1 hl1 r1 e5 Q fun w us' l' w' => ?_
                    obtain ⟨R2, S2⟩ := R1.mutate (o' := .lst xs') (u := .lst us') e3 h1 ⟨us', upd_same, l'⟩
                    exact hq F1 _ w (S1.trans S2) (L1.trans live_set) R2 w'
              | _ => rw [e3] at hq; exact hq.elim
      | _ => rw [e1] at hq; exact hq.elim
theorem se_mut (slot : Slot "list" name id) (hty : typeOf (.builtin id) = pure (.type "method_descriptor")) (hm : MtR X id r) (hg : MutS (bas X I) r g) (hv : PE X (.Name x p) (tVar k)) (h : SL X I W (e :: es) (eL fs))
    (hbase : attributeBase (.Name x p) name X.env (eval (.Name x p) X.env) = eval (.Name x p) X.env := by rfl)
    (hfew : ((backTo cpos (starEach (e :: es) X.env)).all (fun x => !x.1) && (backToKw cpos (keywordEach [] X.env)).all (fun x => x.1.isSome)
      && decide ((e :: es).length + ([] : List Keyword).length + (if ([] : List Keyword).isEmpty then 0 else 1) < 30)) = true := by rfl)
    (hline : (apos.endLine == cpos.line) = true := by rfl) (hs : starEach (e :: es) X.env = (false, eval e X.env) :: starEach es X.env := by rfl) (hplain : (backTo cpos (starEach es X.env)).any (·.1) = false := by rfl) :
    SE X I W (.Call (.Attribute (.Name x p) name apos) (e :: es) [] cpos) (eMut k g fs) := by
  obtain ⟨t, q, m⟩ := h
  exact ⟨_, pe_bm PySem.F.plainAttrs_list slot hty hm hv q hbase hfew hline hs hplain, sem_mut hg m⟩
theorem se_mut0 (slot : Slot "list" name id) (hty : typeOf (.builtin id) = pure (.type "method_descriptor")) (hm : MtR X id r) (hg : MutS (bas X I) r g) (hv : PE X (.Name x p) (tVar k))
    (hbase : attributeBase (.Name x p) name X.env (eval (.Name x p) X.env) = eval (.Name x p) X.env := by rfl) (hline : (apos.endLine == cpos.line) = true := by rfl) :
    SE X I W (.Call (.Attribute (.Name x p) name apos) [] [] cpos) (eMut k g []) := by
  refine ⟨_, pe_bm0 PySem.F.plainAttrs_list slot hty hm hv hbase hline, ?_⟩
  exact sem_mut (t := fun σ H Q => Q [] H) hg fun F ρ σ H R Q h => h F H [] (Stp.refl _ _ _ _) (Live.refl _) R .nil
end
section
variable {B : Bas}
def appM : MSem := fun xs ds => match ds with
  | [d] => if xs.length < sizeLine then some (.non, xs ++ [d]) else none
  | _ => none
theorem mut_app : MutS B rAppend appM := by
  intro F H a us xs vs ds d xs' m hH hl hv e Q q
  unfold appM at e
  cases hv with
  | nil => cases e
  | cons h1 h2 =>
    cases h2 with
    | cons _ _ => cases e
    | nil =>
      dsimp only at e
      split at e
      · rename_i z
        cases e
        exact ⟨a, us, _, rfl, rfl, hH, by rw [hl.length]; exact z, q _ _ (hl.append (.cons h1 .nil)) .non⟩
      · cases e
def popM : MSem := fun xs ds => match ds with
  | [] => match xs[xs.length - 1]? with
    | some d => some (d, xs.dropLast)
    | none => none
  | [.int i] => if -(2 ^ 63) ≤ i ∧ i < 2 ^ 63 then (match ixN xs.length i with
    | some j => (match xs[j]? with
      | some d => some (d, xs.eraseIdx j)
      | none => none)
    | none => none) else none
  | _ => none
theorem mut_pop : MutS B (fun x vs H Q => rPop x vs H Q ∨ rPopAt x vs H Q) popM := by
  intro F H a us xs vs ds d xs' m hH hl hv e Q q
  unfold popM at e
  cases hv with
  | nil =>
    dsimp only at e
    cases w : xs[xs.length - 1]? with
    | none => rw [w] at e; cases e
    | some d' =>
      rw [w] at e; cases e
      obtain ⟨v, h1, h2⟩ := hl.get w
      exact .inl ⟨a, us, v, rfl, rfl, hH, by rw [hl.length]; exact h1, q _ _ hl.dropLast h2⟩
  | cons h1 h2 =>
    cases h2 with
    | cons _ _ => split at e <;> simp_all
    | nil =>
      split at e
      · simp_all
      · rename_i i heq
        cases heq
        cases h1
        split at e
        · rename_i z
          cases w : ixN xs.length i with
          | none => rw [w] at e; cases e
          | some j =>
            rw [w] at e
            dsimp only at e
            cases w2 : xs[j]? with
            | none => rw [w2] at e; cases e
            | some d' =>
              rw [w2] at e; cases e
              obtain ⟨v, h1, h2⟩ := hl.get w2
              exact .inr ⟨a, us, i, j, v, rfl, rfl, hH, z.1, z.2, by rw [hl.length]; exact (ixN_seq w).1, h1, q _ _ (hl.erase j) h2⟩
        · cases e
      · cases e
end
theorem mt_popA {X : Cx} : MtR X "list.pop" (fun x vs H Q => rPop x vs H Q ∨ rPopAt x vs H Q) := MtR.or mt_pop mt_popAt
/-! ### x[i] = e -/
def sI (k : Nat) (fi fv : ESem) : SSem := fun ρ => (eF fv ρ).sbind fun d ρ1 => match ρ1[k]? with
  | some (some (.ow _ (.lst _))) => (fi ρ1).sbind fun ri ρ2 => (match ri, ρ2[k]? with
    | .fz (.int i), some (some (.ow b (.lst xs))) => (match ixN xs.length i with
      | some j => .nx (ρ2.set k (some (.ow b (.lst (xs.set j d)))))
      | none => .no)
    | _, _ => .no)
  | _ => .no
section
variable {X : Cx} {I : Addr → Value → Option Addr → Prop} {W : WX} {e i : Expr} {fi fv : ESem} {k : Nat} {x : Str} {p pos pos' : Pos}
theorem ss_item (hv : PE X (.Name x p) (tVar k)) (h : SE X I W e fv) (hi : SE X I W i fi)
    (ha : ∀ v, assign (.Subscript (.Name x p) i pos') X.env v = (do
      let ov ← holding [v] (eval (.Name x p) X.env)
      let iv ← holding [v, ov] (eval i X.env)
      standAt pos'
      holding [v, ov, iv] (setItem ov iv v)
      release [v, ov, iv] []) := by intro _; rfl)
    (hs : swapsWithSole [.Subscript (.Name x p) i pos'] e pos.line X.env = pure false := by rfl) (hw : swappedStores [.Subscript (.Name x p) i pos'] e X.env = pure none := by rfl)
    (h1 : (assignEach [.Subscript (.Name x p) i pos'] X.env).map (·.2) = [assign (.Subscript (.Name x p) i pos') X.env] := by rfl) : SS X I W (.Assign [.Subscript (.Name x p) i pos'] e pos) (sI k fi fv) := by
  obtain ⟨t, q, m⟩ := h
  obtain ⟨u, r, n⟩ := hi
  refine ⟨_, ps_asg q (pg_sub hv r set_list ha) hs hw h1, fun F ρ σ H R E hq => ?_⟩
  rw [sI, Out.OK_sbind] at hq
  refine m.frz F ρ σ H R _ (hq.imp (fun d ρ1 hq F1 H1 v S1 L1 R1 r1 => ?_) fun _ _ _ z => PostX.ofZ z)
  have key : ∀ (v' : V), σ[k]? = some (some v') → ((fi ρ1).sbind fun ri ρ2 => (match ri, ρ2[k]? with
    | .fz (.int i), some (some (.ow b (.lst xs))) => (match ixN xs.length i with
      | some j => .nx (ρ2.set k (some (.ow b (.lst (xs.set j d)))))
      | none => .no)
    | _, _ => .no)).OK (posts (bas X I) W F ρ σ H E) → gSub (tVar k) u rSetL v σ H1 E.nx := fun v' hv' hq => by
    rw [Out.OK_sbind] at hq
    refine ⟨v', hv', ?_⟩
    refine n F1 ρ1 σ H1 R1 _ (hq.imp (fun ri ρ2 hq F2 H2 w S2 L2 R2 r2 => ?_) fun _ _ _ z => (PostX.ofZ z).back S1)
    cases ri with
    | fz di =>
      cases di with
      | int i =>
        cases e3 : ρ2[k]? with
        | none => rw [e3] at hq; exact hq.elim
        | some o =>
          cases o with
          | none => rw [e3] at hq; exact hq.elim
          | some sv =>
            cases sv with
            | ow b o =>
              cases o with
              | ob c fs => rw [e3] at hq; exact hq.elim
              | dK _ => rw [e3] at hq; exact hq.elim
              | dT _ => rw [e3] at hq; exact hq.elim
              | lst xs =>
                rw [e3] at hq
                dsimp only at hq
                obtain ⟨v1, g1, a, e4, hf, us, hH, hl⟩ := R2.sl k _ e3
                rw [hv'] at g1; cases g1
                subst e4
                cases r2
                cases w : ixN xs.length i with
                | none => rw [w] at hq; exact hq.elim
                | some j =>
                  rw [w] at hq
                  refine ⟨a, us, i, j, rfl, rfl, hH, by rw [hl.length]; exact w, ?_⟩
                  obtain ⟨R3, S3⟩ := R2.mutate (o' := .lst (xs.set j d)) (u := .lst (us.set j v)) e3 hv' ⟨_, upd_same, RepL.set (r1.mono S2.mono) j hl⟩
                  exact hq F2 σ _ ((S1.trans S2).trans S3) R3
            | _ => rw [e3] at hq; exact hq.elim
      | _ => exact hq.elim
    | _ => exact hq.elim
  cases e1 : ρ1[k]? with
  | none => rw [e1] at hq; exact hq.elim
  | some o =>
    cases o with
    | none => rw [e1] at hq; exact hq.elim
    | some sv =>
      obtain ⟨v1, g1, _⟩ := R1.sl k sv e1
      cases sv with
      | ow b o =>
        cases o with
        | ob c fs => rw [e1] at hq; exact hq.elim
        | dK _ => rw [e1] at hq; exact hq.elim
        | dT _ => rw [e1] at hq; exact hq.elim
        | lst xs => rw [e1] at hq; exact key v1 g1 hq
      | _ => rw [e1] at hq; exact hq.elim
end
end DL
end
section
/-! D10: while, for. -/
namespace DL
open PySem PySem.Spec L2

/-! ### while -/
def whN (c : CSem) (b : SSem) : Nat → Env → Option SOut
  | 0, _ => none
  | n + 1, ρ => match c ρ with
    | .ok true ρ1 => (match b ρ1 with
      | .nx ρ2 => whN c b n ρ2
      | .ct ρ2 => whN c b n ρ2
      | .bk ρ2 => some (.nx ρ2)
      | .rt r ρ2 => some (.rt r ρ2)
      | .ex x fs ρ2 => some (.ex x fs ρ2)
      | .no => some .no)
    | .ok false ρ1 => some (.nx ρ1)
    | .ex x fs ρ1 => some (.ex x fs ρ1)
    | .no => some .no
theorem whN_mono {c : CSem} {b : SSem} : ∀ {n : Nat} {ρ : Env} {o : SOut} (m : Nat), whN c b n ρ = some o → whN c b (n + m) ρ = some o
  | 0, _, _, _, h => by cases h
  | n + 1, ρ, o, m, h => by
    rw [show n + 1 + m = (n + m) + 1 by omega]
    simp only [whN] at h ⊢
    cases e : c ρ with
    | no => rw [e] at h; exact h
    | ex x fs ρ1 => rw [e] at h; exact h
    | ok k ρ1 =>
      rw [e] at h
      cases k with
      | false => exact h
      | true =>
        dsimp only at h ⊢
        cases e2 : b ρ1 with
        | nx ρ2 => rw [e2] at h; exact whN_mono m h
        | ct ρ2 => rw [e2] at h; exact whN_mono m h
        | bk ρ2 => rw [e2] at h; exact h
        | rt r ρ2 => rw [e2] at h; exact h
        | ex x fs ρ2 => rw [e2] at h; exact h
        | no => rw [e2] at h; exact h
open Classical in
noncomputable def sWh (c : CSem) (b : SSem) : SSem := fun ρ => if h : ∃ p : Nat × SOut, whN c b p.1 ρ = some p.2 then (Classical.choose h).2 else .no
theorem sWh_of {c : CSem} {b : SSem} {n : Nat} {ρ : Env} {o : SOut} (h : whN c b n ρ = some o) : sWh c b ρ = o := by
  have hx : ∃ p : Nat × SOut, whN c b p.1 ρ = some p.2 := ⟨(n, o), h⟩
  unfold sWh
  rw [dif_pos hx]
  have h1 := Classical.choose_spec hx
  have h2 := whN_mono n h1
  have h3 := whN_mono (Classical.choose hx).1 h
  rw [Nat.add_comm] at h3
  rw [h2] at h3
  exact Option.some.inj h3
theorem sWh_some {c : CSem} {b : SSem} {ρ : Env} (h : sWh c b ρ ≠ .no) : ∃ n, whN c b n ρ = some (sWh c b ρ) := by
  unfold sWh at h ⊢
  split
  · rename_i hx
    exact ⟨_, Classical.choose_spec hx⟩
  · rename_i hx
    rw [dif_neg hx] at h
    exact absurd rfl h
/-- one turn -/
theorem sWh_eq (c : CSem) (b : SSem) (ρ : Env) : sWh c b ρ = (c ρ).sbind fun k ρ1 => if k = true then (match b ρ1 with
    | .nx ρ2 => sWh c b ρ2
    | .ct ρ2 => sWh c b ρ2
    | .bk ρ2 => .nx ρ2
    | .rt r ρ2 => .rt r ρ2
    | .ex x fs ρ2 => .ex x fs ρ2
    | .no => .no) else .nx ρ1 := by
  have nop : ∀ ρ2, (∀ n, whN c b n ρ2 = none) → sWh c b ρ2 = .no := fun ρ2 h => by
    unfold sWh
    rw [dif_neg]
    rintro ⟨p, hp⟩
    rw [h] at hp; cases hp
  have step : ∀ ρ2, (∀ n, whN c b (n + 1) ρ = whN c b n ρ2) → sWh c b ρ = sWh c b ρ2 := fun ρ2 h => by
    by_cases hx : ∃ n o, whN c b n ρ2 = some o
    · obtain ⟨n, o, ho⟩ := hx
      rw [sWh_of ho, sWh_of (n := n + 1) (by rw [h]; exact ho)]
    · have hn : ∀ n, whN c b n ρ2 = none := fun n => by
        cases q : whN c b n ρ2 with
        | none => rfl
        | some o => exact absurd ⟨n, o, q⟩ hx
      rw [nop ρ2 hn, nop ρ fun n => ?_]
      cases n with
      | zero => rfl
      | succ n => rw [h]; exact hn n
  cases e : c ρ with
  | no => exact sWh_of (n := 1) (by simp only [whN, e]; rfl)
  | ex x fs ρ1 => exact sWh_of (n := 1) (by simp only [whN, e]; rfl)
  | ok k ρ1 =>
    cases k with
    | false => exact sWh_of (n := 1) (by simp only [whN, e]; rfl)
    | true =>
      simp only [Out.sbind, if_true]
      cases e2 : b ρ1 with
      | nx ρ2 => exact step ρ2 fun n => by simp only [whN, e, e2]
      | ct ρ2 => exact step ρ2 fun n => by simp only [whN, e, e2]
      | bk ρ2 => exact sWh_of (n := 1) (by simp only [whN, e, e2])
      | rt r ρ2 => exact sWh_of (n := 1) (by simp only [whN, e, e2])
      | ex x fs ρ2 => exact sWh_of (n := 1) (by simp only [whN, e, e2])
      | no => exact sWh_of (n := 1) (by simp only [whN, e, e2])
section
variable {X : Cx} {I : Addr → Value → Option Addr → Prop} {W : WX} {c : Expr} {body : List Stmt} {cf : CSem} {g : SSem} {pos : Pos}
theorem ss_while (hp : PassesOwn (model X.prog X.w) X.A X.env X.xe) (hc : SC X I W c cf) (hb : SSs X I W body g) : SS X I W (.While c body [] pos) (sWh cf g) := by
  obtain ⟨t, p, m⟩ := hc
  obtain ⟨u, q, n⟩ := hb
  refine ⟨_, ps_while hp p q, fun F ρ σ H R E hq => ?_⟩
  have hne : sWh cf g ρ ≠ .no := fun z => by rw [z] at hq; exact hq.elim
  obtain ⟨n0, h0⟩ := sWh_some hne
  refine ⟨fun k σ' H' => ∃ F' ρ' o, Stp F ρ σ H F' ρ' σ' H' ∧ Rel (bas X I) F' ρ' σ' H' ∧ whN cf g k ρ' = some o ∧ o.OK (posts (bas X I) W F ρ σ H E), ⟨n0, F, ρ, _, Stp.refl _ _ _ _, R, h0, hq⟩, ?_⟩
  rintro k σ1 H1 ⟨F1, ρ1, o, S1, R1, ho, hk⟩
  cases k with
  | zero => cases ho
  | succ k =>
    simp only [whN] at ho
    refine m F1 ρ1 σ1 H1 R1 _ ?_
    cases e : cf ρ1 with
    | no => rw [e] at ho; cases ho; exact hk.elim
    | ex x fs ρ2 => rw [e] at ho; cases ho; exact PostX.ofZ (PostZ.back S1 hk)
    | ok b ρ2 =>
      rw [e] at ho
      refine fun F2 H2 S2 _ R2 => ?_
      cases b with
      | false => rw [if_neg Bool.false_ne_true]; cases ho; exact hk F2 σ1 H2 (S1.trans S2) R2
      | true =>
        rw [if_pos rfl]
        dsimp only at ho
        refine ⟨fun σ' H' => ∃ F' ρ' o, Stp F ρ σ H F' ρ' σ' H' ∧ Rel (bas X I) F' ρ' σ' H' ∧ whN cf g k ρ' = some o ∧ o.OK (posts (bas X I) W F ρ σ H E), fun σ' H' h => ⟨k, Nat.lt_succ_self k, h⟩, ?_⟩
        have S12 := S1.trans S2
        refine n F2 ρ2 σ1 H2 R2 _ ?_
        cases e2 : g ρ2 with
        | nx ρ3 => rw [e2] at ho; exact fun F3 σ3 H3 S3 R3 => ⟨F3, ρ3, o, S12.trans S3, R3, ho, hk⟩
        | ct ρ3 => rw [e2] at ho; exact fun F3 σ3 H3 S3 R3 => ⟨F3, ρ3, o, S12.trans S3, R3, ho, hk⟩
        | bk ρ3 => rw [e2] at ho; cases ho; exact PostN.back S12 hk
        | rt r ρ3 => rw [e2] at ho; cases ho; exact PostR.back S12 hk
        | ex x fs ρ3 => rw [e2] at ho; cases ho; exact PostZ.back S12 hk
        | no => rw [e2] at ho; cases ho; exact hk.elim
end

/-! ### targets -/
def TgS (B : Bas) (t : TG) (g : D → Env → Option Env) : Prop := ∀ (F0 : Hp) (ρ0 : Env) (σ0 : St) (H0 F : Hp) (ρ : Env) (σ : St) (H : Hp) (v : V) (d : D) (ρ' : Env), Rel B F ρ σ H → Stp F0 ρ0 σ0 H0 F ρ σ H → Rep B F v d → g d ρ = some ρ' → ∀ Q : St → Hp → Prop,
  (∀ σ', Rel B F ρ' σ' H → Stp F0 ρ0 σ0 H0 F ρ' σ' H → Q σ' H) → t v σ H Q
def ST (X : Cx) (I : Addr → Value → Option Addr → Prop) (e : Expr) (g : D → Env → Option Env) : Prop := ∃ t, PG X e t ∧ TgS (bas X I) t g
def tgN (i : Nat) : D → Env → Option Env := fun d ρ => some (ρ.set i (some (.fz d)))
def TgsS (B : Bas) (t : TGs) (g : List D → Env → Option Env) : Prop := ∀ (F0 : Hp) (ρ0 : Env) (σ0 : St) (H0 F : Hp) (ρ : Env) (σ : St) (H : Hp) (v : List V) (d : List D) (ρ' : Env), Rel B F ρ σ H → Stp F0 ρ0 σ0 H0 F ρ σ H → RepL B F v d → g d ρ = some ρ' → ∀ Q : St → Hp → Prop,
  (∀ σ', Rel B F ρ' σ' H → Stp F0 ρ0 σ0 H0 F ρ' σ' H → Q σ' H) → t v σ H Q
def STs (X : Cx) (I : Addr → Value → Option Addr → Prop) (es : List Expr) (g : List D → Env → Option Env) : Prop := ∃ t, PGs X es t ∧ TgsS (bas X I) t g
def tgNil : List D → Env → Option Env := fun ds ρ => if ds.isEmpty then some ρ else none
def tgCons (g : D → Env → Option Env) (gs : List D → Env → Option Env) : List D → Env → Option Env := fun ds ρ => match ds with
  | d :: r => (match g d ρ with | some ρ1 => gs r ρ1 | none => none)
  | [] => none
def tgT (n : Nat) (gs : List D → Env → Option Env) : D → Env → Option Env := fun d ρ => match d with
  | .tup ds => if ds.length = n then gs ds ρ else none
  | _ => none
section
variable {X : Cx} {I : Addr → Value → Option Addr → Prop} {e : Expr} {es : List Expr} {pos : Pos}
theorem st_name {i : Nat} {x : Str} (h : PG X (.Name x pos) (gName i)) : ST X I (.Name x pos) (tgN i) := ⟨_, h, fun F0 ρ0 σ0 H0 F ρ σ H v d ρ' R S r e Q q => by
  cases e
  obtain ⟨R2, S2⟩ := R.put (i := i) (sv := .fz d) S r (fun z => nomatch z)
  exact q _ R2 S2⟩
theorem sts_nil : STs X I [] tgNil := ⟨_, pgs_nil, fun F0 ρ0 σ0 H0 F ρ σ H v d ρ' R S r e Q q => by
  cases r with
  | nil => simp only [tgNil] at e; cases e; exact ⟨rfl, q σ R S⟩
  | cons _ _ => simp only [tgNil] at e; cases e⟩
theorem sts_cons {g : D → Env → Option Env} {gs : List D → Env → Option Env} (h : ST X I e g) (k : STs X I es gs) (hs : (assignEach (e :: es) X.env).map (·.2) = assign e X.env :: (assignEach es X.env).map (·.2) := by rfl) : STs X I (e :: es) (tgCons g gs) := by
  obtain ⟨t, p, m⟩ := h
  obtain ⟨u, q, n⟩ := k
  refine ⟨_, pgs_cons p q hs, fun F0 ρ0 σ0 H0 F ρ σ H v d ρ' R S r e Q hq => ?_⟩
  cases r with
  | nil => simp only [tgCons] at e; cases e
  | @cons v1 d1 vs ds r1 r2 =>
    simp only [tgCons] at e
    cases w : g d1 ρ with
    | none => rw [w] at e; cases e
    | some ρ1 =>
      rw [w] at e
      refine ⟨v1, vs, rfl, m F0 ρ0 σ0 H0 F ρ σ H v1 d1 ρ1 R S r1 w _ fun σ1 R1 S1 => ?_⟩
      exact n F0 ρ0 σ0 H0 F ρ1 σ1 H vs ds ρ' R1 S1 r2 e Q hq
theorem st_tup {k n : Nat} {gs : List D → Env → Option Env} (hc : X.calm = true) (h : STs X I es gs) (hn : (assignEach es X.env).length = n := by rfl) (hst : (assignEach es X.env).findIdx? (·.1) = none := by rfl) : ST X I (.Tuple es k pos) (tgT n gs) := by
  obtain ⟨t, p, m⟩ := h
  refine ⟨_, pg_tup hc p hn hst, fun F0 ρ0 σ0 H0 F ρ σ H v d ρ' R S r e Q hq => ?_⟩
  cases r with
  | tup h1 l1 =>
    simp only [tgT] at e
    split at e
    · rename_i z
      exact ⟨_, _, rfl, tq (R.ext _ _ h1), by rw [l1.length]; exact z, m F0 ρ0 σ0 H0 F ρ σ H _ _ ρ' R S l1 e Q hq⟩
    · cases e
  | _ => simp only [tgT] at e; cases e
end

/-! ### for -/
def forL (tg : D → Env → Option Env) (b : SSem) : List D → Env → SOut
  | [], ρ => .nx ρ
  | x :: r, ρ => match tg x ρ with
    | some ρ0 => (match b ρ0 with
      | .nx ρ1 => forL tg b r ρ1
      | .ct ρ1 => forL tg b r ρ1
      | .bk ρ1 => .nx ρ1
      | .rt v ρ1 => .rt v ρ1
      | .ex c fs ρ1 => .ex c fs ρ1
      | .no => .no)
    | none => .no
theorem for_any {J : It} {g : TG} {tb : TS} {D : Ends} {σ : St} {H : Hp} (n : Nat) (Pv : Nat → St → Hp → Prop) (h0 : Pv 0 σ H) (hgo : ∀ i σ H, i < n → Pv i σ H → J.go i H) (hstop : ∀ σ H, Pv n σ H → J.stop n H)
    (hs : ∀ i σ H x H', i < n → Pv i σ H → J.yld i H x H' → g x σ H' fun σ2 H2 => tb { D with nx := Pv (i + 1), ct := Pv (i + 1), bk := D.nx } σ2 H2) (hd : ∀ σ H, Pv n σ H → D.nx σ H) :
    ∃ W : Nat → Nat → St → Hp → Prop, (∃ m, W 0 m σ H) ∧ ∀ i m σ H, W i m σ H →
      (J.stop i H ∧ D.nx σ H) ∨ (J.go i H ∧ ∃ N : St → Hp → Prop, (∀ σ' H', N σ' H' → ∃ m', m' < m ∧ W (i + 1) m' σ' H') ∧ ∀ x H', J.yld i H x H' → g x σ H' fun σ2 H2 => tb { D with nx := N, ct := N, bk := D.nx } σ2 H2) := by
  refine ⟨fun i m σ H => m = n - i ∧ i ≤ n ∧ Pv i σ H, ⟨n, by simp, Nat.zero_le _, h0⟩, ?_⟩
  rintro i m σ H ⟨rfl, hi, p⟩
  by_cases hlt : i < n
  · exact .inr ⟨hgo i σ H hlt p, Pv (i + 1), fun σ' H' p' => ⟨n - (i + 1), by omega, rfl, hlt, p'⟩, fun x H' y => hs i σ H x H' hlt p y⟩
  · have e : i = n := by omega
    subst e
    exact .inl ⟨hstop σ H p, hd σ H p⟩
/-- the loop's turns over data: J gives the items ds, whatever the body does -/
theorem for_data {B : Bas} {W : WX} {J : It} {t : TG} {u : TS} {tg : D → Env → Option Env} {g : SSem} {F : Hp} {ρ : Env} {σ : St} {H : Hp} {E : Ends} (ht : TgS B t tg) (hg : SemS B W u g) (R : Rel B F ρ σ H) (ds : List D)
    (hgo : ∀ i F' ρ' σ' H', i < ds.length → Stp F ρ σ H F' ρ' σ' H' → Rel B F' ρ' σ' H' → J.go i H') (hstop : ∀ F' ρ' σ' H', Stp F ρ σ H F' ρ' σ' H' → Rel B F' ρ' σ' H' → J.stop ds.length H')
    (hy : ∀ i F' ρ' σ' H' x H'', Stp F ρ σ H F' ρ' σ' H' → Rel B F' ρ' σ' H' → J.yld i H' x H'' → H'' = H' ∧ ∀ d, ds[i]? = some d → Rep B F' x d)
    (hq : (forL tg g ds ρ).OK (posts B W F ρ σ H E)) :
    ∃ W' : Nat → Nat → St → Hp → Prop, (∃ m, W' 0 m σ H) ∧ ∀ i m σ H, W' i m σ H →
      (J.stop i H ∧ E.nx σ H) ∨ (J.go i H ∧ ∃ N : St → Hp → Prop, (∀ σ' H', N σ' H' → ∃ m', m' < m ∧ W' (i + 1) m' σ' H') ∧ ∀ x H', J.yld i H x H' → t x σ H' fun σ2 H2 => u { E with nx := N, ct := N, bk := E.nx } σ2 H2) := by
  refine for_any ds.length (fun i σ' H' => ∃ F' ρ', Stp F ρ σ H F' ρ' σ' H' ∧ Rel B F' ρ' σ' H' ∧ (forL tg g (ds.drop i) ρ').OK (posts B W F ρ σ H E)) ⟨F, ρ, Stp.refl _ _ _ _, R, hq⟩
    (fun i σ' H' hi ⟨F', ρ', S', R', _⟩ => hgo i F' ρ' σ' H' hi S' R') (fun σ' H' ⟨F', ρ', S', R', _⟩ => hstop F' ρ' σ' H' S' R') (fun i σ1 H1 x H2 hi ⟨F1, ρ1, S1, R1, h1⟩ y => ?_) fun σ' H' ⟨F', ρ', S', R', h'⟩ => ?_
  · obtain ⟨e, hx⟩ := hy i F1 ρ1 σ1 H1 x H2 S1 R1 y
    subst e
    rw [List.drop_eq_getElem_cons hi] at h1
    simp only [forL] at h1
    cases w : tg ds[i] ρ1 with
    | none => rw [w] at h1; exact h1.elim
    | some ρ2 =>
      rw [w] at h1
      dsimp only at h1
      refine ht F ρ σ H F1 ρ1 σ1 H2 x ds[i] ρ2 R1 S1 (hx _ (List.getElem?_eq_getElem hi)) w _ fun σ2 R2 S2 => ?_
      refine hg F1 ρ2 σ2 H2 R2 _ ?_
      cases w2 : g ρ2 with
      | nx ρ3 => rw [w2] at h1; exact fun F3 σ3 H3 S3 R3 => ⟨F3, ρ3, S2.trans S3, R3, h1⟩
      | ct ρ3 => rw [w2] at h1; exact fun F3 σ3 H3 S3 R3 => ⟨F3, ρ3, S2.trans S3, R3, h1⟩
      | bk ρ3 => rw [w2] at h1; exact PostN.back S2 h1
      | rt v ρ3 => rw [w2] at h1; exact PostR.back S2 h1
      | ex c fs ρ3 => rw [w2] at h1; exact PostZ.back S2 h1
      | no => rw [w2] at h1; exact h1.elim
  · rw [List.drop_eq_nil_of_le (Nat.le_refl _)] at h'
    exact h' F' σ' H' S' R'

/-! ### over a list, a tuple, a text -/
def rIter (K : PySem.W.Frag) (x : V) (H : Hp) (R : It → Hp → Prop) : Prop :=
  (∃ a, x = .ref a ∧ (∃ xs, SqL K H a xs) ∧ R (Itl K a) H) ∨ (∃ a, x = .ref a ∧ (∃ xs, SqT K H a xs) ∧ R (Itt K a) H) ∨ ∃ z, x = .str z ∧ R (Its z) H
def iAny (K : PySem.W.Frag) (te : TE) : TI := fun σ H R => te σ H fun x H1 => rIter K x H1 R
theorem pi_any {X : Cx} {tg e : Expr} {te : TE} (he : PE X e te) : PI X tg e (iAny X.K te) := by
  refine ⟨fun pins s σ H R I h => ?_⟩
  refine thn (he.run pins s σ H _ I h) fun v s1 ⟨x, H1, I1, r1, q1⟩ => ?_
  rcases q1 with ⟨a, e, ⟨xs, hq⟩, q⟩ | ⟨a, e, ⟨xs, hq⟩, q⟩ | ⟨z, e, q⟩
  · subst e
    cases r1
    obtain ⟨its, rv, p, hz⟩ := I1.list hq
    refine wpAny_pyIter_list p.isList ?_
    refine ⟨s1.heap.objs.size, [s1.heap.objs.size], _, _, H1, rfl, I1.kept (t' := s1.toks) fun b o e => Heap.get?_push_of_some _ e, turn_list a _, ⟨_, Heap.get?_push_size _ rfl, rfl, rfl⟩, fun b hb => ?_, q⟩
    have e : b = s1.heap.objs.size := by simpa using hb
    subst e
    exact I1.fpOk (Nat.le_refl _) (I1.hok.fresh (Nat.le_refl _))
  · subst e
    cases r1
    obtain ⟨its, rv, p, hz⟩ := I1.tuple hq
    refine wpAny_pyIter_tuple (show s1.heap.IsTuple a its.toArray from p) ?_
    refine ⟨s1.heap.objs.size, [s1.heap.objs.size], _, _, H1, rfl, I1.kept (t' := s1.toks) fun b o e => Heap.get?_push_of_some _ e, turn_tuple a _, ⟨_, Heap.get?_push_size _ rfl, rfl, rfl⟩, fun b hb => ?_, q⟩
    have e : b = s1.heap.objs.size := by simpa using hb
    subst e
    exact I1.fpOk (Nat.le_refl _) (I1.hok.fresh (Nat.le_refl _))
  · subst e
    obtain ⟨t, rfl⟩ := r1
    cases ha : z.cps.all (· < 128)
    · exact wpAny_pyIter_wide ha (pi_one (tk := s1.toks) I1 _ (turn_str _ z t "str_iterator" (.inr rfl)) ⟨_, Heap.get?_push_size _ rfl, rfl, rfl⟩ q)
    · exact wpAny_pyIter_ascii ha (pi_one (tk := s1.toks) I1 _ (turn_str _ z t "str_ascii_iterator" (.inl rfl)) ⟨_, Heap.get?_push_size _ rfl, rfl, rfl⟩ q)
end DL
end
section
/-! D11: for over data that the body may not change; over a range. -/
namespace DL
open PySem PySem.Spec L2

def itemsD : D → Option (List D)
  | .lst ds => some ds
  | .tup ds => some ds
  | .scr ns => some (ns.map D.int)
  | .str z => some (z.cps.toList.map fun c => .str ⟨#[c]⟩)
  | .ktp xs => some (xs.map D.str)
  | _ => none
/-- what is walked stands still -/
theorem own_free {B : Bas} {F H : Hp} {ρ : Env} {σ : St} {a : Addr} {u : HO} (R : Rel B F ρ σ H) (h : F a = some u) (k : Nat) : ¬ OwnAt ρ σ k a := fun ⟨b, o, h1, h2⟩ => by
  obtain ⟨v, g1, a', e, g2, _⟩ := R.sl k _ h1
  rw [h2] at g1; cases g1; cases e
  rw [h] at g2; cases g2
theorem rd_keep {H H' : Hp} {a : Addr} {u : HO} (k : ∀ o, H a = some o → H' a = some o) (h : Rd H a u) : Rd H' a u := h.elim (fun h => .inl (k _ h)) fun ⟨o, h⟩ => .inr ⟨o, k _ h⟩
/-- a thing of the heap that no slot owns, or one of the written part -/
def Fixed (P : Prop) (H : Hp) (ρ : Env) (σ : St) (a : Addr) (u : HO) : Prop := (Rd H a u ∧ ∀ k, ¬ OwnAt ρ σ k a) ∨ P
def KList (K : PySem.W.Frag) (a : Addr) (xs : List V) : Prop := ∃ (o : Obj) (its : Array Value) (n : Nat), K.lookup a = some o ∧ o.cls = .type "list" ∧ o.dict = none ∧ o.data = .seq its n ∧ its.size ≤ sizeLine ∧ Vals xs its.toList
def KTup (K : PySem.W.Frag) (a : Addr) (xs : List V) : Prop := ∃ (o : Obj) (its : Array Value) (n : Nat), K.lookup a = some o ∧ o.cls = .type "tuple" ∧ o.data = .seq its n ∧ its.size ≤ sizeLine ∧ Vals xs its.toList
def StL (K : PySem.W.Frag) (H : Hp) (ρ : Env) (σ : St) (a : Addr) (xs : List V) : Prop := Fixed (KList K a xs) H ρ σ a (.lst xs)
def StT (K : PySem.W.Frag) (H : Hp) (ρ : Env) (σ : St) (a : Addr) (xs : List V) : Prop := Fixed (KTup K a xs) H ρ σ a (.tup xs)
theorem StL.sq {K : PySem.W.Frag} {F F' H H' : Hp} {ρ ρ' : Env} {σ σ' : St} {a : Addr} {xs : List V} (h : StL K H ρ σ a xs) (S : Stp F ρ σ H F' ρ' σ' H') : SqL K H' a xs := h.elim (fun ⟨h, n⟩ => .inl (rd_keep (fun o q => S.keep a o q n) h)) .inr
theorem StT.sq {K : PySem.W.Frag} {F F' H H' : Hp} {ρ ρ' : Env} {σ σ' : St} {a : Addr} {xs : List V} (h : StT K H ρ σ a xs) (S : Stp F ρ σ H F' ρ' σ' H') : SqT K H' a xs := h.elim (fun ⟨h, n⟩ => .inl (rd_keep (fun o q => S.keep a o q n) h)) .inr
def Still (ρ : Env) (σ : St) (H : Hp) (K : PySem.W.Frag) (x : V) (d : D) (B : Bas) (F : Hp) : Prop :=
  (∃ a xs ds, x = .ref a ∧ itemsD d = some ds ∧ StL K H ρ σ a xs ∧ RepL B F xs ds) ∨ (∃ a xs ds, x = .ref a ∧ itemsD d = some ds ∧ StT K H ρ σ a xs ∧ RepL B F xs ds) ∨ ∃ z, x = .str z ∧ d = .str z
/-- the turns, for each kind of thing -/
theorem for_still {X : Cx} {I : Addr → Value → Option Addr → Prop} {W : WX} {t : TG} {u : TS} {tg : D → Env → Option Env} {g : SSem} {F : Hp} {ρ : Env} {σ : St} {H : Hp} {E : Ends} {x : V} {d : D} {ds : List D} (ht : TgS (bas X I) t tg) (hg : SemS (bas X I) W u g) (R : Rel (bas X I) F ρ σ H)
    (hs : Still ρ σ H X.K x d (bas X I) F) (hd : itemsD d = some ds) (hq : (forL tg g ds ρ).OK (posts (bas X I) W F ρ σ H E)) :
    rIter X.K x H fun J H1 => ∃ W' : Nat → Nat → St → Hp → Prop, (∃ m, W' 0 m σ H1) ∧ ∀ i m σ H, W' i m σ H →
      (J.stop i H ∧ E.nx σ H) ∨ (J.go i H ∧ ∃ N : St → Hp → Prop, (∀ σ' H', N σ' H' → ∃ m', m' < m ∧ W' (i + 1) m' σ' H') ∧ ∀ x H', J.yld i H x H' → t x σ H' fun σ2 H2 => u { E with nx := N, ct := N, bk := E.nx } σ2 H2) := by
  rcases hs with ⟨a, xs, es, e, h0, h1, h2⟩ | ⟨a, xs, es, e, h0, h1, h2⟩ | ⟨z, e, h1⟩
  · rw [hd] at h0; cases h0
    subst e
    have st : ∀ {F' ρ' σ' H'}, Stp F ρ σ H F' ρ' σ' H' → SqL X.K H' a xs := fun S' => h1.sq S'
    have hlen := h2.length
    refine .inl ⟨a, rfl, ⟨xs, st (Stp.refl _ _ _ _)⟩, for_data ht hg R ds (fun i F' ρ' σ' H' hi S' R' => ?_) (fun F' ρ' σ' H' S' R' => ⟨xs, st S', by omega⟩) (fun i F' ρ' σ' H' y H'' S' R' hy => ?_) hq⟩
    · exact ⟨xs, xs[i]'(by omega), st S', by simp [show i < xs.length by omega]⟩
    · obtain ⟨e1, hy⟩ := hy
      refine ⟨e1, fun d' hd' => ?_⟩
      obtain ⟨v, w1, w2⟩ := h2.get hd'
      rw [hy xs (st S')] at w1
      cases w1
      exact w2.mono S'.mono
  · rw [hd] at h0; cases h0
    subst e
    have st : ∀ {F' ρ' σ' H'}, Stp F ρ σ H F' ρ' σ' H' → SqT X.K H' a xs := fun S' => h1.sq S'
    have hlen := h2.length
    refine .inr (.inl ⟨a, rfl, ⟨xs, st (Stp.refl _ _ _ _)⟩, for_data ht hg R ds (fun i F' ρ' σ' H' hi S' R' => ?_) (fun F' ρ' σ' H' S' R' => ⟨xs, st S', by omega⟩) (fun i F' ρ' σ' H' y H'' S' R' hy => ?_) hq⟩)
    · exact ⟨xs, xs[i]'(by omega), st S', by simp [show i < xs.length by omega]⟩
    · obtain ⟨e1, hy⟩ := hy
      refine ⟨e1, fun d' hd' => ?_⟩
      obtain ⟨v, w1, w2⟩ := h2.get hd'
      rw [hy xs (st S')] at w1
      cases w1
      exact w2.mono S'.mono
  · subst e; subst h1
    simp only [itemsD, Option.some.injEq] at hd
    subst hd
    have hlen : (z.cps.toList.map fun c => D.str ⟨#[c]⟩).length = z.cps.size := by simp
    refine .inr (.inr ⟨z, rfl, for_data ht hg R _ (fun i F' ρ' σ' H' hi S' R' => ?_) (fun F' ρ' σ' H' S' R' => ?_) (fun i F' ρ' σ' H' y H'' S' R' hy => ?_) hq⟩)
    · show i < z.cps.size
      rw [hlen] at hi; exact hi
    · show z.cps.size ≤ _
      rw [hlen]; exact Nat.le_refl _
    · obtain ⟨e1, c, hc, hv⟩ := hy
      refine ⟨e1, fun d' hd' => ?_⟩
      rw [List.getElem?_map] at hd'
      have hc' : z.cps.toList[i]? = some c := by simpa using hc
      rw [hc'] at hd'
      cases hd'
      subst hv
      exact .str _

/-! ### a slot's own list is locked while it is walked -/
def unl (k : Nat) (b : Bool) (ρ : Env) : Env := match ρ[k]? with
  | some (some (.lk o)) => ρ.set k (some (.ow b o))
  | _ => ρ
def SOut.onE (f : Env → Env) : SOut → SOut
  | .nx ρ => .nx (f ρ)
  | .rt r ρ => .rt r (f ρ)
  | .bk ρ => .bk (f ρ)
  | .ct ρ => .ct (f ρ)
  | .ex c fs ρ => .ex c fs (f ρ)
  | .no => .no
theorem lock_rel {B : Bas} {F H : Hp} {ρ : Env} {σ : St} {k : Nat} {b : Bool} {o : OB} (R : Rel B F ρ σ H) (h : ρ[k]? = some (some (.ow b o))) : Rel B F (ρ.set k (some (.lk o))) σ H := by
  have old : ∀ (j : Nat) (s : SV), (ρ.set k (some (.lk o)))[j]? = some (some s) → (k = j ∧ s = .lk o) ∨ (k ≠ j ∧ ρ[j]? = some (some s)) := fun j s q => by
    rcases get_set q with ⟨e, z⟩ | ⟨e, z⟩
    · injection z with z; exact .inl ⟨e, z⟩
    · exact .inr ⟨e, z⟩
  refine ⟨R.ext, by rw [List.length_set]; exact R.len, fun j s q => ?_, fun i j a q1 q2 => ?_⟩
  · rcases old j s q with ⟨e, z⟩ | ⟨_, z⟩
    · subst e; subst z
      obtain ⟨v, g1, g2⟩ := R.sl k _ h
      exact ⟨v, g1, g2⟩
    · exact R.sl j s z
  · obtain ⟨b', o1, w1, w2⟩ := q1
    rcases old i _ w1 with ⟨_, z⟩ | ⟨_, w1⟩
    · cases z
    · refine R.sep i j a ⟨b', o1, w1, w2⟩ ?_
      obtain ⟨s, g1, g2, g3⟩ := q2
      rcases old j s g1 with ⟨e, z⟩ | ⟨_, z⟩
      · subst e; exact ⟨_, h, rfl, g3⟩
      · exact ⟨s, z, g2, g3⟩
theorem unlock {B : Bas} {F F' H H' : Hp} {ρ ρ' : Env} {σ σ' : St} {k : Nat} {b : Bool} {o : OB} (R : Rel B F ρ σ H) (h : ρ[k]? = some (some (.ow b o))) (S : Stp F (ρ.set k (some (.lk o))) σ H F' ρ' σ' H') (R' : Rel B F' ρ' σ' H') :
    Stp F ρ σ H F' (unl k b ρ') σ' H' ∧ Rel B F' (unl k b ρ') σ' H' := by
  have old : ∀ (j : Nat) (s : SV), (ρ.set k (some (.lk o)))[j]? = some (some s) → (k = j ∧ s = .lk o) ∨ (k ≠ j ∧ ρ[j]? = some (some s)) := fun j s q => by
    rcases get_set q with ⟨e, z⟩ | ⟨e, z⟩
    · injection z with z; exact .inl ⟨e, z⟩
    · exact .inr ⟨e, z⟩
  have ownL : ∀ j a, OwnAt (ρ.set k (some (.lk o))) σ j a → OwnAt ρ σ j a := fun j a ⟨b', o1, w1, w2⟩ => by
    rcases old j _ w1 with ⟨_, z⟩ | ⟨_, z⟩
    · cases z
    · exact ⟨b', o1, z, w2⟩
  have hasL : ∀ j a, HasAt (ρ.set k (some (.lk o))) σ j a → HasAt ρ σ j a := fun j a ⟨s, w1, w2, w3⟩ => by
    rcases old j s w1 with ⟨e, z⟩ | ⟨_, z⟩
    · subst e; exact ⟨_, h, rfl, w3⟩
    · exact ⟨s, z, w2, w3⟩
  have own0 : ∀ (j : Nat) (b' : Bool) (o1 : OB) (a : Addr), (ρ'[j]? = some (some (.ow b' o1))) → σ'[j]? = some (some (.ref a)) → (b' = false ∧ H a = none) ∨ ∃ o0, ρ[j]? = some (some (.ow b' o0)) ∧ σ[j]? = some (some (.ref a)) := fun j b' o1 a w1 w2 => by
    rcases S.own j b' o1 a w1 w2 with q | ⟨o0, q1, q2⟩
    · exact .inl q
    · rcases old j _ q1 with ⟨_, z⟩ | ⟨_, z⟩
      · cases z
      · exact .inr ⟨o0, z, q2⟩
  have plain : (∀ o', ρ'[k]? ≠ some (some (.lk o'))) → Stp F ρ σ H F' ρ' σ' H' := fun hn => ⟨S.mono, fun a q => (S.newF a q).imp_right (Or.imp_right fun ⟨j, z⟩ => ⟨j, ownL j a z⟩), fun a w q hno => S.keep a w q fun j z => hno j (ownL j a z), S.dom, fun j a q => (S.has j a q).imp_right (hasL j a), own0,
    fun j o1 a w1 w2 => by
      obtain ⟨o0, q1, q2⟩ := S.lks j o1 a w1 w2
      rcases old j _ q1 with ⟨e, _⟩ | ⟨_, z⟩
      · subst e; exact absurd w1 (hn o1)
      · exact ⟨o0, z, q2⟩⟩
  unfold unl
  split
  · rename_i o' e
    obtain ⟨v, g1, a, ea, hf, hr⟩ := R'.sl k _ e
    subst ea
    have hlk : σ[k]? = some (some (.ref a)) := by
      obtain ⟨o0, _, q2⟩ := S.lks k o' a e g1
      exact q2
    have ownk : OwnAt ρ σ k a := ⟨b, o, h, hlk⟩
    obtain ⟨v0, w1, a0, w2, _, w3⟩ := R.sl k _ h
    rw [hlk] at w1; cases w1; cases w2
    obtain ⟨u0, hu0⟩ := w3.some
    have new : ∀ (j : Nat) (s : SV), (ρ'.set k (some (.ow b o')))[j]? = some (some s) → (k = j ∧ s = .ow b o') ∨ (k ≠ j ∧ ρ'[j]? = some (some s)) := fun j s q => by
      rcases get_set q with ⟨e, z⟩ | ⟨e, z⟩
      · injection z with z; exact .inl ⟨e, z⟩
      · exact .inr ⟨e, z⟩
    have hasN : ∀ j c, HasAt (ρ'.set k (some (.ow b o'))) σ' j c → HasAt ρ' σ' j c := fun j c ⟨s, q1, q2, q3⟩ => by
      rcases new j s q1 with ⟨e', z⟩ | ⟨_, z⟩
      · subst e'; exact ⟨_, e, rfl, q3⟩
      · exact ⟨s, z, q2, q3⟩
    -- no other slot has the address
    have only : ∀ j, HasAt ρ' σ' j a → k = j := fun j q => by
      rcases S.has j a q with z | z
      · rw [hu0] at z; cases z
      · exact R.sep k j a ownk (hasL j a z)
    refine ⟨⟨S.mono, fun c q => (S.newF c q).imp_right (Or.imp_right fun ⟨j, z⟩ => ⟨j, ownL j c z⟩), fun c w q hno => S.keep c w q fun j z => hno j (ownL j c z), S.dom, fun j c q => (S.has j c (hasN j c q)).imp_right (hasL j c), fun j b' o1 c q1 q2 => ?_, fun j o1 c q1 q2 => ?_⟩,
      ⟨R'.ext, by rw [List.length_set]; exact R'.len, fun j s q => ?_, fun i j c q1 q2 => ?_⟩⟩
    · rcases new j _ q1 with ⟨e', z⟩ | ⟨_, z⟩
      · subst e'; cases z
        rw [g1] at q2; cases q2
        exact .inr ⟨o, h, hlk⟩
      · exact own0 j b' o1 c z q2
    · rcases new j _ q1 with ⟨_, z⟩ | ⟨ne, z⟩
      · cases z
      · obtain ⟨o0, q3, q4⟩ := S.lks j o1 c z q2
        rcases old j _ q3 with ⟨e', _⟩ | ⟨_, z'⟩
        · exact absurd e' ne
        · exact ⟨o0, z', q4⟩
    · rcases new j s q with ⟨e', z⟩ | ⟨_, z⟩
      · subst e'; subst z; exact ⟨_, g1, a, rfl, hf, hr⟩
      · exact R'.sl j s z
    · obtain ⟨b', o1, w1, w2⟩ := q1
      have q2' := hasN j c q2
      rcases new i _ w1 with ⟨e', z⟩ | ⟨ne, z⟩
      · subst e'
        rw [g1] at w2; cases w2
        exact only j q2'
      · by_cases hj : k = j
        · subst hj
          obtain ⟨s, r1, r2, r3⟩ := q2'
          rw [g1] at r3; cases r3
          exact absurd (only i ⟨_, z, rfl, w2⟩) ne
        · exact R'.sep i j c ⟨b', o1, z, w2⟩ q2'
  · rename_i hn
    exact ⟨plain fun o' z => hn o' z, R'⟩
def sForB (tg : D → Env → Option Env) (b : SSem) (r : RV) (ds : List D) (ρ : Env) : SOut := match r with
  | .sl k => (match ρ[k]? with
    | some (some (.ow w o)) => (forL tg b ds (ρ.set k (some (.lk o)))).onE (unl k w)
    | _ => forL tg b ds ρ)
  | _ => forL tg b ds ρ
def sFor (src : ESem) (tg : D → Env → Option Env) (b : SSem) : SSem := fun ρ => (src ρ).sbind fun r ρ1 => match rd ρ1 r with
  | some d => (match itemsD d with
    | some ds => sForB tg b r ds ρ1
    | none => .no)
  | none => .no
section
variable {X : Cx} {I : Addr → Value → Option Addr → Prop} {W : WX} {it tgt : Expr} {body : List Stmt} {f : ESem} {tg : D → Env → Option Env} {g : SSem} {pos : Pos}
/-- the object that is walked stands still: plain data -/
theorem still_rep {B : Bas} {F H : Hp} {ρ : Env} {σ : St} {v : V} {d : D} {ds : List D} (R : Rel B F ρ σ H) (h : Rep B F v d) (e : itemsD d = some ds) : Still ρ σ H B.K v d B F := by
  have of_rd : ∀ {a : Addr} {u : HO}, Rd F a u → Rd H a u ∧ ∀ k, ¬ OwnAt ρ σ k a := fun h => ⟨rd_mono R.ext h, fun k => h.elim (fun h => own_free R h k) fun ⟨o, h⟩ => own_free R h k⟩
  cases h with
  | lst h1 l => cases e; exact .inl ⟨_, _, _, rfl, rfl, .inl (of_rd (.inl h1)), l⟩
  | str z => exact .inr (.inr ⟨z, rfl, rfl⟩)
  | tup h1 l => cases e; exact .inr (.inl ⟨_, _, _, rfl, rfl, .inl (of_rd (.inl h1)), l⟩)
  | ktp h1 => cases e; exact .inr (.inl ⟨_, _, _, rfl, rfl, .inr h1, RepL.strs _⟩)
  | scr h1 => cases e; exact .inl ⟨_, _, _, rfl, rfl, h1.elim (fun h => .inl (of_rd h)) .inr, RepL.ints _⟩
  | _ => cases e
/-- .. a list that no slot holds, or that a slot holds locked -/
theorem still_obj {B : Bas} {F H : Hp} {ρ : Env} {σ : St} {a : Addr} {o : OB} {d : D} {ds : List D} (hr : RepO B F H a o) (n : ∀ k, ¬ OwnAt ρ σ k a) (e : o.d = some d) (e2 : itemsD d = some ds) : Still ρ σ H B.K (.ref a) d B F := by
  cases o with
  | ob c fs => cases e
  | lst es =>
    obtain ⟨xs, h1, l⟩ := hr
    cases e; cases e2
    exact .inl ⟨a, xs, _, rfl, rfl, .inl ⟨.inl h1, n⟩, l⟩
  | dK _ => cases e; cases e2
  | dT _ => cases e; cases e2
theorem ss_for (hp : PassesOwn (model X.prog X.w) X.A X.env X.xe) (hc : X.calm = true) (h : SE X I W it f) (ht : ST X I tgt tg) (hb : SSs X I W body g) (hs : ∀ x, foldedSetIterable it X.env x = pure x := by intro _; rfl) : SS X I W (.For tgt it body [] pos) (sFor f tg g) := by
  obtain ⟨t, p, m⟩ := h
  obtain ⟨u, q, n⟩ := ht
  obtain ⟨w, r, o⟩ := hb
  refine ⟨_, ps_for hp hc (pi_any p) q r hs, fun F ρ σ H R E hq => ?_⟩
  rw [sFor, Out.OK_sbind] at hq
  refine m F ρ σ H R _ (hq.imp (fun rv ρ1 hq F1 H1 v S1 L1 R1 r1 => ?_) fun _ _ _ z => PostX.ofZ z)
  cases e : rd ρ1 rv with
  | none => rw [e] at hq; exact hq.elim
  | some d =>
    simp only [e] at hq
    cases e2 : itemsD d with
    | none => rw [e2] at hq; exact hq.elim
    | some ds =>
      rw [e2] at hq
      dsimp only at hq
      have go : ∀ {ρ2 : Env}, Rel (bas X I) F1 ρ2 σ H1 → Still ρ2 σ H1 X.K v d (bas X I) F1 → ∀ E' : Ends, (forL tg g ds ρ2).OK (posts (bas X I) W F1 ρ2 σ H1 E') → rIter X.K v H1 fun J H1 => ∃ W' : Nat → Nat → St → Hp → Prop, (∃ m, W' 0 m σ H1) ∧ ∀ i m σ H, W' i m σ H →
          (J.stop i H ∧ E'.nx σ H) ∨ (J.go i H ∧ ∃ N : St → Hp → Prop, (∀ σ' H', N σ' H' → ∃ m', m' < m ∧ W' (i + 1) m' σ' H') ∧ ∀ x H', J.yld i H x H' → u x σ H' fun σ2 H2 => w { E' with nx := N, ct := N, bk := E'.nx } σ2 H2) :=
        fun R2 st E' h2 => for_still n o R2 st e2 h2
      cases rv with
      | fz d' => cases e; exact go R1 (still_rep R1 r1 e2) E (posts_back S1 hq)
      | fr ob =>
        obtain ⟨a, ea, _, _, ho, hn⟩ := r1
        subst ea
        exact go R1 (still_obj ho (fun k z => hn k z.has) e e2) E (posts_back S1 hq)
      | sl k =>
        obtain ⟨g1, sv, g2⟩ := r1
        obtain ⟨v', w1, w2⟩ := R1.sl k sv g2
        rw [g1] at w1; cases w1
        simp only [rd, g2] at e
        simp only [sForB, g2] at hq
        cases sv with
        | fz d' => cases e; exact go R1 (still_rep R1 w2 e2) E (posts_back S1 hq)
        | lk ob =>
          obtain ⟨a, ea, _, ho⟩ := w2
          subst ea
          refine go R1 (still_obj ho (fun j z => ?_) e e2) E (posts_back S1 hq)
          have z2 := R1.sep j k a z ⟨_, g2, rfl, g1⟩
          subst z2
          obtain ⟨b', o1, z3, _⟩ := z
          rw [g2] at z3; cases z3
        | ow b ob =>
          obtain ⟨a, ea, _, ho⟩ := w2
          subst ea
          have RL := lock_rel R1 g2
          have nL : ∀ j, ¬ OwnAt (ρ1.set k (some (.lk ob))) σ j a := fun j ⟨b', o1, z3, z4⟩ => by
            rcases get_set z3 with ⟨_, z5⟩ | ⟨z5, z6⟩
            · cases z5
            · exact z5 (R1.sep j k a ⟨b', o1, z6, z4⟩ ⟨_, g2, rfl, g1⟩).symm
          refine go RL (still_obj ho nL e e2) E ?_
          dsimp only at hq
          -- what is wanted behind the unlocking
          have back : ∀ {F' : Hp} {ρ' : Env} {σ' : St} {H' : Hp}, Stp F1 (ρ1.set k (some (.lk ob))) σ H1 F' ρ' σ' H' → Rel (bas X I) F' ρ' σ' H' → Stp F ρ σ H F' (unl k b ρ') σ' H' ∧ Rel (bas X I) F' (unl k b ρ') σ' H' := fun S' R' => by
            obtain ⟨s1, s2⟩ := unlock R1 g2 S' R'
            exact ⟨S1.trans s1, s2⟩
          cases ef : forL tg g ds (ρ1.set k (some (.lk ob))) with
          | nx ρ' => rw [ef] at hq; exact fun F' σ' H' S' R' => let ⟨s1, s2⟩ := back S' R'; hq F' σ' H' s1 s2
          | bk ρ' => rw [ef] at hq; exact fun F' σ' H' S' R' => let ⟨s1, s2⟩ := back S' R'; hq F' σ' H' s1 s2
          | ct ρ' => rw [ef] at hq; exact fun F' σ' H' S' R' => let ⟨s1, s2⟩ := back S' R'; hq F' σ' H' s1 s2
          | ex c fs ρ' => rw [ef] at hq; exact fun F' σ' H' cls dd S' R' x => let ⟨s1, s2⟩ := back S' R'; hq F' σ' H' cls dd s1 s2 x
          | no => rw [ef] at hq; exact hq.elim
          | rt r ρ' =>
            rw [ef] at hq
            refine fun F' σ' H' v' S' R' x => ?_
            obtain ⟨s1, s2⟩ := back S' R'
            refine hq F' σ' H' v' s1 s2 ?_
            cases r with
            | fz d => exact x
            | sl i => exact x
            | fr o1 =>
              obtain ⟨c, x1, x2, x3, x4⟩ := x
              refine ⟨c, x1, x2, x3, ?_⟩
              rcases x4 with x4 | ⟨j, o2, x4, x5⟩
              · exact .inl (S1.dom c x4)
              · rcases get_set x4 with ⟨_, z⟩ | ⟨_, z⟩
                · cases z
                · rcases S1.own j false o2 c z x5 with ⟨_, y⟩ | ⟨o3, y1, y2⟩
                  · exact .inl y
                  · exact .inr ⟨j, o3, y1, y2⟩
        | xn c fs => cases e
        | dd => cases e
/-! ### over range(..) -/
def rangeD (lo hi : Int) : List D := (List.range (hi - lo).toNat).map fun (i : Nat) => D.int (lo + (i : Int))
/-- the bounds of range(b), range(a, b) -/
def rngOf1 : List D → Option (Int × Int)
  | [.int j] => some (0, j)
  | _ => none
def rngOf2 : List D → Option (Int × Int)
  | [.int i, .int j] => some (i, j)
  | _ => none
def smallR (i j : Int) : Bool := decide (-(2 ^ 62) ≤ i) && (decide (i < 2 ^ 62) && (decide (-(2 ^ 62) ≤ j) && decide (j < 2 ^ 62)))
def sForR (rg : List D → Option (Int × Int)) (args : List ESem) (tg : D → Env → Option Env) (b : SSem) : SSem := fun ρ => (eL args ρ).sbind fun ds ρ1 => match rg ds with
  | some (i, j) => if smallR i j = true then forL tg b (rangeD i j) ρ1 else .no
  | none => .no
theorem for_rng {B : Bas} {W : WX} {t : TG} {u : TS} {tg : D → Env → Option Env} {g : SSem} {F : Hp} {ρ : Env} {σ : St} {H : Hp} {E : Ends} {i j : Int} (ht : TgS B t tg) (hg : SemS B W u g) (R : Rel B F ρ σ H) (hq : (forL tg g (rangeD i j) ρ).OK (posts B W F ρ σ H E)) :
    ∃ W' : Nat → Nat → St → Hp → Prop, (∃ m, W' 0 m σ H) ∧ ∀ k m σ H, W' k m σ H →
      ((Itr i (j - i).toNat).stop k H ∧ E.nx σ H) ∨ ((Itr i (j - i).toNat).go k H ∧ ∃ N : St → Hp → Prop, (∀ σ' H', N σ' H' → ∃ m', m' < m ∧ W' (k + 1) m' σ' H') ∧ ∀ x H', (Itr i (j - i).toNat).yld k H x H' → t x σ H' fun σ2 H2 => u { E with nx := N, ct := N, bk := E.nx } σ2 H2) := by
  have hlen : (rangeD i j).length = (j - i).toNat := by simp [rangeD]
  refine for_data ht hg R (rangeD i j) (fun k F' ρ' σ' H' hk S' R' => ?_) (fun F' ρ' σ' H' S' R' => ?_) (fun k F' ρ' σ' H' x H'' S' R' hy => ?_) hq
  · rw [hlen] at hk; exact hk
  · rw [hlen]; exact Nat.le_refl _
  · obtain ⟨e1, e2⟩ := hy
    refine ⟨e1, fun d hd => ?_⟩
    subst e2
    unfold rangeD at hd
    rw [List.getElem?_map] at hd
    cases w : (List.range (j - i).toNat)[k]? with
    | none => rw [w] at hd; cases hd
    | some c =>
      rw [w] at hd
      cases hd
      have := List.getElem?_eq_some_iff.mp w
      obtain ⟨h1, h2⟩ := this
      rw [List.getElem_range] at h2
      subst h2
      exact .int _
theorem ss_for1 {a : Expr} {p0 p1 : Pos} {fa : ESem} (hp : PassesOwn (model X.prog X.w) X.A X.env X.xe) (hc : X.calm = true) (hg : Gl X "range") (hm : X.mg "range" = none) (ha : SL X I W [a] (eL [fa])) (ht : ST X I tgt tg) (hb : SSs X I W body g)
    (hs1 : starEach [a] X.env = [(false, eval a X.env)] := by rfl) (hs : ∀ x, foldedSetIterable (.Call (.Name "range" p0) [a] [] p1) X.env x = pure x := by intro _; rfl) : SS X I W (.For tgt (.Call (.Name "range" p0) [a] [] p1) body [] pos) (sForR rngOf1 [fa] tg g) := by
  obtain ⟨t, p, m⟩ := ha
  obtain ⟨u, q, n⟩ := ht
  obtain ⟨w, r, o⟩ := hb
  refine ⟨_, ps_for hp hc (pi_range1 hg hm p hs1) q r hs, fun F ρ σ H R E hq => ?_⟩
  rw [sForR, Out.OK_sbind] at hq
  refine m F ρ σ H R _ (hq.imp (fun ds ρ1 hq F1 H1 vs S1 L1 R1 r1 => ?_) fun _ _ _ z => PostX.ofZ z)
  cases e : rngOf1 ds with
  | none => rw [e] at hq; exact hq.elim
  | some ij =>
    obtain ⟨i, j⟩ := ij
    simp only [e] at hq
    by_cases z : smallR i j = true
    · rw [if_pos z] at hq
      simp only [smallR, Bool.and_eq_true, decide_eq_true_eq] at z
      cases r1 with
      | nil => cases e
      | cons x1 x2 =>
        cases x2 with
        | nil =>
          cases x1 <;> simp only [rngOf1] at e <;> cases e
          refine ⟨_, rfl, z.2.2.1, z.2.2.2, ?_⟩
          have := for_rng (i := 0) (E := E) n o R1 (posts_back S1 hq)
          rwa [Int.sub_zero] at this
        | cons y1 y2 => cases x1 <;> cases e
    · rw [if_neg z] at hq; exact hq.elim
theorem ss_for2 {a b : Expr} {p0 p1 : Pos} {fa fb : ESem} (hp : PassesOwn (model X.prog X.w) X.A X.env X.xe) (hc : X.calm = true) (hg : Gl X "range") (hm : X.mg "range" = none) (ha : SL X I W [a, b] (eL [fa, fb])) (ht : ST X I tgt tg) (hb : SSs X I W body g)
    (hs1 : starEach [a, b] X.env = [(false, eval a X.env), (false, eval b X.env)] := by rfl) (hs2 : starEach [b] X.env = [(false, eval b X.env)] := by rfl) (hs : ∀ x, foldedSetIterable (.Call (.Name "range" p0) [a, b] [] p1) X.env x = pure x := by intro _; rfl) :
    SS X I W (.For tgt (.Call (.Name "range" p0) [a, b] [] p1) body [] pos) (sForR rngOf2 [fa, fb] tg g) := by
  obtain ⟨t, p, m⟩ := ha
  obtain ⟨u, q, n⟩ := ht
  obtain ⟨w, r, o⟩ := hb
  refine ⟨_, ps_for hp hc (pi_range2 hg hm p hs1 hs2) q r hs, fun F ρ σ H R E hq => ?_⟩
  rw [sForR, Out.OK_sbind] at hq
  refine m F ρ σ H R _ (hq.imp (fun ds ρ1 hq F1 H1 vs S1 L1 R1 r1 => ?_) fun _ _ _ z => PostX.ofZ z)
  cases e : rngOf2 ds with
  | none => rw [e] at hq; exact hq.elim
  | some ij =>
    obtain ⟨i, j⟩ := ij
    simp only [e] at hq
    by_cases z : smallR i j = true
    · rw [if_pos z] at hq
      simp only [smallR, Bool.and_eq_true, decide_eq_true_eq] at z
      cases r1 with
      | nil => cases e
      | cons x1 x2 =>
        cases x2 with
        | nil => cases x1 <;> cases e
        | cons y1 y2 =>
          cases y2 with
          | cons _ _ => cases x1 <;> cases y1 <;> cases e
          | nil =>
            cases x1 <;> cases y1 <;> simp only [rngOf2] at e <;> cases e
            exact ⟨_, _, rfl, ⟨z.1, z.2.1, z.2.2.1, z.2.2.2⟩, for_rng (E := E) n o R1 (posts_back S1 hq)⟩
    · rw [if_neg z] at hq; exact hq.elim
end
end DL
end
section
/-! D12: list comprehensions. -/
namespace DL
open PySem PySem.Spec L2

/-! ### one reading for all contexts -/
theorem uni_E {C : Type} {X : C → Cx} {B : Bas} {W : WX} {e : Expr} {f : ESem} (h : ∀ c, ∃ t, PE (X c) e t ∧ SemG B W t f (PostE B)) : ∃ t, (∀ c, PE (X c) e t) ∧ SemG B W t f (PostE B) := by
  refine ⟨fun σ H Q => ∀ c, Classical.choose (h c) σ H Q, fun c => ⟨fun pins s σ H Q I q => (Classical.choose_spec (h c)).1.run pins s σ H Q I (q c)⟩, fun F ρ σ H R Q hq c => (Classical.choose_spec (h c)).2 F ρ σ H R Q hq⟩
theorem uni_C {C : Type} {X : C → Cx} {B : Bas} {W : WX} {e : List Expr} {f : CSem} (h : ∀ c, ∃ t, PTs (X c) e t ∧ SemG B W t f (PostC B)) : ∃ t, (∀ c, PTs (X c) e t) ∧ SemG B W t f (PostC B) := by
  refine ⟨fun σ H Q => ∀ c, Classical.choose (h c) σ H Q, fun c => ⟨fun pins s σ H Q I q => (Classical.choose_spec (h c)).1.run pins s σ H Q I (q c)⟩, fun F ρ σ H R Q hq c => (Classical.choose_spec (h c)).2 F ρ σ H R Q hq⟩
theorem uni_T {C : Type} {X : C → Cx} {B : Bas} {e : Expr} {g : D → Env → Option Env} (h : ∀ c, ∃ t, PG (X c) e t ∧ TgS B t g) : ∃ t, (∀ c, PG (X c) e t) ∧ TgS B t g := by
  refine ⟨fun v σ H Q => ∀ c, Classical.choose (h c) v σ H Q, fun c => ⟨fun pins s σ H v u Q I r q => (Classical.choose_spec (h c)).1.run pins s σ H v u Q I r (q c)⟩, fun F0 ρ0 σ0 H0 F ρ σ H v d ρ' R S r e Q q c => (Classical.choose_spec (h c)).2 F0 ρ0 σ0 H0 F ρ σ H v d ρ' R S r e Q q⟩
/-- no exception leaves -/
abbrev W0 : WX := fun _ _ _ _ => False
def Out.nox {α : Type} : Out α → Out α
  | .ex _ _ _ => .no
  | o => o
theorem nox_ok {α : Type} {o : Out α} {p : α → Env → Prop} {x x' : Str → List (Str × D) → Env → Prop} (h : o.nox.OK p x) : o.OK p x' := by
  cases o with
  | ok a ρ => exact h
  | ex c fs ρ => exact h.elim
  | no => exact h.elim

/-! ### the block's own names -/
def wipeE (ρ : Env) : List Nat → Env
  | [] => ρ
  | v :: vs => (wipeE ρ vs).set v none
theorem wipeE_len (ρ : Env) : ∀ vs : List Nat, (wipeE ρ vs).length = ρ.length
  | [] => rfl
  | v :: vs => by unfold wipeE; rw [List.length_set, wipeE_len ρ vs]
theorem wipeE_some {ρ : Env} {i : Nat} {x : SV} : ∀ {vs : List Nat}, (wipeE ρ vs)[i]? = some (some x) → ρ[i]? = some (some x) ∧ i ∉ vs
  | [], h => ⟨h, by simp⟩
  | v :: vs, h => by
    unfold wipeE at h
    rcases get_set h with ⟨_, e⟩ | ⟨hi, h⟩
    · cases e
    · obtain ⟨h1, h2⟩ := wipeE_some h
      exact ⟨h1, by simp only [List.mem_cons, not_or]; exact ⟨fun e => hi e.symm, h2⟩⟩
theorem wipeE_out {ρ : Env} {i : Nat} : ∀ {vs : List Nat}, i ∉ vs → (wipeE ρ vs)[i]? = ρ[i]?
  | [], _ => rfl
  | v :: vs, h => by
    simp only [List.mem_cons, not_or] at h
    unfold wipeE
    rw [List.getElem?_set, if_neg (fun e => h.1 e.symm), wipeE_out h.2]
theorem wipe_out' {σ : St} {i : Nat} : ∀ {vs : List Nat}, i ∉ vs → (wipe σ vs)[i]? = σ[i]?
  | [], _ => rfl
  | v :: vs, h => by
    simp only [List.mem_cons, not_or] at h
    unfold wipe
    rw [List.getElem?_set, if_neg (fun e => h.1 e.symm), wipe_out' h.2]
/-- back to what the names held -/
def rest (ρ0 : Env) : List Nat → Env → Env
  | [], ρ => ρ
  | v :: vs, ρ => (rest ρ0 vs ρ).set v ((ρ0[v]?).join)
theorem rest_len {ρ0 : Env} : ∀ (vs : List Nat) (ρ : Env), (rest ρ0 vs ρ).length = ρ.length
  | [], _ => rfl
  | v :: vs, ρ => by unfold rest; rw [List.length_set, rest_len vs]
theorem rest_at {ρ0 : Env} {i : Nat} {x : SV} : ∀ {vs : List Nat} {ρ : Env}, (rest ρ0 vs ρ)[i]? = some (some x) → (i ∈ vs ∧ ρ0[i]? = some (some x)) ∨ (i ∉ vs ∧ ρ[i]? = some (some x))
  | [], ρ, h => .inr ⟨by simp, h⟩
  | v :: vs, ρ, h => by
    unfold rest at h
    rcases get_set h with ⟨e, z⟩ | ⟨e, z⟩
    · subst e
      refine .inl ⟨by simp, ?_⟩
      cases q : ρ0[v]? with
      | none => rw [q] at z; cases z
      | some o => rw [q] at z; cases z; rfl
    · rcases rest_at z with ⟨h1, h2⟩ | ⟨h1, h2⟩
      · exact .inl ⟨List.mem_cons_of_mem _ h1, h2⟩
      · exact .inr ⟨by simp only [List.mem_cons, not_or]; exact ⟨fun q => e q.symm, h1⟩, h2⟩
/-- the names hold no object of the def's own -/
def freeOf (ρ : Env) (vs : List Nat) : Bool := vs.all fun v => match ρ[v]? with
  | some (some s) => !s.obj
  | _ => true
section
variable {B : Bas} {F F' F0 H H' H0 : Hp} {ρ ρ' ρ0 : Env} {σ σ0 : St} {vs : List Nat}
theorem wipe_rel (R : Rel B F ρ σ H) : Rel B F (wipeE ρ vs) (wipe σ vs) H ∧ Stp F ρ σ H F (wipeE ρ vs) (wipe σ vs) H := by
  have has : ∀ k a, HasAt (wipeE ρ vs) (wipe σ vs) k a → HasAt ρ σ k a := fun k a ⟨s, h1, h2, h3⟩ => ⟨s, (wipeE_some h1).1, h2, (wipe_some h3).1⟩
  refine ⟨⟨R.ext, by rw [wipe_length, wipeE_len]; exact R.len, fun i sv h => ?_, fun i j a h1 h2 => ?_⟩, ⟨fun _ _ h => h, fun _ h => .inl h, fun _ _ h _ => h, fun _ h => h, fun k a h => .inr (has k a h), fun k b o a h1 h2 => .inr ⟨o, (wipeE_some h1).1, (wipe_some h2).1⟩, fun k o a h1 h2 => ⟨o, (wipeE_some h1).1, (wipe_some h2).1⟩⟩⟩
  · obtain ⟨h1, h2⟩ := wipeE_some h
    obtain ⟨v, g1, g2⟩ := R.sl i sv h1
    exact ⟨v, by rw [wipe_out' h2]; exact g1, g2⟩
  · obtain ⟨b, o, w1, w2⟩ := h1
    exact R.sep i j a ⟨b, o, (wipeE_some w1).1, (wipe_some w2).1⟩ (has j a h2)
theorem rest_rel (R : Rel B F ρ σ H) (fr : freeOf ρ vs = true) (S : Stp F (wipeE ρ vs) (wipe σ vs) H F' ρ' (wipe σ vs) H') (R' : Rel B F' ρ' (wipe σ vs) H') : Rel B F' (rest ρ vs ρ') σ H' ∧ Stp F ρ σ H F' (rest ρ vs ρ') σ H' := by
  have nobj : ∀ (i : Nat) (s : SV), i ∈ vs → ρ[i]? = some (some s) → s.obj = false := fun i s h1 h2 => by
    have := List.all_eq_true.mp fr i h1
    rw [h2] at this
    simpa using this
  have S' := (wipe_rel (vs := vs) R).2.trans S
  have get : ∀ (k : Nat) (s : SV), (rest ρ vs ρ')[k]? = some (some s) → s.obj = true → k ∉ vs ∧ ρ'[k]? = some (some s) := fun k s h ho => by
    rcases rest_at h with ⟨h1, h2⟩ | h
    · rw [nobj k s h1 h2] at ho; cases ho
    · exact h
  have has : ∀ k a, HasAt (rest ρ vs ρ') σ k a → HasAt ρ' (wipe σ vs) k a := fun k a ⟨s, h1, h2, h3⟩ => by
    obtain ⟨g1, g2⟩ := get k s h1 h2
    exact ⟨s, g2, h2, by rw [wipe_out' g1]; exact h3⟩
  refine ⟨⟨R'.ext, by rw [rest_len, ← R'.len, wipe_length], fun i sv h => ?_, fun i j a h1 h2 => ?_⟩, ⟨S'.mono, S'.newF, S'.keep, S'.dom, fun k a h => S'.has k a (has k a h), fun k b o a h1 h2 => ?_, fun k o a h1 h2 => ?_⟩⟩
  · rcases rest_at h with ⟨h1, h2⟩ | ⟨h1, h2⟩
    · obtain ⟨v, g1, g2⟩ := R.sl i sv h2
      exact ⟨v, g1, by
        have ho := nobj i sv h1 h2
        cases sv with
        | fz d => exact Rep.mono S.mono g2
        | ow b o => cases ho
        | lk o => cases ho
        | xn c fs =>
          obtain ⟨a, C, dd, ws, e1, g, x, q⟩ := g2
          exact ⟨a, C, dd, ws, e1, g, x, q.elim .inl fun ⟨e, h1, h2, h3⟩ => .inr ⟨e, h1, S.mono _ _ h2, h3.mono S.mono⟩⟩
        | dd => trivial⟩
    · obtain ⟨v, g1, g2⟩ := R'.sl i sv h2
      exact ⟨v, by rw [← wipe_out' h1]; exact g1, g2⟩
  · obtain ⟨b, o, w1, w2⟩ := h1
    obtain ⟨g1, g2⟩ := get i _ w1 rfl
    exact R'.sep i j a ⟨b, o, g2, by rw [wipe_out' g1]; exact w2⟩ (has j a h2)
  · obtain ⟨g1, g2⟩ := get k _ h1 rfl
    exact S'.own k b o a g2 (by rw [wipe_out' g1]; exact h2)
  · obtain ⟨g1, g2⟩ := get k _ h1 rfl
    exact S'.lks k o a g2 (by rw [wipe_out' g1]; exact h2)
/-- a thing that no slot holds, nothing leans on, is put in the place of another -/
theorem Rel.poke {p : Addr} {u w : HO} (R : Rel B F ρ σ H) (S : Stp F0 ρ0 σ0 H0 F ρ σ H) (h0 : H0 p = none) (hp : H p = some w) (hf : F p = none) (hs : ∀ k, ¬ HasAt ρ σ k p) : Rel B F ρ σ (upd H p u) ∧ Stp F0 ρ0 σ0 H0 F ρ σ (upd H p u) := by
  have kp : ∀ c z, c ≠ p → H c = some z → upd H p u c = some z := fun c z n q => by rw [upd_ne n]; exact q
  refine ⟨⟨fun a o q => kp a o (fun z => by rw [z, hf] at q; cases q) (R.ext a o q), R.len, fun i sv h => ?_, R.sep⟩, ⟨S.mono, S.newF, fun a o q hn => kp a o (fun z => by rw [z, h0] at q; cases q) (S.keep a o q hn), fun a q => ?_, S.has, S.own, S.lks⟩⟩
  · obtain ⟨v, g1, g2⟩ := R.sl i sv h
    refine ⟨v, g1, ?_⟩
    have ne : sv.obj = true → ∀ c, v = .ref c → c ≠ p := fun ho c e z => by subst e; subst z; exact hs i ⟨sv, h, ho, g1⟩
    cases sv with
    | fz d => exact g2
    | ow b o => obtain ⟨c, e1, e2, e3⟩ := g2; exact ⟨c, e1, e2, e3.keep (fun _ _ q => q) fun o q => kp c o (ne rfl c e1) q⟩
    | lk o => obtain ⟨c, e1, e2, e3⟩ := g2; exact ⟨c, e1, e2, e3.keep (fun _ _ q => q) fun o q => kp c o (ne rfl c e1) q⟩
    | xn c fs => exact g2
    | dd => trivial
  · by_cases z : a = p
    · subst z; rw [upd_same] at q; cases q
    · rw [upd_ne z] at q; exact S.dom a q
end

/-! ### targets of a comprehension -/
inductive Tg1 where
  | nm (i : Nat) | tp (is : List Nat)
def gsT : List Nat → TGs
  | [] => gNil
  | i :: is => gCons (gName i) (gsT is)
def gT (K : PySem.W.Frag) : Tg1 → TG
  | .nm i => gName i
  | .tp is => gTup K is.length (gsT is)
def tgsF : List Nat → List D → Env → Option Env
  | [] => tgNil
  | i :: is => tgCons (tgN i) (tgsF is)
def tgF : Tg1 → D → Env → Option Env
  | .nm i => tgN i
  | .tp is => tgT is.length (tgsF is)
def Tg1.ixs : Tg1 → List Nat
  | .nm i => [i]
  | .tp is => is
theorem wipe_set {σ : St} {i : Nat} {v : Option V} : ∀ {vs : List Nat}, i ∈ vs → wipe (σ.set i v) vs = wipe σ vs
  | [], h => by cases h
  | w :: vs, h => by
    unfold wipe
    by_cases hi : i ∈ vs
    · rw [wipe_set hi]
    · rcases List.mem_cons.mp h with e | h
      · subst e
        -- the name is set none at the end
        have : ∀ us : List Nat, i ∉ us → wipe (σ.set i v) us = (wipe σ us).set i v := by
          intro us hu
          induction us with
          | nil => rfl
          | cons u us ih =>
            simp only [List.mem_cons, not_or] at hu
            unfold wipe
            rw [ih hu.2, List.set_comm _ _ hu.1]
        rw [this vs hi, List.set_set]
      · exact absurd h hi
theorem gsT_ok {B : Bas} {F0 H0 F H : Hp} {ρ0 : Env} {σ0 : St} {vs : List Nat} {σ1 : St} : ∀ (is : List Nat) (ρ : Env) (σ : St) (us : List V) (ds : List D) (ρ' : Env), (∀ i ∈ is, i ∈ vs) → Rel B F ρ σ H → Stp F0 ρ0 σ0 H0 F ρ σ H → RepL B F us ds → tgsF is ds ρ = some ρ' → wipe σ vs = σ1 → ∀ Q : St → Hp → Prop,
    (∀ σ', Rel B F ρ' σ' H → Stp F0 ρ0 σ0 H0 F ρ' σ' H → wipe σ' vs = σ1 → Q σ' H) → gsT is us σ H Q
  | [], ρ, σ, us, ds, ρ', hv, R, S, r, e, hw, Q, q => by
    cases r with
    | nil => simp only [tgsF, tgNil] at e; cases e; exact ⟨rfl, q σ R S hw⟩
    | cons _ _ => simp only [tgsF, tgNil] at e; cases e
  | i :: is, ρ, σ, us, ds, ρ', hv, R, S, r, e, hw, Q, q => by
    cases r with
    | nil => simp only [tgsF, tgCons] at e; cases e
    | @cons v1 d1 us ds r1 r2 =>
      simp only [tgsF, tgCons, tgN] at e
      obtain ⟨R2, S2⟩ := R.put (i := i) (sv := .fz d1) S r1 (fun z => nomatch z)
      exact ⟨v1, us, rfl, gsT_ok is _ _ us ds ρ' (fun j hj => hv j (List.mem_cons_of_mem _ hj)) R2 S2 r2 e (by rw [wipe_set (hv i (by simp)), hw]) Q q⟩
theorem gT_ok {B : Bas} {F0 H0 F H : Hp} {ρ0 ρ ρ' : Env} {σ0 σ : St} {vs : List Nat} {tg : Tg1} {v : V} {d : D} (hv : ∀ i ∈ tg.ixs, i ∈ vs) (R : Rel B F ρ σ H) (S : Stp F0 ρ0 σ0 H0 F ρ σ H) (r : Rep B F v d) (e : tgF tg d ρ = some ρ') (Q : St → Hp → Prop)
    (q : ∀ σ', Rel B F ρ' σ' H → Stp F0 ρ0 σ0 H0 F ρ' σ' H → wipe σ' vs = wipe σ vs → Q σ' H) : gT B.K tg v σ H Q := by
  cases tg with
  | nm i =>
    cases e
    obtain ⟨R2, S2⟩ := R.put (i := i) (sv := .fz d) S r (fun z => nomatch z)
    exact q _ R2 S2 (wipe_set (hv i (by simp [Tg1.ixs])))
  | tp is =>
    cases r with
    | tup h1 l1 =>
      simp only [tgF, tgT] at e
      split at e
      · rename_i z
        exact ⟨_, _, rfl, tq (R.ext _ _ h1), by rw [l1.length]; exact z, gsT_ok is ρ σ _ _ ρ' hv R S l1 e rfl Q q⟩
      · cases e
    | _ => simp only [tgF, tgT] at e; cases e

def compL (tg : D → Env → Option Env) (tt : CSem) (el : ESem) (vs : List Nat) : List D → List D → Env → Out (List D)
  | [], acc, ρ => .ok acc ρ
  | x :: r, acc, ρ => match tg x ρ with
    | some ρ0 => (tt ρ0).nox.bind fun k ρ1 => if k = true then (eF el ρ1).nox.bind fun d ρ2 => if acc.length < sizeLine then compL tg tt el vs r (acc ++ [d]) (wipeE ρ2 vs) else .no
        else compL tg tt el vs r acc (wipeE ρ1 vs)
    | none => .no
def cYes : CSem := fun ρ => .ok true ρ
theorem Out.nox_bind {α β : Type} (o : Out α) (f : α → Env → Out β) (p : β → Env → Prop) (x : Str → List (Str × D) → Env → Prop) (h : (o.nox.bind f).OK p x) (x' : Str → List (Str × D) → Env → Prop) : o.OK (fun a ρ => (f a ρ).OK p x) x' := by
  cases o with
  | ok a ρ => exact h
  | ex c fs ρ => exact h.elim
  | no => exact h.elim
/-- outside of the block's names -/
def LiveX (vs : List Nat) (ρ ρ' : Env) : Prop := ∀ (i : Nat) (sv : SV), i ∉ vs → ρ[i]? = some (some sv) → ∃ sv', ρ'[i]? = some (some sv')
theorem LiveX.trans {vs : List Nat} {a b c : Env} (h : LiveX vs a b) (k : LiveX vs b c) : LiveX vs a c := fun i sv hi e => let ⟨s1, e1⟩ := h i sv hi e; k i s1 hi e1
theorem Live.x {vs : List Nat} {a b : Env} (h : Live a b) : LiveX vs a b := fun i sv _ e => h i sv e
theorem tgsF_out : ∀ (is : List Nat) (ρ ρ' : Env) (ds : List D) (i : Nat), tgsF is ds ρ = some ρ' → i ∉ is → ρ'[i]? = ρ[i]?
  | [], ρ, ρ', ds, i, e, _ => by
    cases ds with
    | nil => simp only [tgsF, tgNil] at e; cases e; rfl
    | cons _ _ => simp only [tgsF, tgNil] at e; cases e
  | j :: is, ρ, ρ', ds, i, e, h => by
    simp only [List.mem_cons, not_or] at h
    cases ds with
    | nil => simp only [tgsF, tgCons] at e; cases e
    | cons d ds =>
      simp only [tgsF, tgCons, tgN] at e
      rw [tgsF_out is _ ρ' ds i e h.2, List.getElem?_set, if_neg fun z => h.1 z.symm]
theorem tgF_out {tg : Tg1} {d : D} {ρ ρ' : Env} {i : Nat} (e : tgF tg d ρ = some ρ') (h : i ∉ tg.ixs) : ρ'[i]? = ρ[i]? := by
  cases tg with
  | nm j =>
    cases e
    simp only [Tg1.ixs, List.mem_singleton] at h
    rw [List.getElem?_set, if_neg fun z => h z.symm]
  | tp is =>
    cases d with
    | tup ds =>
      simp only [tgF, tgT] at e
      split at e
      · exact tgsF_out is ρ ρ' ds i e h
      · cases e
    | _ => simp only [tgF, tgT] at e; cases e
theorem wipeE_live {ρ : Env} {vs : List Nat} : LiveX vs ρ (wipeE ρ vs) := fun i sv hi e => ⟨sv, by rw [wipeE_out hi]; exact e⟩
theorem rest_live {ρ ρ' : Env} {vs : List Nat} (hl : ρ'.length = ρ.length) (h : LiveX vs ρ ρ') : Live ρ (rest ρ vs ρ') := by
  intro i sv e
  have z : ∀ (us : List Nat), (i ∈ us → (rest ρ us ρ')[i]? = some (some sv)) ∧ (i ∉ us → (rest ρ us ρ')[i]? = ρ'[i]?) := by
    intro us
    induction us with
    | nil => exact ⟨fun h => (nomatch h), fun _ => rfl⟩
    | cons u us ih =>
      have hi : i < ρ.length := (List.getElem?_eq_some_iff.mp e).1
      unfold rest
      refine ⟨fun h => ?_, fun h => ?_⟩
      · rw [List.getElem?_set]
        by_cases q : u = i
        · subst q
          rw [if_pos rfl, if_pos (by rw [rest_len, hl]; exact hi), e]; rfl
        · rw [if_neg q]
          exact ih.1 ((List.mem_cons.mp h).resolve_left fun w => q w.symm)
      · simp only [List.mem_cons, not_or] at h
        rw [List.getElem?_set, if_neg fun w => h.1 w.symm]
        exact ih.2 h.2
  by_cases hi : i ∈ vs
  · exact ⟨sv, (z vs).1 hi⟩
  · rw [(z vs).2 hi]
    exact h i sv hi e
theorem wipe_wipe {σ : St} {vs : List Nat} : wipe (wipe σ vs) vs = wipe σ vs := by
  refine List.ext_getElem? fun i => ?_
  by_cases h : i ∈ vs
  · have z : ∀ (σ : St) (us : List Nat), i ∈ us → (wipe σ us)[i]? = if i < σ.length then some none else none := by
      intro σ us hu
      induction us with
      | nil => cases hu
      | cons u us ih =>
        unfold wipe
        rw [List.getElem?_set, wipe_length]
        by_cases e : u = i
        · subst e; rw [if_pos rfl]
        · rw [if_neg e]
          rcases List.mem_cons.mp hu with q | q
          · exact absurd q.symm e
          · exact ih q
    rw [z _ _ h, z _ _ h, wipe_length]
  · rw [wipe_out' h]
theorem comp_data {B : Bas} {J : It} {tg : Tg1} {tt : TT} {te : TE} {tf : CSem} {el : ESem} {vs : List Nat} {F : Hp} {ρ : Env} {σ : St} {H : Hp} {Q : VK} (hv : ∀ i ∈ tg.ixs, i ∈ vs) (hc : SemG B W0 tt tf (PostC B)) (he : SemG B W0 te el (PostE B)) (R : Rel B F ρ σ H) (fr : freeOf ρ vs = true) (ds : List D)
    (hgo : ∀ i F' ρ' H', i < ds.length → Stp F ρ σ H F' ρ' (wipe σ vs) H' → J.go i H') (hstop : ∀ F' ρ' H', Stp F ρ σ H F' ρ' (wipe σ vs) H' → J.stop ds.length H')
    (hy : ∀ i F' ρ' H' x H'', Stp F ρ σ H F' ρ' (wipe σ vs) H' → Rel B F' ρ' (wipe σ vs) H' → J.yld i H' x H'' → H'' = H' ∧ ∀ d, ds[i]? = some d → Rep B F' x d)
    (hq : (compL (tgF tg) tf el vs ds [] (wipeE ρ vs)).OK (fun acc ρ' => ∀ F' H' D, Live ρ (rest ρ vs ρ') → Stp F ρ σ H F' (rest ρ vs ρ') σ H' → Rel B F' (rest ρ vs ρ') σ H' → RvR B F' (rest ρ vs ρ') σ H H' (.ref D) (.fr (.lst acc)) → Q (.ref D) H') (fun _ _ _ => False)) :
    ∀ D, H D = none → ∃ W : Nat → Nat → Hp → Prop, (∃ m, W 0 m (upd H D (.lst []))) ∧ ∀ i m H, W i m H →
      (J.stop i H ∧ Q (.ref D) H) ∨ (J.go i H ∧ ∃ Nx : Hp → Prop, (∀ H', Nx H' → ∃ m', m' < m ∧ W (i + 1) m' H') ∧ ∀ x H', J.yld i H x H' → gT B.K tg x (wipe σ vs) H' fun σ2 H2 => wipe σ2 vs = wipe σ vs ∧ tt σ2 H2 fun b H3 =>
        if b = true then te σ2 H3 fun y H4 => ∃ acc, H4 D = some (.lst acc) ∧ acc.length < sizeLine ∧ Nx (upd H4 D (.lst (acc ++ [y]))) else Nx H3) := by
  intro D hD
  let PO : List DL.D → Env → Prop := fun acc ρ' => ∀ F' H' D, Live ρ (rest ρ vs ρ') → Stp F ρ σ H F' (rest ρ vs ρ') σ H' → Rel B F' (rest ρ vs ρ') σ H' → RvR B F' (rest ρ vs ρ') σ H H' (.ref D) (.fr (.lst acc)) → Q (.ref D) H'
  -- between two turns
  let Pv : Nat → Hp → Prop := fun i H' => ∃ F' ρ' acc us, LiveX vs ρ ρ' ∧ Stp F (wipeE ρ vs) (wipe σ vs) H F' ρ' (wipe σ vs) H' ∧ Rel B F' ρ' (wipe σ vs) H' ∧ H' D = some (.lst us) ∧ RepL B F' us acc ∧ F' D = none ∧ (∀ k, ¬ HasAt ρ' (wipe σ vs) k D) ∧
    (compL (tgF tg) tf el vs (ds.drop i) acc ρ').OK PO (fun _ _ _ => False)
  obtain ⟨R1, S1⟩ := wipe_rel (vs := vs) R
  refine ⟨fun i m H => m = ds.length - i ∧ i ≤ ds.length ∧ Pv i H, ⟨ds.length, by simp, Nat.zero_le _, ?_⟩, ?_⟩
  · obtain ⟨R2, S2⟩ := R1.alloc (u := .lst []) hD
    exact ⟨F, wipeE ρ vs, [], [], wipeE_live, S2, R2, upd_same, .nil, noF R hD, nohas R1 hD, hq⟩
  · rintro i m H1 ⟨rfl, hi, p⟩
    obtain ⟨F1, ρ1, acc, us, V1, S1w, R1', hD1, l1, f1, n1, h1⟩ := p
    have S1' := S1.trans S1w
    by_cases hlt : i < ds.length
    · refine .inr ⟨hgo i F1 ρ1 H1 hlt S1', Pv (i + 1), fun H' p' => ⟨ds.length - (i + 1), by omega, rfl, hlt, p'⟩, fun x H2 y => ?_⟩
      obtain ⟨e, hx⟩ := hy i F1 ρ1 H1 x H2 S1' R1' y
      subst e
      rw [List.drop_eq_getElem_cons hlt] at h1
      simp only [compL] at h1
      cases w : tgF tg ds[i] ρ1 with
      | none => rw [w] at h1; exact h1.elim
      | some ρ2 =>
        rw [w] at h1
        dsimp only at h1
        refine gT_ok hv R1' (Stp.refl _ _ _ _) (hx _ (List.getElem?_eq_getElem hlt)) w _ fun σ2 R2 S2 hw2 => ?_
        rw [wipe_wipe] at hw2
        have V2 : LiveX vs ρ ρ2 := V1.trans fun i sv hi e => ⟨sv, by rw [tgF_out w (fun z => hi (hv i z))]; exact e⟩
        refine ⟨hw2, ?_⟩
        have keepD : ∀ {F' : Hp} {ρ' : Env} {σ' : St} {H' : Hp}, Stp F1 ρ1 (wipe σ vs) H2 F' ρ' σ' H' → H' D = some (.lst us) ∧ F' D = none ∧ ∀ k, ¬ HasAt ρ' σ' k D := fun {F' ρ' σ' H'} S' => by
          refine ⟨S'.keep D _ hD1 fun k z => n1 k z.has, ?_, fun k z => ?_⟩
          · cases q : F' D with
            | none => rfl
            | some z =>
              rcases S'.newF D (by rw [q]; exact fun z => nomatch z) with q | q | ⟨k, q⟩
              · exact absurd f1 q
              · rcases q with q | ⟨_, q⟩ <;> rw [hD1] at q <;> cases q
              · exact absurd q.has (n1 k)
          · rcases S'.has k D z with q | q
            · rw [hD1] at q; cases q
            · exact n1 k q
        have hws : ∀ {F' : Hp} {ρ' : Env} {H' : Hp}, Stp F1 ρ1 (wipe σ vs) H2 F' ρ' σ2 H' → Rel B F' ρ' σ2 H' → Stp F1 ρ1 (wipe σ vs) H2 F' (wipeE ρ' vs) (wipe σ vs) H' ∧ Rel B F' (wipeE ρ' vs) (wipe σ vs) H' := fun {F' ρ' H'} S' R' => by
          obtain ⟨R3, S3⟩ := wipe_rel (vs := vs) R'
          rw [hw2] at R3 S3
          exact ⟨S'.trans S3, R3⟩
        refine hc F1 ρ2 σ2 H2 R2 _ ((Out.nox_bind _ _ _ _ h1 _).imp (fun k ρ3 h3 F3 H3 S3 V3 R3 => ?_) fun _ _ _ z => z)
        have S13 := S2.trans S3
        cases k with
        | false =>
          rw [if_neg Bool.false_ne_true] at h3
          dsimp only
          rw [if_neg Bool.false_ne_true]
          obtain ⟨S4, R4⟩ := hws S13 R3
          obtain ⟨k1, k2, k3⟩ := keepD S4
          exact ⟨F3, _, acc, us, (V2.trans V3.x).trans wipeE_live, S1w.trans S4, R4, k1, l1.mono S13.mono, k2, k3, h3⟩
        | true =>
          rw [if_pos rfl] at h3
          dsimp only
          rw [if_pos rfl]
          have h3' := Out.nox_bind _ _ _ _ h3 (fun c fs ρ' => PostX B F3 ρ3 σ2 H3 c fs ρ' W0)
          refine he F3 ρ3 σ2 H3 R3 _ ?_
          unfold eF at h3'
          rw [Out.OK_bind] at h3'
          refine h3'.imp (fun r ρ4 h4 F4 H4 y S4 L4 R4 r4 => ?_) fun _ _ _ z => z
          cases e5 : frz ρ4 r with
          | none => rw [e5] at h4; exact h4.elim
          | some z =>
            obtain ⟨d, ρ5⟩ := z
            rw [e5] at h4
            obtain ⟨F5, S5, V5, R5, r5, _⟩ := frz_ok R4 S4 r4 e5
            have S15 := S13.trans S5
            simp only [Out.OK] at h4
            by_cases hz : acc.length < sizeLine
            · rw [if_pos hz] at h4
              obtain ⟨S6, R6⟩ := hws S15 R5
              obtain ⟨k1, k2, k3⟩ := keepD S6
              obtain ⟨R7, S7⟩ := R6.poke (u := .lst (us ++ [y])) (S1w.trans S6) hD k1 k2 k3
              refine ⟨us, k1, by rw [l1.length]; exact hz, F5, _, acc ++ [d], us ++ [y], (((V2.trans V3.x).trans L4.x).trans V5.x).trans wipeE_live, S7, R7, upd_same, (l1.mono S15.mono).append (.cons r5 .nil), k2, k3, h4⟩
            · rw [if_neg hz] at h4; exact h4.elim
    · have e : i = ds.length := by omega
      subst e
      rw [List.drop_eq_nil_of_le (Nat.le_refl _)] at h1
      obtain ⟨R3, S3⟩ := rest_rel R fr S1w R1'
      refine .inl ⟨hstop F1 ρ1 H1 S1', h1 F1 H1 D (rest_live (by rw [← R1'.len, ← R.len, wipe_length]) V1) S3 R3 ⟨D, rfl, hD, f1, ⟨us, hD1, l1⟩, fun k z => ?_⟩⟩
      obtain ⟨s, q1, q2, q3⟩ := z
      rcases rest_at q1 with ⟨w1, w2⟩ | ⟨w1, w2⟩
      · have := List.all_eq_true.mp fr k w1
        rw [w2] at this
        simp [q2] at this
      · exact n1 k ⟨s, w2, q2, by rw [wipe_out' w1]; exact q3⟩
end DL
end
section
/-! D13: the rules of list comprehensions. -/
namespace DL
open PySem PySem.Spec L2

def Out.onE {α : Type} (f : Env → Env) : Out α → Out α
  | .ok a ρ => .ok a (f ρ)
  | .ex c fs ρ => .ex c fs (f ρ)
  | .no => .no
def compR (tg : Tg1) (tt : CSem) (el : ESem) (vs : List Nat) (ds : List D) (ρ : Env) : Out (List D) := if freeOf ρ vs = true then (compL (tgF tg) tt el vs ds [] (wipeE ρ vs)).bind fun acc ρ' => .ok acc (rest ρ vs ρ') else .no
def compB (tg : Tg1) (tt : CSem) (el : ESem) (vs : List Nat) (r : RV) (ds : List D) (ρ : Env) : Out (List D) := match r with
  | .sl k => (match ρ[k]? with
    | some (some (.ow w o)) => (compR tg tt el vs ds (ρ.set k (some (.lk o)))).onE (unl k w)
    | _ => compR tg tt el vs ds ρ)
  | _ => compR tg tt el vs ds ρ
def eLc (src : ESem) (tg : Tg1) (tt : CSem) (el : ESem) (vs : List Nat) : ESem := fun ρ => (src ρ).bind fun r ρ1 => match rd ρ1 r with
  | some d => (match itemsD d with
    | some ds => (compB tg tt el vs r ds ρ1).nox.bind fun acc ρ2 => .ok (.fr (.lst acc)) ρ2
    | none => .no)
  | none => .no
/-- the turns of a comprehension over what stands still -/
theorem comp_still {X : Cx} {I : Addr → Value → Option Addr → Prop} {tg : Tg1} {tt : TT} {te : TE} {tf : CSem} {el : ESem} {vs : List Nat} {F : Hp} {ρ : Env} {σ : St} {H : Hp} {Q : VK} {x : V} {d : D} {ds : List D} (hv : ∀ i ∈ tg.ixs, i ∈ vs) (hc : SemG (bas X I) W0 tt tf (PostC (bas X I))) (he : SemG (bas X I) W0 te el (PostE (bas X I)))
    (R : Rel (bas X I) F ρ σ H) (hs : Still ρ σ H X.K x d (bas X I) F) (hd : itemsD d = some ds)
    (hq : (compR tg tf el vs ds ρ).OK (fun acc ρ' => ∀ F' H' D, Live ρ ρ' → Stp F ρ σ H F' ρ' σ H' → Rel (bas X I) F' ρ' σ H' → RvR (bas X I) F' ρ' σ H H' (.ref D) (.fr (.lst acc)) → Q (.ref D) H') (fun _ _ _ => False)) :
    rIter X.K x H fun J H1 => ∀ D, H1 D = none → ∃ W : Nat → Nat → Hp → Prop, (∃ m, W 0 m (upd H1 D (.lst []))) ∧ ∀ i m H, W i m H →
      (J.stop i H ∧ Q (.ref D) H) ∨ (J.go i H ∧ ∃ Nx : Hp → Prop, (∀ H', Nx H' → ∃ m', m' < m ∧ W (i + 1) m' H') ∧ ∀ x H', J.yld i H x H' → gT X.K tg x (wipe σ vs) H' fun σ2 H2 => wipe σ2 vs = wipe σ vs ∧ tt σ2 H2 fun b H3 =>
        if b = true then te σ2 H3 fun y H4 => ∃ acc, H4 D = some (.lst acc) ∧ acc.length < sizeLine ∧ Nx (upd H4 D (.lst (acc ++ [y]))) else Nx H3) := by
  unfold compR at hq
  by_cases fr : freeOf ρ vs = true
  · rw [if_pos fr, Out.OK_bind] at hq
    rcases hs with ⟨a, xs, es, e, h0, h1, h2⟩ | ⟨a, xs, es, e, h0, h1, h2⟩ | ⟨z, e, h1⟩
    · rw [hd] at h0; cases h0
      subst e
      have st : ∀ {F' ρ' σ' H'}, Stp F ρ σ H F' ρ' σ' H' → SqL X.K H' a xs := fun S' => h1.sq S'
      have hlen := h2.length
      refine .inl ⟨a, rfl, ⟨xs, st (Stp.refl _ _ _ _)⟩, comp_data (B := bas X I) hv hc he R fr ds (fun i F' ρ' H' hi S' => ?_) (fun F' ρ' H' S' => ⟨xs, st S', by omega⟩) (fun i F' ρ' H' y H'' S' R' hy => ?_) hq⟩
      · exact ⟨xs, xs[i]'(by omega), st S', by simp [show i < xs.length by omega]⟩
      · obtain ⟨e1, hy⟩ := hy
        refine ⟨e1, fun d' hd' => ?_⟩
        obtain ⟨v, w1, w2⟩ := h2.get hd'
        rw [hy xs (st S')] at w1
        cases w1
        exact w2.mono S'.mono
    · rw [hd] at h0; cases h0
      subst e
      have st : ∀ {F' ρ' σ' H'}, Stp F ρ σ H F' ρ' σ' H' → SqT X.K H' a xs := fun S' => h1.sq S'
      have hlen := h2.length
      refine .inr (.inl ⟨a, rfl, ⟨xs, st (Stp.refl _ _ _ _)⟩, comp_data (B := bas X I) hv hc he R fr ds (fun i F' ρ' H' hi S' => ?_) (fun F' ρ' H' S' => ⟨xs, st S', by omega⟩) (fun i F' ρ' H' y H'' S' R' hy => ?_) hq⟩)
      · exact ⟨xs, xs[i]'(by omega), st S', by simp [show i < xs.length by omega]⟩
      · obtain ⟨e1, hy⟩ := hy
        refine ⟨e1, fun d' hd' => ?_⟩
        obtain ⟨v, w1, w2⟩ := h2.get hd'
        rw [hy xs (st S')] at w1
        cases w1
        exact w2.mono S'.mono
    · subst e; subst h1
      simp only [itemsD, Option.some.injEq] at hd
      subst hd
      have hlen : (z.cps.toList.map fun c => D.str ⟨#[c]⟩).length = z.cps.size := by simp
      refine .inr (.inr ⟨z, rfl, comp_data (B := bas X I) hv hc he R fr _ (fun i F' ρ' H' hi S' => ?_) (fun F' ρ' H' S' => ?_) (fun i F' ρ' H' y H'' S' R' hy => ?_) hq⟩)
      · show i < z.cps.size
        rw [hlen] at hi; exact hi
      · show z.cps.size ≤ _
        rw [hlen]; exact Nat.le_refl _
      · obtain ⟨e1, c, hc, hv⟩ := hy
        refine ⟨e1, fun d' hd' => ?_⟩
        rw [List.getElem?_map] at hd'
        have hc' : z.cps.toList[i]? = some c := by simpa using hc
        rw [hc'] at hd'
        cases hd'
        subst hv
        exact .str _
  · rw [if_neg fr] at hq; exact hq.elim
theorem onE_ok {α : Type} {o : Out α} {f : Env → Env} {p : α → Env → Prop} {x : Str → List (Str × D) → Env → Prop} (h : (o.onE f).OK p x) : o.OK (fun a ρ => p a (f ρ)) (fun c fs ρ => x c fs (f ρ)) := by
  cases o with
  | ok a ρ => exact h
  | ex c fs ρ => exact h
  | no => exact h
theorem has_unl {ρ : Env} {σ : St} {k j : Nat} {b : Bool} {c : Addr} (h : HasAt (unl k b ρ) σ j c) : HasAt ρ σ j c := by
  unfold unl at h
  split at h
  · rename_i o e
    obtain ⟨s, h1, h2, h3⟩ := h
    rcases get_set h1 with ⟨e', _⟩ | ⟨_, z⟩
    · subst e'; exact ⟨_, e, rfl, h3⟩
    · exact ⟨s, z, h2, h3⟩
  · exact h
/-- a comprehension's reading, whatever kind of thing is walked -/
theorem sem_lc {X : Cx} {I : Addr → Value → Option Addr → Prop} {W : WX} {tl : TE} {src : ESem} {tg : Tg1} {tt : TT} {te : TE} {tf : CSem} {el : ESem} {vs : List Nat} (hv : ∀ i ∈ tg.ixs, i ∈ vs) (m : SemG (bas X I) W tl src (PostE (bas X I))) (hc : SemG (bas X I) W0 tt tf (PostC (bas X I))) (he : SemG (bas X I) W0 te el (PostE (bas X I))) :
    SemG (bas X I) W (tLc (iAny X.K tl) (gT X.K tg) tt te vs) (eLc src tg tf el vs) (PostE (bas X I)) := by
  intro F ρ σ H R Q hq
  rw [eLc, Out.OK_bind] at hq
  refine m F ρ σ H R _ (hq.imp (fun rv ρ1 hq F1 H1 v S1 L1 R1 r1 => ?_) fun _ _ _ z => z)
  cases e : rd ρ1 rv with
  | none => rw [e] at hq; exact hq.elim
  | some d =>
    simp only [e] at hq
    cases e2 : itemsD d with
    | none => rw [e2] at hq; exact hq.elim
    | some ds =>
      rw [e2] at hq
      dsimp only at hq
      have hq := Out.nox_bind _ _ _ _ hq (fun _ _ _ => False)
      -- slots that stood stand
      have go : ∀ {ρ2 : Env}, Rel (bas X I) F1 ρ2 σ H1 → Still ρ2 σ H1 X.K v d (bas X I) F1 → (compR tg tf el vs ds ρ2).OK (fun acc ρ' => ∀ F' H' D, Live ρ2 ρ' → Stp F1 ρ2 σ H1 F' ρ' σ H' → Rel (bas X I) F' ρ' σ H' → RvR (bas X I) F' ρ' σ H1 H' (.ref D) (.fr (.lst acc)) → Q (.ref D) H') (fun _ _ _ => False) →
          rIter X.K v H1 fun J H1 => ∀ D, H1 D = none → ∃ W : Nat → Nat → Hp → Prop, (∃ m, W 0 m (upd H1 D (.lst []))) ∧ ∀ i m H, W i m H →
            (J.stop i H ∧ Q (.ref D) H) ∨ (J.go i H ∧ ∃ Nx : Hp → Prop, (∀ H', Nx H' → ∃ m', m' < m ∧ W (i + 1) m' H') ∧ ∀ x H', J.yld i H x H' → gT X.K tg x (wipe σ vs) H' fun σ2 H2 => wipe σ2 vs = wipe σ vs ∧ tt σ2 H2 fun b H3 =>
              if b = true then te σ2 H3 fun y H4 => ∃ acc, H4 D = some (.lst acc) ∧ acc.length < sizeLine ∧ Nx (upd H4 D (.lst (acc ++ [y]))) else Nx H3) :=
        fun R2 st h2 => comp_still hv hc he R2 st e2 h2
      have plain : Still ρ1 σ H1 X.K v d (bas X I) F1 → (compR tg tf el vs ds ρ1).OK (fun acc ρ' => PostE (bas X I) F ρ σ H (.fr (.lst acc)) ρ' Q) (fun _ _ _ => False) → _ := fun st h2 => go R1 st (h2.imp (fun acc ρ' q F' H' D V' S' R' r' => q F' H' _ (S1.trans S') (L1.trans V') R' (r'.base fun a z => S1.dom a z)) fun _ _ _ z => z)
      cases rv with
      | fz d' => cases e; exact plain (still_rep R1 r1 e2) hq
      | fr ob =>
        obtain ⟨a, ea, _, _, ho, hn⟩ := r1
        subst ea
        exact plain (still_obj ho (fun k z => hn k z.has) e e2) hq
      | sl k =>
        obtain ⟨g1, sv, g2⟩ := r1
        obtain ⟨v', w1, w2⟩ := R1.sl k sv g2
        rw [g1] at w1; cases w1
        simp only [rd, g2] at e
        simp only [compB, g2] at hq
        cases sv with
        | fz d' => cases e; exact plain (still_rep R1 w2 e2) hq
        | lk ob =>
          obtain ⟨a, ea, _, ho⟩ := w2
          subst ea
          refine plain (still_obj ho (fun j z => ?_) e e2) hq
          have z2 := R1.sep j k a z ⟨_, g2, rfl, g1⟩
          subst z2
          obtain ⟨b', o1, z3, _⟩ := z
          rw [g2] at z3; cases z3
        | ow b ob =>
          obtain ⟨a, ea, _, ho⟩ := w2
          subst ea
          have RL := lock_rel R1 g2
          have nL : ∀ j, ¬ OwnAt (ρ1.set k (some (.lk ob))) σ j a := fun j ⟨b', o1, z3, z4⟩ => by
            rcases get_set z3 with ⟨_, z5⟩ | ⟨z5, z6⟩
            · cases z5
            · exact z5 (R1.sep j k a ⟨b', o1, z6, z4⟩ ⟨_, g2, rfl, g1⟩).symm
          refine go RL (still_obj ho nL e e2) ((onE_ok hq).imp (fun acc ρ' q F' H' D V' S' R' r' => ?_) fun _ _ _ z => z)
          obtain ⟨s1, s2⟩ := unlock R1 g2 S' R'
          have vu : Live ρ' (unl k b ρ') := by
            unfold unl
            split
            · exact live_set
            · exact Live.refl _
          refine q F' H' _ (S1.trans s1) ((L1.trans (live_set.trans V')).trans vu) s2 ?_
          obtain ⟨c, x1, x2, x3, x4, x5⟩ := r'
          refine ⟨c, x1, S1.dom c x2, x3, x4, fun j z => ?_⟩
          exact x5 j (has_unl z)
        | xn c fs => cases e
        | dd => cases e

/-! ### over range(..) -/
def eLcR (rg : List D → Option (Int × Int)) (args : List ESem) (tg : Tg1) (tt : CSem) (el : ESem) (vs : List Nat) : ESem := fun ρ => (eL args ρ).bind fun ds ρ1 => match rg ds with
  | some (i, j) => if smallR i j = true then (compR tg tt el vs (rangeD i j) ρ1).nox.bind fun acc ρ2 => .ok (.fr (.lst acc)) ρ2 else .no
  | none => .no
theorem comp_rng {X : Cx} {I : Addr → Value → Option Addr → Prop} {tg : Tg1} {tt : TT} {te : TE} {tf : CSem} {el : ESem} {vs : List Nat} {F : Hp} {ρ : Env} {σ : St} {H : Hp} {Q : VK} {i j : Int} (hv : ∀ i ∈ tg.ixs, i ∈ vs) (hc : SemG (bas X I) W0 tt tf (PostC (bas X I))) (he : SemG (bas X I) W0 te el (PostE (bas X I)))
    (R : Rel (bas X I) F ρ σ H) (hq : (compR tg tf el vs (rangeD i j) ρ).OK (fun acc ρ' => ∀ F' H' D, Live ρ ρ' → Stp F ρ σ H F' ρ' σ H' → Rel (bas X I) F' ρ' σ H' → RvR (bas X I) F' ρ' σ H H' (.ref D) (.fr (.lst acc)) → Q (.ref D) H') (fun _ _ _ => False)) :
    ∀ D, H D = none → ∃ W : Nat → Nat → Hp → Prop, (∃ m, W 0 m (upd H D (.lst []))) ∧ ∀ k m H, W k m H →
      ((Itr i (j - i).toNat).stop k H ∧ Q (.ref D) H) ∨ ((Itr i (j - i).toNat).go k H ∧ ∃ Nx : Hp → Prop, (∀ H', Nx H' → ∃ m', m' < m ∧ W (k + 1) m' H') ∧ ∀ x H', (Itr i (j - i).toNat).yld k H x H' → gT X.K tg x (wipe σ vs) H' fun σ2 H2 => wipe σ2 vs = wipe σ vs ∧ tt σ2 H2 fun b H3 =>
        if b = true then te σ2 H3 fun y H4 => ∃ acc, H4 D = some (.lst acc) ∧ acc.length < sizeLine ∧ Nx (upd H4 D (.lst (acc ++ [y]))) else Nx H3) := by
  unfold compR at hq
  have hlen : (rangeD i j).length = (j - i).toNat := by simp [rangeD]
  by_cases fr : freeOf ρ vs = true
  · rw [if_pos fr, Out.OK_bind] at hq
    refine comp_data (B := bas X I) hv hc he R fr (rangeD i j) (fun k F' ρ' H' hk S' => ?_) (fun F' ρ' H' S' => ?_) (fun k F' ρ' H' x H'' S' R' hy => ?_) hq
    · rw [hlen] at hk; exact hk
    · rw [hlen]; exact Nat.le_refl _
    · obtain ⟨e1, e2⟩ := hy
      refine ⟨e1, fun d hd => ?_⟩
      subst e2
      unfold rangeD at hd
      rw [List.getElem?_map] at hd
      cases w : (List.range (j - i).toNat)[k]? with
      | none => rw [w] at hd; cases hd
      | some c =>
        rw [w] at hd
        cases hd
        obtain ⟨h1, h2⟩ := List.getElem?_eq_some_iff.mp w
        rw [List.getElem_range] at h2
        subst h2
        exact .int _
  · rw [if_neg fr] at hq; exact hq.elim
theorem post_lc {B : Bas} {F H F1 H1 : Hp} {ρ ρ1 : Env} {σ : St} {Q : VK} {o : Out (List D)} (S1 : Stp F ρ σ H F1 ρ1 σ H1) (L1 : Live ρ ρ1) (hq : (o.nox.bind fun acc ρ2 => Out.ok (RV.fr (.lst acc)) ρ2).OK (fun r ρ' => PostE B F ρ σ H r ρ' Q) (fun _ _ _ => True)) :
    o.OK (fun acc ρ' => ∀ F' H' D, Live ρ1 ρ' → Stp F1 ρ1 σ H1 F' ρ' σ H' → Rel B F' ρ' σ H' → RvR B F' ρ' σ H1 H' (.ref D) (.fr (.lst acc)) → Q (.ref D) H') (fun _ _ _ => False) :=
  (Out.nox_bind _ _ _ _ hq (fun _ _ _ => False)).imp (fun acc ρ' q F' H' D V' S' R' r' => q F' H' _ (S1.trans S') (L1.trans V') R' (r'.base fun a z => S1.dom a z)) fun _ _ _ z => z
section
variable {X : Cx} {I : Addr → Value → Option Addr → Prop} {W : WX} {tg : Tg1} {tt : TT} {te : TE} {tf : CSem} {el : ESem} {vs : List Nat}
theorem sem_lcR1 {tl : TA} {fa : ESem} (hv : ∀ i ∈ tg.ixs, i ∈ vs) (m : SemG (bas X I) W tl (eL [fa]) (PostL (bas X I))) (hc : SemG (bas X I) W0 tt tf (PostC (bas X I))) (he : SemG (bas X I) W0 te el (PostE (bas X I))) :
    SemG (bas X I) W (tLc (iRng1 tl) (gT X.K tg) tt te vs) (eLcR rngOf1 [fa] tg tf el vs) (PostE (bas X I)) := by
  intro F ρ σ H R Q hq
  rw [eLcR, Out.OK_bind] at hq
  refine m F ρ σ H R _ (hq.imp (fun ds ρ1 hq F1 H1 us S1 L1 R1 r1 => ?_) fun _ _ _ z => z)
  cases e : rngOf1 ds with
  | none => rw [e] at hq; exact hq.elim
  | some ij =>
    obtain ⟨i, j⟩ := ij
    simp only [e] at hq
    by_cases z : smallR i j = true
    · rw [if_pos z] at hq
      simp only [smallR, Bool.and_eq_true, decide_eq_true_eq] at z
      cases r1 with
      | nil => cases e
      | cons x1 x2 =>
        cases x2 with
        | nil =>
          cases x1 <;> simp only [rngOf1] at e <;> cases e
          refine ⟨_, rfl, z.2.2.1, z.2.2.2, ?_⟩
          have := comp_rng (i := 0) hv hc he R1 (post_lc S1 L1 (hq.imp (fun _ _ z => z) fun _ _ _ _ => trivial))
          rwa [Int.sub_zero] at this
        | cons y1 y2 => cases x1 <;> cases e
    · rw [if_neg z] at hq; exact hq.elim
theorem sem_lcR2 {tl : TA} {fa fb : ESem} (hv : ∀ i ∈ tg.ixs, i ∈ vs) (m : SemG (bas X I) W tl (eL [fa, fb]) (PostL (bas X I))) (hc : SemG (bas X I) W0 tt tf (PostC (bas X I))) (he : SemG (bas X I) W0 te el (PostE (bas X I))) :
    SemG (bas X I) W (tLc (iRng2 tl) (gT X.K tg) tt te vs) (eLcR rngOf2 [fa, fb] tg tf el vs) (PostE (bas X I)) := by
  intro F ρ σ H R Q hq
  rw [eLcR, Out.OK_bind] at hq
  refine m F ρ σ H R _ (hq.imp (fun ds ρ1 hq F1 H1 us S1 L1 R1 r1 => ?_) fun _ _ _ z => z)
  cases e : rngOf2 ds with
  | none => rw [e] at hq; exact hq.elim
  | some ij =>
    obtain ⟨i, j⟩ := ij
    simp only [e] at hq
    by_cases z : smallR i j = true
    · rw [if_pos z] at hq
      simp only [smallR, Bool.and_eq_true, decide_eq_true_eq] at z
      cases r1 with
      | nil => cases e
      | cons x1 x2 =>
        cases x2 with
        | nil => cases x1 <;> cases e
        | cons y1 y2 =>
          cases y2 with
          | cons _ _ => cases x1 <;> cases y1 <;> cases e
          | nil =>
            cases x1 <;> cases y1 <;> simp only [rngOf2] at e <;> cases e
            exact ⟨_, _, rfl, ⟨z.1, z.2.1, z.2.2.1, z.2.2.2⟩, comp_rng hv hc he R1 (post_lc S1 L1 (hq.imp (fun _ _ z => z) fun _ _ _ _ => trivial))⟩
    · rw [if_neg z] at hq; exact hq.elim

/-! ### the rules -/
/-- a block's context -/
abbrev BlkX (X : Cx) (scope : Scope) (c : Shared × Hp × Addr × List (Str × Addr) × List Addr) : Cx := X.blk c.1 c.2.1 scope (compEnvC scope c.2.2.2.1 c.2.2.1 X.env) c.2.2.2.2
def SPT (X : Cx) (I : Addr → Value → Option Addr → Prop) (W : WX) (es : List Expr) (f : CSem) : Prop := ∃ t, PTs X es t ∧ SemG (bas X I) W t f (PostC (bas X I))
theorem spt_nil {Y : Cx} : SPT Y I W [] cYes := ⟨_, pts_nil, fun F ρ σ H R Q h => h F H (Stp.refl _ _ _ _) (Live.refl _) R⟩
theorem spt_one {Y : Cx} {c : Expr} {f : CSem} (h : SC Y I W c f) : SPT Y I W [c] f := let ⟨t, p, m⟩ := h; ⟨t, pts_one p, m⟩
variable {elt tgt it : Expr} {ifs : List Expr} {scope : Scope} {own : List (Str × Nat)} {pos : Pos} {src : ESem}
theorem ixs_mem {own : List (Str × Nat)} {tg : Tg1} (h : (tg.ixs.all fun i => decide (i ∈ own.map (·.2))) = true) : ∀ i ∈ tg.ixs, i ∈ own.map (·.2) := fun i hi => of_decide_eq_true (List.all_eq_true.mp h i hi)
theorem se_lc (hc : X.calm = true) (hN : X.N.Nodup) (h : SE X I W it src) (ok : BlkOk X.N X.env.scope scope own) (hv : (tg.ixs.all fun i => decide (i ∈ own.map (·.2))) = true)
    (hg : ∀ c, PG (BlkX X scope c) tgt (gT X.K tg)) (ht : ∀ c, SPT (BlkX X scope c) I W0 ifs tf) (he : ∀ c, SE (BlkX X scope c) I W0 elt el) (hs : ∀ x, foldedSetIterable it X.env x = pure x := by intro _; rfl) :
    SE X I W (.ListComp elt [⟨tgt, it, ifs, 0⟩] scope pos) (eLc src tg tf el (own.map (·.2))) := by
  obtain ⟨t, p, m⟩ := h
  obtain ⟨u, q, n⟩ := uni_C (X := BlkX X scope) (B := bas X I) ht
  obtain ⟨w, r, o⟩ := uni_E (X := BlkX X scope) (B := bas X I) he
  exact ⟨_, pe_lc hc hN (pi_any p) ok (fun s H C cl fp => hg (s, H, C, cl, fp)) (fun s H C cl fp => q (s, H, C, cl, fp)) (fun s H C cl fp => r (s, H, C, cl, fp)) hs, sem_lc (ixs_mem hv) m n o⟩
theorem ss_setLc {i : Nat} {y : Str} {py spos : Pos} (hc : X.calm = true) (hN : X.N.Nodup) (hy : X.N[i]? = some y) (hyl : X.env.scope.names.lookup y = some .local)
    (hsw : swapsWith (.ListComp elt [⟨tgt, it, ifs, 0⟩] scope pos) (some (.Name y py)) spos.line X.env = pure true) (h : SE X I W it src) (ok : BlkOk X.N X.env.scope scope own) (hv : (tg.ixs.all fun i => decide (i ∈ own.map (·.2))) = true)
    (hg : ∀ c, PG (BlkX X scope c) tgt (gT X.K tg)) (ht : ∀ c, SPT (BlkX X scope c) I W0 ifs tf) (he : ∀ c, SE (BlkX X scope c) I W0 elt el) (hs : ∀ x, foldedSetIterable it X.env x = pure x := by intro _; rfl) :
    SS X I W (.Assign [.Name y py] (.ListComp elt [⟨tgt, it, ifs, 0⟩] scope pos) spos) (sA i (eLc src tg tf el (own.map (·.2)))) := by
  obtain ⟨t, p, m⟩ := h
  obtain ⟨u, q, n⟩ := uni_C (X := BlkX X scope) (B := bas X I) ht
  obtain ⟨w, r, o⟩ := uni_E (X := BlkX X scope) (B := bas X I) he
  exact ⟨_, ps_setLc hc hN hy hyl hsw (pi_any p) ok (fun s H C cl fp => hg (s, H, C, cl, fp)) (fun s H C cl fp => q (s, H, C, cl, fp)) (fun s H C cl fp => r (s, H, C, cl, fp)) hs, sem_asg (sem_lc (ixs_mem hv) m n o)⟩
/-- over range(b) -/
theorem se_lc1 {a : Expr} {fa : ESem} {p0 p1 : Pos} (hc : X.calm = true) (hN : X.N.Nodup) (hgl : Gl X "range") (hm : X.mg "range" = none) (h : SL X I W [a] (eL [fa])) (ok : BlkOk X.N X.env.scope scope own) (hv : (tg.ixs.all fun i => decide (i ∈ own.map (·.2))) = true)
    (hg : ∀ c, PG (BlkX X scope c) tgt (gT X.K tg)) (ht : ∀ c, SPT (BlkX X scope c) I W0 ifs tf) (he : ∀ c, SE (BlkX X scope c) I W0 elt el) (hs1 : starEach [a] X.env = [(false, eval a X.env)] := by rfl) (hs : ∀ x, foldedSetIterable (.Call (.Name "range" p0) [a] [] p1) X.env x = pure x := by intro _; rfl) :
    SE X I W (.ListComp elt [⟨tgt, .Call (.Name "range" p0) [a] [] p1, ifs, 0⟩] scope pos) (eLcR rngOf1 [fa] tg tf el (own.map (·.2))) := by
  obtain ⟨t, p, m⟩ := h
  obtain ⟨u, q, n⟩ := uni_C (X := BlkX X scope) (B := bas X I) ht
  obtain ⟨w, r, o⟩ := uni_E (X := BlkX X scope) (B := bas X I) he
  exact ⟨_, pe_lc hc hN (pi_range1 hgl hm p hs1) ok (fun s H C cl fp => hg (s, H, C, cl, fp)) (fun s H C cl fp => q (s, H, C, cl, fp)) (fun s H C cl fp => r (s, H, C, cl, fp)) hs, sem_lcR1 (ixs_mem hv) m n o⟩
theorem ss_setLc1 {a : Expr} {fa : ESem} {p0 p1 : Pos} {i : Nat} {y : Str} {py spos : Pos} (hc : X.calm = true) (hN : X.N.Nodup) (hy : X.N[i]? = some y) (hyl : X.env.scope.names.lookup y = some .local)
    (hsw : swapsWith (.ListComp elt [⟨tgt, .Call (.Name "range" p0) [a] [] p1, ifs, 0⟩] scope pos) (some (.Name y py)) spos.line X.env = pure true) (hgl : Gl X "range") (hm : X.mg "range" = none) (h : SL X I W [a] (eL [fa])) (ok : BlkOk X.N X.env.scope scope own) (hv : (tg.ixs.all fun i => decide (i ∈ own.map (·.2))) = true)
    (hg : ∀ c, PG (BlkX X scope c) tgt (gT X.K tg)) (ht : ∀ c, SPT (BlkX X scope c) I W0 ifs tf) (he : ∀ c, SE (BlkX X scope c) I W0 elt el) (hs1 : starEach [a] X.env = [(false, eval a X.env)] := by rfl) (hs : ∀ x, foldedSetIterable (.Call (.Name "range" p0) [a] [] p1) X.env x = pure x := by intro _; rfl) :
    SS X I W (.Assign [.Name y py] (.ListComp elt [⟨tgt, .Call (.Name "range" p0) [a] [] p1, ifs, 0⟩] scope pos) spos) (sA i (eLcR rngOf1 [fa] tg tf el (own.map (·.2)))) := by
  obtain ⟨t, p, m⟩ := h
  obtain ⟨u, q, n⟩ := uni_C (X := BlkX X scope) (B := bas X I) ht
  obtain ⟨w, r, o⟩ := uni_E (X := BlkX X scope) (B := bas X I) he
  exact ⟨_, ps_setLc hc hN hy hyl hsw (pi_range1 hgl hm p hs1) ok (fun s H C cl fp => hg (s, H, C, cl, fp)) (fun s H C cl fp => q (s, H, C, cl, fp)) (fun s H C cl fp => r (s, H, C, cl, fp)) hs, sem_asg (sem_lcR1 (ixs_mem hv) m n o)⟩
/-- over range(a, b) -/
theorem se_lc2 {a b : Expr} {fa fb : ESem} {p0 p1 : Pos} (hc : X.calm = true) (hN : X.N.Nodup) (hgl : Gl X "range") (hm : X.mg "range" = none) (h : SL X I W [a, b] (eL [fa, fb])) (ok : BlkOk X.N X.env.scope scope own) (hv : (tg.ixs.all fun i => decide (i ∈ own.map (·.2))) = true)
    (hg : ∀ c, PG (BlkX X scope c) tgt (gT X.K tg)) (ht : ∀ c, SPT (BlkX X scope c) I W0 ifs tf) (he : ∀ c, SE (BlkX X scope c) I W0 elt el) (hs1 : starEach [a, b] X.env = [(false, eval a X.env), (false, eval b X.env)] := by rfl) (hs2 : starEach [b] X.env = [(false, eval b X.env)] := by rfl) (hs : ∀ x, foldedSetIterable (.Call (.Name "range" p0) [a, b] [] p1) X.env x = pure x := by intro _; rfl) :
    SE X I W (.ListComp elt [⟨tgt, .Call (.Name "range" p0) [a, b] [] p1, ifs, 0⟩] scope pos) (eLcR rngOf2 [fa, fb] tg tf el (own.map (·.2))) := by
  obtain ⟨t, p, m⟩ := h
  obtain ⟨u, q, n⟩ := uni_C (X := BlkX X scope) (B := bas X I) ht
  obtain ⟨w, r, o⟩ := uni_E (X := BlkX X scope) (B := bas X I) he
  exact ⟨_, pe_lc hc hN (pi_range2 hgl hm p hs1 hs2) ok (fun s H C cl fp => hg (s, H, C, cl, fp)) (fun s H C cl fp => q (s, H, C, cl, fp)) (fun s H C cl fp => r (s, H, C, cl, fp)) hs, sem_lcR2 (ixs_mem hv) m n o⟩
theorem ss_setLc2 {a b : Expr} {fa fb : ESem} {p0 p1 : Pos} {i : Nat} {y : Str} {py spos : Pos} (hc : X.calm = true) (hN : X.N.Nodup) (hy : X.N[i]? = some y) (hyl : X.env.scope.names.lookup y = some .local)
    (hsw : swapsWith (.ListComp elt [⟨tgt, .Call (.Name "range" p0) [a, b] [] p1, ifs, 0⟩] scope pos) (some (.Name y py)) spos.line X.env = pure true) (hgl : Gl X "range") (hm : X.mg "range" = none) (h : SL X I W [a, b] (eL [fa, fb])) (ok : BlkOk X.N X.env.scope scope own) (hv : (tg.ixs.all fun i => decide (i ∈ own.map (·.2))) = true)
    (hg : ∀ c, PG (BlkX X scope c) tgt (gT X.K tg)) (ht : ∀ c, SPT (BlkX X scope c) I W0 ifs tf) (he : ∀ c, SE (BlkX X scope c) I W0 elt el) (hs1 : starEach [a, b] X.env = [(false, eval a X.env), (false, eval b X.env)] := by rfl) (hs2 : starEach [b] X.env = [(false, eval b X.env)] := by rfl) (hs : ∀ x, foldedSetIterable (.Call (.Name "range" p0) [a, b] [] p1) X.env x = pure x := by intro _; rfl) :
    SS X I W (.Assign [.Name y py] (.ListComp elt [⟨tgt, .Call (.Name "range" p0) [a, b] [] p1, ifs, 0⟩] scope pos) spos) (sA i (eLcR rngOf2 [fa, fb] tg tf el (own.map (·.2)))) := by
  obtain ⟨t, p, m⟩ := h
  obtain ⟨u, q, n⟩ := uni_C (X := BlkX X scope) (B := bas X I) ht
  obtain ⟨w, r, o⟩ := uni_E (X := BlkX X scope) (B := bas X I) he
  exact ⟨_, ps_setLc hc hN hy hyl hsw (pi_range2 hgl hm p hs1 hs2) ok (fun s H C cl fp => hg (s, H, C, cl, fp)) (fun s H C cl fp => q (s, H, C, cl, fp)) (fun s H C cl fp => r (s, H, C, cl, fp)) hs, sem_asg (sem_lcR2 (ixs_mem hv) m n o)⟩
end
end DL
end
section
/-! E0: super().__init__(..) of an own error over ValueError. -/
namespace DL
open PySem PySem.Spec L2

/-- as cxOf, for a def that closes over its class -/
def cxS (CX : CXT) (P : Program) (w : World) (K : PySem.W.Frag) (mg : Str → Option Value) (base : Heap) (N : List Str) (qual : Str) (scope : Scope) (f : Addr) (cd : Value) (cc : Addr) (A : Around) (outer : List PySem.Env) (s : Shared) (H : Hp) (E : XK) : Cx where
  prog := P
  w := w
  K := K
  mg := mg
  base := base
  A := A.deeper (PySem.W.ksEnv qual scope s.heap.objs.size f cd cc)
  N := N
  s_0 := s
  H_0 := H
  env := PySem.W.ksEnv qual scope s.heap.objs.size f cd cc
  outer := outer
  stack := PySem.W.ksEnv qual scope s.heap.objs.size f cd cc :: outer
  ex := []
  calm := true
  fn := fun _ => false
  pn := []
  xe := fun e s' => wpAny (model P w) (A.deeper (PySem.W.ksEnv qual scope s.heap.objs.size f cd cc)) (leaving (PySem.W.ksEnv qual scope s.heap.objs.size f cd cc) e) (fun _ s'' => CX outer H s E e s'') (fun e' s'' => CX outer H s E e' s'') s'

structure SupScope (N ps : List Str) (sc : Scope) : Prop where
  kind : sc.kind = .function
  co : sc.isCoroutine = false
  gen : sc.isGenerator = false
  nd : N.Nodup
  pre : N.take ps.length = ps
  par : ∀ x ∈ ps, sc.names.lookup x = some .local
  ncell : ∀ y ∈ sc.names, y.2 ≠ .cell
  fr : ∀ p ∈ sc.names, p.2 = .free → p.1 = "__class__"

theorem lookup_mem {α : Type} {x : Str} {v : α} : ∀ {l : List (Str × α)}, (l.map (·.1)).Nodup → (x, v) ∈ l → l.lookup x = some v
  | [], _, h => by cases h
  | (y, u) :: r, nd, h => by
    rw [List.map_cons, List.nodup_cons] at nd
    rcases List.mem_cons.mp h with e | h2
    · cases e; simp [List.lookup]
    · have ne : (x == y) = false := by
        apply beq_eq_false_iff_ne.mpr
        intro e; subst e
        exact nd.1 (List.mem_map_of_mem (f := (·.1)) h2)
      simp only [List.lookup, ne]
      exact lookup_mem nd.2 h2
theorem zip_fst {α β : Type} : ∀ (a : List α) (b : List β), a.length = b.length → (a.zip b).map (·.1) = a
  | [], _, _ => rfl
  | x :: a, [], e => by cases e
  | x :: a, y :: b, e => by simp only [List.zip_cons_cons, List.map_cons]; rw [zip_fst a b (Nat.succ.inj e)]
theorem zip_mem {α β : Type} {x : α} {y : β} : ∀ {a : List α} {b : List β} {i : Nat}, a[i]? = some x → b[i]? = some y → (x, y) ∈ a.zip b
  | [], _, i, h, _ => by simp at h
  | _ :: _, [], i, _, h => by simp at h
  | _ :: a, _ :: b, 0, h, k => by simp at h k; subst h k; exact List.mem_cons_self ..
  | _ :: a, _ :: b, i + 1, h, k => List.mem_cons_of_mem _ (zip_mem (i := i) (by simpa using h) (by simpa using k))

theorem inv_startS {CX : CXT} {P : Program} {w : World} {K : PySem.W.Frag} {mg : Str → Option Value} {base : Heap} {N ps : List Str} {qual : Str} {scope : Scope} {f cc : Addr} {cd : Value} {A : Around} {outer : List PySem.Env} {s : Shared} {h1 : Heap} {tk : Nat} {H : Hp} {E : XK} {us : List Value} {vs : List V}
    {cl : Value} {cld : Option Addr} {cv : Option Value} {csl : Array (Option Value)} (S : SupScope N ps scope) (hcc : K.lookup cc = some ⟨cl, cld, .cell cv, csl⟩) (hd : A.handled = none) (e0 : Env0 P w K mg base A outer s H) (hl : vs.length = ps.length) (r : Vals vs us)
    (hn : h1.Ns s.heap.objs.size (fun x => (ps.zip us).reverse.lookup x)) (hk : ∀ b o, s.heap.get? b = some o → h1.get? b = some o) :
    Inv (cxS CX P w K mg base N qual scope f cd cc A outer s H E) [] (start N vs) H { s with heap := h1, toks := tk } := by
  have hpl : ps.length ≤ N.length := by have := congrArg List.length S.pre; rw [List.length_take] at this; omega
  have noA : ∀ b : Addr, b ∉ (cxS CX P w K mg base N qual scope f cd cc A outer s H E).ex := fun b z => absurd (show b ∈ ([] : List Addr) from z) (by simp)
  have clk : ∀ (y : Str) (c : Addr), (cxS CX P w K mg base N qual scope f cd cc A outer s H E).env.cells.lookup y = some c → y = "__class__" ∧ c = cc := fun y c h => by
    have h : List.lookup y [(("__class__" : Str), cc)] = some c := h
    simp only [List.lookup] at h
    by_cases q : y = "__class__"
    · subst q
      simp at h
      exact ⟨rfl, h.symm⟩
    · rw [beq_eq_false_iff_ne.mpr q] at h; cases h
  have hbase := e0.mod.kin _ _ hcc
  obtain ⟨hs, hH⟩ := e0.bs _ _ hbase
  have ul : us.length = ps.length := r.length.symm.trans hl
  refine ⟨⟨e0.mod, S.kind, rfl, rfl, Nat.le_refl _, fun y z c h1 h2 => (clk y c h1).1.trans (clk z c h2).1.symm, fun y hy => ?_, fun y c h _ => absurd h Bool.false_ne_true, fun _ => hd, Around.frames_deeper e0.frames, .inr ⟨rfl, rfl⟩, fun b z => absurd z (noA b), e0.bs, e0.bsz, fun b _ _ => noA b, fun b z => absurd z (noA b), e0.funs, e0.frf⟩,
    rfl, e0.bare, Un.kept hk, ⟨_, hn, fun i y v h1 h2 h3 => ?_⟩, fun y c h => ?_, e0.hok.fresh (Nat.le_refl _), fun y c h => ?_, fun p hp => absurd (show p ∈ ([] : List (Addr × Obj)) from hp) (by simp), e0.hok.kept hk, ?_⟩
  · have hy : scope.names.lookup y = some .cell ∨ scope.names.lookup y = some .free := hy
    rcases hy with hy | hy
    · exact absurd rfl (S.ncell _ (PySem.mem_of_lookup hy))
    · have z : y = "__class__" := S.fr (y, .free) (PySem.mem_of_lookup hy) rfl
      rw [z]; exact ⟨cc, rfl⟩
  · have hi : i < vs.length := by
      unfold L2.start at h2
      by_cases hi : i < vs.length
      · exact hi
      · rw [List.getElem?_append_right (by simpa using hi)] at h2
        rw [List.getElem?_replicate] at h2
        split at h2 <;> cases h2
    have ha : vs[i]? = some v := by
      unfold L2.start at h2
      rw [List.getElem?_append_left (by simpa using hi), List.getElem?_map] at h2
      cases e : vs[i]? with
      | none => rw [e] at h2; cases h2
      | some a => rw [e] at h2; cases h2; rfl
    obtain ⟨u, hu, rv⟩ := r.get ha
    have hp : ps[i]? = some y := by
      rw [← S.pre, List.getElem?_take_of_lt (by omega)]; exact h1
    have ndP : ps.Nodup := by rw [← S.pre]; exact S.nd.sublist (List.take_sublist _ _)
    refine ⟨u, rv, .inl ⟨S.par y (List.mem_of_getElem? hp), ?_⟩⟩
    refine lookup_mem ?_ (List.mem_reverse.mpr (zip_mem hp hu))
    rw [List.map_reverse, zip_fst _ _ ul.symm]
    exact (List.reverse_perm ps).nodup_iff.mpr ndP
  · rw [(clk y c h).2]; exact ⟨cv, _, hk _ _ hs, rfl⟩
  · rw [(clk y c h).2]; exact hH
  · unfold L2.start
    show _ = N.length
    rw [List.length_append, List.length_map, List.length_replicate]
    omega
end DL
end
section
/-! E1: super().__init__(..) of an own error over ValueError: the rule. -/
namespace DL
open PySem PySem.Spec L2 PySem.W

/-- the bound ValueError.__init__, called -/
theorem sup_call {X : Cx} {pins : List (Addr × Obj)} {σ : St} {H : Hp} {s : Shared} {a C u : Addr} {us : List Value} {Q : Value → Shared → Prop} {E : Value → Shared → Prop} {A : Around} (T : OexC X.K C) (I : Inv X pins σ H s) (e : H a = some (exo a C none)) (hu : s.heap.get? u = some (kxs_mw "ValueError.__init__" a))
    (hl : us.length ≤ sizeLine) (h : ∀ s', Inv X pins σ H s' → Q .none s') : wpAny (model X.prog X.w) A (call (.ref u) us) Q E s := by
  obtain ⟨nm, q, N, bs, bm, sn, sub, ab, col, dd, k0, k1, k2, k3, k5, hC, hbm⟩ := T.cls
  obtain ⟨t1, ho⟩ := exo_at I.hok e
  have hC' := I.kIn _ _ hC
  obtain ⟨hp, g, d, t, os⟩ := s
  have FB := F.excBase_ValueError
  have fin : ∀ h', (∀ b o, b ≠ a → hp.get? b = some o → h'.get? b = some o) → h'.get? a = some (excObj C hp.objs.size none .none) → h'.get? hp.objs.size = some (excTup us) → Q .none ⟨h', g, d, t, os⟩ := fun h' k hx _ => by
    have J := I.write (t' := t) (x := a) (e := a) (o := exo a C none) (by rw [e]; exact True.intro) (.inl rfl) k ⟨_, hx⟩ (exo_ok hx)
    have eu : upd H a (exo a C none) = H := by
      funext b
      by_cases hb : b = a
      · rw [hb, upd_same, e]
      · rw [upd_ne hb]
    rw [eu] at J
    exact h _ J
  refine wpAny_call (codeAny_of_tree ?_)
  show wpAny _ A.in1 (callAny (.ref u) ⟨us, []⟩) _ _ _
  simp only [callAny]
  refine wpAny_bind (wpAny_load hu ?_)
  simp only [kxs_mw, show (Value.type "method-wrapper" == Value.type "method" || Value.type "method-wrapper" == Value.type "builtin_function_or_method" || Value.type "method-wrapper" == Value.type "method-wrapper") = true by decide, if_true]
  refine KFB.if_so (by decide) ?_
  refine wpAny_bind (check_bound_init FB.toExcCallFacts hC' ho rfl ?_)
  refine wpAny_bind (wpAny_pure (wpAny_pure ?_))
  refine ⟨plainId_quiet FB.init.plain _, codeAny_builtin FB.initEntry ?_⟩
  exact exc_init_tree (cls := .ref C) (t0 := t1) (dv := none) (c2 := .none) (c3 := .none) (b4 := .bool false) ho hl fin

/-- what the written part says of an own error's class, for super() in the class at D -/
structure SupC (K : Frag) (D C : Addr) : Prop where
  oex : OexC K C
  sub : mroIn K C (.ref D) = some true
  sup : ks_superIn K C D "__init__" = some (some (.builtin "ValueError.__init__"))
  ve : subIn K (.ref C) (.type "ValueError") = some true
  look : ∃ cd, clsIn K C = some cd
  lookD : ∃ cd, clsIn K D = some cd

theorem super_init {X : Cx} {pins : List (Addr × Obj)} {σ : St} {H : Hp} {s : Shared} {a C D f cc cda : Addr} {q : Str} {scope : Scope} {fd : FuncData} {ar : Arg} {cvs : Array Value} {file : Str} {tf : Tok} {oc ccl cl : Value} {od cdd cld : Option Addr} {osl ccs csl : Array (Option Value)}
    {body : List Stmt} {p0 p1 apos pos : Pos} {e : Expr} {es : List Expr} {ta : TA} {Q : Hp → Prop} {pl : PySem.Env → Sem Bool}
    (hX : X.env = ksEnv q scope X.env.locals f (.ref cda) cc) (I : Inv X pins σ H s)
    (hf : X.K.lookup f = some ⟨oc, od, .func fd, osl⟩) (hp : (fd.params.posonlyargs ++ fd.params.args).head? = some ar) (hN : X.N[0]? = some ar.arg) (hσ : σ[0]? = some (some (.ref a)))
    (hcode : X.K.lookup cda = some ⟨ccl, cdd, .fields cvs, ccs⟩) (hvs : cvs[2]? = some (.str file tf)) (hfile : ((X.prog.main.file : Str) == file) = true)
    (hcell : X.K.lookup cc = some ⟨cl, cld, .cell (some (.ref D)), csl⟩) (hsuper : X.mg "super" = none)
    (hks : scope.names.lookup ("super" : Str) = some .globalImplicit) (hkc : scope.names.lookup ("__class__" : Str) = some .free) (hka : scope.names.lookup ar.arg = some .local)
    (htop : (X.prog.main.scope.names.lookup ("super" : Str)).isSome = false) (hop : nsIn X.K cStatics "thirdparty.any" = some none) (T : SupC X.K D C) (ea : H a = some (exo a C none))
    (ha : PA X (e :: es) ta) (hq : ta σ H fun zs H1 => zs.length ≤ 1000 ∧ H1 a = some (exo a C none) ∧ Q H1)
    (he : ∀ env, eval (.Call (.Attribute (.Call (.Name "super" p0) [] [] p1) "__init__" apos) (e :: es) [] pos) env = (do
      let ov ← attributeBase (.Call (.Name "super" p0) [] [] p1) "__init__" env (eval (.Call (.Name "super" p0) [] [] p1) env)
      standAt apos.atName
      let (f, first) ← holding [ov] (getMethod ov "__init__" (pl env))
      callWith pos f first (backTo pos (starEach (e :: es) env)) []))
    (hse : starEach (e :: es) X.env = (false, eval e X.env) :: starEach es X.env) (hpl : (backTo pos (starEach es X.env)).any (·.1) = false) :
    _root_.PySem.wpAt (model X.prog X.w) X.A (.func body X.env) (eval (.Call (.Attribute (.Call (.Name "super" p0) [] [] p1) "__init__" apos) (e :: es) [] pos) X.env) (fun v s' => v = .none ∧ ∃ H', Inv X pins σ H' s' ∧ Q H') X.xe s := by
  obtain ⟨cdC, hclC⟩ := T.look
  obtain ⟨cdD, hclD⟩ := T.lookD
  obtain ⟨t1, hoa⟩ := exo_at I.hok ea
  have hkind : X.env.scope.kind = .function := I.ok.kind
  have hsc : X.env.scope = scope := by rw [hX]
  have hks' : X.env.kindOf "super" = some .globalImplicit := by unfold Env.kindOf; rw [hsc]; exact hks
  have hkc' : X.env.kindOf "__class__" = some .free := by unfold Env.kindOf; rw [hsc]; exact hkc
  have hka' : X.env.kindOf ar.arg = some .local := by unfold Env.kindOf; rw [hsc]; exact hka
  obtain ⟨mm, hns, hloc⟩ := I.loc
  obtain ⟨u0, ru0, hlook⟩ := hloc 0 ar.arg (.ref a) hN hσ (.inl (by rw [hsc]; exact hka))
  cases (show u0 = Value.ref a from ru0)
  have hmm : mm ar.arg = some (.ref a) := by
    rcases hlook with ⟨_, h⟩ | ⟨h, _⟩
    · exact h
    · rw [hka'] at h; rcases h with h | h <;> cases h
  have KX := I.kIn
  obtain ⟨oD, hD1, hD2⟩ : ∃ oD, s.heap.get? D = some oD ∧ oD.data = .cls cdD := by
    unfold clsIn at hclD
    split at hclD
    · rename_i c d cd' sl ho
      cases hclD
      exact ⟨_, KX _ _ ho, rfl⟩
    · cases hclD
  have hfunc : X.env.func = some f := by rw [hX]
  have hcod : X.env.code = .ref cda := by rw [hX]
  have hcel : X.env.cells.lookup ("__class__" : Str) = some cc := by rw [hX]; rfl
  have Ia : InstAt s.heap a { cls := .ref C, dict := none, data := .fields #[.ref t1, .none, .none, .none, .bool false, .none] } C none := ⟨hoa, rfl, rfl, trivial⟩
  refine ks_wpAt_MethodCall (pl := pl X.env) ?_ (he X.env)
  refine ks_wpAt_super_base (env := X.env) hks' hkc' rfl hfunc (KX _ _ hf) rfl hp hcod (KX _ _ hcode) rfl hvs hfile htop ?_
  refine ks_loadName_global hkind hks' ?_
  obtain ⟨mb, hmb1, hmb2⟩ := I.mod.blt
  refine PySem.Calls.loadGlobal_builtin (env := X.env) (by rw [I.ok.glob]; exact I.mod.glob.keeps I.bk) hsuper (by rw [I.ok.blt]; exact hmb1.keeps I.bk) ((hmb2 _ (by decide +kernel)).trans PyProof.Rows.Boot.«super») ⟨rfl, ?_⟩
  refine wpAny_loadName_free hkind hkc' hcel ⟨_, KX _ _ hcell, rfl⟩ ?_
  refine wpAny_loadName_local hkind hka' hns hmm ?_
  refine ks_wpAny_isType_cls hD1 hD2 ⟨rfl, ?_⟩
  obtain ⟨hh, g, d, t, os⟩ := s
  refine ks_wpAny_call_super hD1 hD2 hoa rfl (fun c z => nomatch z) (looks_mroIn KX T.sub) (fun h' eso k => ?_)
  have I2 : Inv X pins σ H ⟨h', g, d, t, os⟩ := I.kept (t' := t) k
  have KX2 := I2.kIn
  have hI : Looks (model X.prog X.w) h' (isInstance (.ref a) (.type "ValueError")) true := (InstAt.type (ox := { cls := .ref C, dict := none, data := .fields #[.ref t1, .none, .none, .none, .bool false, .none] }) (od := none) ⟨k _ _ hoa, rfl, rfl, trivial⟩).andThen (looks_subIn KX2 T.ve)
  have hsp := T.sup
  unfold ks_superIn at hsp
  rw [hclC, Option.bind_some] at hsp
  refine kxs_getMethod kxs_ValueError eso (looks_opaque KX2 hop) (l₀ := cdC.mro) (fun A Q E s k q => wpAny_bind ((looks_clsIn KX2 hclC) A _ E s k (wpAny_pure q))) rfl KX2 hsp hI (ks_ne KX Ia hclC) rfl ?_
  have hu : (h'.push (kxs_mw "ValueError.__init__" a)).get? h'.objs.size = some (kxs_mw "ValueError.__init__" a) := Heap.get?_push_at rfl rfl
  have I3 : Inv X pins σ H ⟨h'.push (kxs_mw "ValueError.__init__" a), g, d, t + 1, os⟩ := I2.kept (t' := t + 1) fun b o e => Heap.get?_push_of_some _ e
  have hun : H h'.objs.size = none := I2.hok.fresh (Nat.le_refl _)
  have huL : h'.objs.size ≠ X.env.locals := Nat.ne_of_gt I2.lt
  have hufs : h'.objs.size ∉ X.fs := I2.nofs (Nat.le_refl _)
  have I4 : Inv X ((h'.objs.size, kxs_mw "ValueError.__init__" a) :: pins) σ H ⟨h'.push (kxs_mw "ValueError.__init__" a), g, d, t + 1, os⟩ := I3.pins_of fun p hp => by
    rcases List.mem_cons.mp hp with rfl | hp
    · exact ⟨hu, hun, huL, hufs, fun v z => nomatch z⟩
    · exact I3.pin p (List.mem_append_right _ hp)
  show wpAny _ _ (callWith pos (.ref h'.objs.size) [] (backTo pos (starEach (e :: es) X.env)) []) _ _ _
  rw [hse]
  refine kxs_callWith (i := "ValueError.__init__") (x := a) (by show (false || (backTo pos (starEach es X.env)).any (·.1)) = false; rw [hpl]; rfl) ?_
  have hrun := ha.run pos _ _ σ H _ I4 hq
  rw [hse] at hrun
  refine PySem.Calls.evalArgs_plain (thn hrun fun us s5 ⟨zs, H5, I5, r5, hz, ea5, q5⟩ => ⟨(I5.pin (h'.objs.size, _) (List.mem_append_right _ (List.mem_cons_self ..))).1, ?_⟩)
  refine sup_call T.oex I5 ea5 (I5.pin (h'.objs.size, _) (List.mem_append_right _ (List.mem_cons_self ..))).1 (by show us.length ≤ _; rw [← Paired.length r5, sizeLine_eq]; omega) fun s6 I6 => ⟨rfl, H5, ?_, q5⟩
  exact I6.pins_of fun p hp => I6.pin p (List.mem_append_right _ (List.mem_cons_of_mem _ hp))
end DL
end
section
/-! E2: a def whose first words are super().__init__(..). -/
namespace DL
open PySem PySem.Spec L2 PySem.W

structure SupFn (K : Frag) (P : Program) (x qual : Str) (st : Stmt) (D f : Addr) (fd : FuncData) : Prop where
  ex : ∃ (oc : Value) (od : Option Addr) (kV doc pm : Value) (an : Option Addr) (cda : Addr) (ct : Value) (osl : Array (Option Value)) (cc : Addr) (ccl : Value) (cdd : Option Addr) (cvs : Array Value) (ccs : Array (Option Value)) (file : Str) (tf : Tok) (cl : Value) (cld : Option Addr) (csl : Array (Option Value)),
    fd = ksFn x qual (defArgs st) (defBody st) (defScope st) .none kV doc pm an (.ref cda) ct cc ∧ K.lookup f = some ⟨oc, od, .func fd, osl⟩ ∧ codeIn K (.ref cda) qual = true ∧ K.lookup cda = some ⟨ccl, cdd, .fields cvs, ccs⟩ ∧ cvs[2]? = some (.str file tf) ∧ ((P.main.file : Str) == file) = true ∧
    K.lookup cc = some ⟨cl, cld, .cell (some (.ref D)), csl⟩
  kp : keepIn K (.ref f) = true

theorem fn_super {CX : CXT} {P : Program} {w : World} {K : Frag} {mg : Str → Option Value} {base : Heap} {k : Nat} {x qual : Str} {st : Stmt} {D f : Addr} {fd : FuncData} {N ps : List Str} {sp : Sp} {ar : Arg} {e : Expr} {es : List Expr} {rest : List Stmt} {p0 p1 apos pos pos' : Pos} {pl : PySem.Env → Sem Bool}
    (F : SupFn K P x qual st D f fd) (S : SupScope N ps (defScope st)) (len : ∀ vs H Q E, sp vs H Q E → vs.length = ps.length)
    (hb : defBody st = .Expr (.Call (.Attribute (.Call (.Name "super" p0) [] [] p1) "__init__" apos) (e :: es) [] pos) pos' :: rest)
    (hp : ((defArgs st).posonlyargs ++ (defArgs st).args).head? = some ar) (hN : N[0]? = some ar.arg) (hsuper : mg "super" = none)
    (hks : (defScope st).names.lookup ("super" : Str) = some .globalImplicit) (hkc : (defScope st).names.lookup ("__class__" : Str) = some .free) (hka : (defScope st).names.lookup ar.arg = some .local)
    (htop : (P.main.scope.names.lookup ("super" : Str)).isSome = false) (hop : nsIn K cStatics "thirdparty.any" = some none)
    (hsw : ∀ env, swapsWith (.Call (.Attribute (.Call (.Name "super" p0) [] [] p1) "__init__" apos) (e :: es) [] pos) none pos'.line env = pure false)
    (he : ∀ env, eval (.Call (.Attribute (.Call (.Name "super" p0) [] [] p1) "__init__" apos) (e :: es) [] pos) env = (do
      let ov ← attributeBase (.Call (.Name "super" p0) [] [] p1) "__init__" env (eval (.Call (.Name "super" p0) [] [] p1) env)
      standAt apos.atName
      let (f, first) ← holding [ov] (getMethod ov "__init__" (pl env))
      callWith pos f first (backTo pos (starEach (e :: es) env)) []))
    (hse : ∀ env, starEach (e :: es) env = (false, eval e env) :: starEach es env) (hpl : ∀ env, (backTo pos (starEach es env)).any (·.1) = false)
    (hbody : ∀ (cdv : Value) (cc : Addr) (A : Around) (outer : List PySem.Env) (s : Shared) (H : Hp) (vs : List V) (Q : VK) (E : XK), Room k (A.deeper (ksEnv qual (defScope st) s.heap.objs.size f cdv cc)) → sp vs H Q E →
      ∃ (a C : Addr) (ta : TA) (t : TS), vs[0]? = some (.ref a) ∧ SupC K D C ∧ H a = some (exo a C none) ∧ PA (cxS CX P w K mg base N qual (defScope st) f cdv cc A outer s H E) (e :: es) ta ∧ PSs (cxS CX P w K mg base N qual (defScope st) f cdv cc A outer s H E) rest t ∧
        ta (L2.start N vs) H fun zs H1 => zs.length ≤ 1000 ∧ H1 a = some (exo a C none) ∧ t { nx := fun _ H' => Q .non H', rt := Q } (L2.start N vs) H1) :
    FnOk P w K mg base CX (k + 1) f fd ps sp := by
  refine ⟨len, fun A outer s H args us vs Q E hr e0 hbd r hsp => ?_⟩
  obtain ⟨oc, od, kV, doc, pm, an, cda, ct, osl, cc, ccl, cdd, cvs, ccs, file, tf, cl, cld, csl, rfl, lk, hcd, hcode, hvs, hfile, hcell⟩ := F.ex
  have hl := len _ _ _ _ hsp
  have KX : K.In s.heap := e0.mod.kin.keeps fun b o e => (e0.bs b o e).1
  have lim : s.heap.NoLimit := e0.mod.nolimit.keeps fun b o e => (e0.bs b o e).1
  refine ks_codeAny_call_defAt (fd := ksFn x qual (defArgs st) (defBody st) (defScope st) .none kV doc pm an (.ref cda) ct cc) (body := defBody st) (binds := ps.zip us) hr.depth (KX _ _ lk) rfl lim (codeRec_of KX hcd) rfl hbd S.ncell (fun y hy => S.par _ (List.of_mem_zip (show (y.1, y.2) ∈ ps.zip us from hy)).1) (fun h1 hns hk => ?_) S.co S.gen S.kind
  show _root_.PySem.wpAt (model P w) (A.deeper (ksEnv qual (defScope st) s.heap.objs.size f (.ref cda) cc)) (.func (defBody st) (ksEnv qual (defScope st) s.heap.objs.size f (.ref cda) cc)) (execs (defBody st) (ksEnv qual (defScope st) s.heap.objs.size f (.ref cda) cc)) _ _ _
  obtain ⟨a, C, ta, t, hv0, T, ea, hPA, hPS, hq⟩ := hbody (.ref cda) cc A outer s H vs Q E (hr.deeper _) hsp
  have I : Inv (cxS CX P w K mg base N qual (defScope st) f (.ref cda) cc A outer s H E) [] (L2.start N vs) H { s with heap := h1, toks := s.toks + (ps.zip us).length } := inv_startS S hcell hr.hd e0 hl r hns hk
  have hσ : (L2.start N vs)[0]? = some (some (.ref a)) := by
    unfold L2.start
    cases vs with
    | nil => cases hv0
    | cons v vs => simp only [List.getElem?_cons_zero, Option.some.injEq] at hv0; subst hv0; rfl
  have fin : ∀ {s' : Shared} {σ' : St} {H' : Hp} {v : V} {u : Value}, Inv (cxS CX P w K mg base N qual (defScope st) f (.ref cda) cc A outer s H E) [] σ' H' s' → RelV v u → Q v H' → CE outer P w H s Q u s' :=
    fun {s' σ' H' v u} J rv q => ⟨v, H', J.os, J.bare, J.base, J.hok, rv, q⟩
  rw [hb]
  refine ks_wpAt_execs_cons (ks_wpAt_Expr_any (ks_wpAt_mono (super_init (X := cxS CX P w K mg base N qual (defScope st) f (.ref cda) cc A outer s H E) (Q := fun H1 => t { nx := fun _ H' => Q .non H', rt := Q } (L2.start N vs) H1) rfl I lk hp hN hσ hcode hvs hfile hcell hsuper hks hkc hka htop hop T ea hPA hq he (hse _) (hpl _)) (fun v s2 hs2 => ?_) fun e s' hs => ?_) (by show (interactive (ksEnv qual (defScope st) s.heap.objs.size f (.ref cda) cc)) = false; simp [interactive, S.kind]) (hsw _))
  · obtain ⟨ev, H2, I2, q2⟩ := hs2
    show _root_.PySem.wpAt _ _ _ (execs rest _) _ _ _
    refine wpAt_of_wpAny (wpAny_mono (hPS.run [] s2 _ H2 _ I2 q2) (fun fl s' hs => ?_) fun e s' hs => hs)
    cases fl with
    | ret u =>
      obtain ⟨v, σ', H', J, rv, q⟩ := hs
      exact fin J rv q
    | next =>
      obtain ⟨σ', H', J, q⟩ := hs
      exact fin (v := V.non) (u := Value.none) J rfl q
    | brk =>
      obtain ⟨_, _, _, q⟩ := hs
      exact False.elim q
    | cont =>
      obtain ⟨_, _, _, q⟩ := hs
      exact False.elim q
  · exact hs
end DL
end
section
/-! E3: own errors whose __init__ stores its arguments: self.f = p, .. behind super().__init__(..). -/
namespace DL
open PySem PySem.Spec L2 PySem.W

/-! ### the stores -/
def exFs {α : Type} (dflt : α) (ws : List α) : List (Str × Nat) → List (Str × α) → List (Str × α)
  | [], fs => fs
  | (f, i) :: r, fs => exFs dflt ws r ((f, ws.getD i dflt) :: fs)
def tOsts (K : Frag) : List (Str × Nat) → TS
  | [] => tNext
  | (f, i) :: r => tSeq (tOst K f (tVar 0) (tVar (i + 1))) (tOsts K r)
/-- the rest of the body: the stores as they stand -/
inductive Osts (X : Cx) : List Stmt → List (Str × Nat) → Prop
  | nil : Osts X [] []
  | cons {st : Stmt} {f : Str} {i : Nat} {sts : List Stmt} {is : List (Str × Nat)} : PS X st (tOst X.K f (tVar 0) (tVar (i + 1))) → Osts X sts is → Osts X (st :: sts) ((f, i) :: is)
theorem Osts.pss {X : Cx} : ∀ {sts : List Stmt} {is : List (Str × Nat)}, Osts X sts is → PSs X sts (tOsts X.K is)
  | _, _, .nil => pss_nil
  | _, _, .cons h r => pss_cons h r.pss
theorem start_get {N : List Str} {vs : List V} {i : Nat} {v : V} (h : vs[i]? = some v) : (L2.start N vs)[i]? = some (some v) := by
  unfold L2.start
  have hi := (List.getElem?_eq_some_iff.mp h).1
  rw [List.getElem?_append_left (by rw [List.length_map]; exact hi), List.getElem?_map, h]; rfl
section
variable {K : Frag} {N : List Str} {a C : Addr} {ws : List V} {D : Ends}
theorem osts_old (T : OexC K C) {dx : Addr} (hne : dx ≠ a) : ∀ (is : List (Str × Nat)) (fs : List (Str × V)) (H : Hp), (∀ p ∈ is, p.2 < ws.length ∧ findIn K (.ref C) p.1 = some none) → H a = some (exo a C (some dx)) → H dx = some (exd dx fs) → fs.length + is.length ≤ 900 →
    (∀ H2 : Hp, (∀ b, b ≠ dx → H2 b = H b) → H2 dx = some (exd dx (exFs .non ws is fs)) → D.nx (L2.start N (.ref a :: ws)) H2) → tOsts K is D (L2.start N (.ref a :: ws)) H
  | [], fs, H, _, ha, hd, _, k => k H (fun _ _ => rfl) hd
  | (f, i) :: r, fs, H, hi, ha, hd, hl, k => by
    obtain ⟨h1, h2⟩ := hi _ (List.mem_cons_self ..)
    rw [List.length_cons] at hl
    have hw : ws[i]? = some (ws.getD i .non) := by rw [List.getD_eq_getElem?_getD, List.getElem?_eq_getElem h1]; rfl
    refine ⟨ws.getD i .non, start_get (vs := .ref a :: ws) (i := i + 1) (by simpa using hw), .ref a, start_get (vs := .ref a :: ws) (i := 0) rfl, a, C, rfl, T, h2, .inr ⟨dx, fs, ha, hd, by omega, ?_⟩⟩
    show tOsts K r D _ _
    refine osts_old T hne r ((f, ws.getD i .non) :: fs) _ (fun p hp => hi p (List.mem_cons_of_mem _ hp)) (by rw [upd_ne (Ne.symm hne)]; exact ha) upd_same (by simp only [List.length_cons]; omega) fun H2 g1 g2 => k H2 (fun b hb => by rw [g1 b hb, upd_ne hb]) g2
theorem osts_new (T : OexC K C) {f : Str} {i : Nat} {is : List (Str × Nat)} {H : Hp} (hi : ∀ p ∈ (f, i) :: is, p.2 < ws.length ∧ findIn K (.ref C) p.1 = some none) (ha : H a = some (exo a C none)) (hl : is.length ≤ 899)
    (k : ∀ (dx : Addr) (H2 : Hp), H dx = none → dx ≠ a → (∀ b, b ≠ dx → b ≠ a → H2 b = H b) → H2 a = some (exo a C (some dx)) → H2 dx = some (exd dx (exFs .non ws ((f, i) :: is) [])) → D.nx (L2.start N (.ref a :: ws)) H2) : tOsts K ((f, i) :: is) D (L2.start N (.ref a :: ws)) H := by
  obtain ⟨h1, h2⟩ := hi _ (List.mem_cons_self ..)
  have hw : ws[i]? = some (ws.getD i .non) := by rw [List.getD_eq_getElem?_getD, List.getElem?_eq_getElem h1]; rfl
  refine ⟨ws.getD i .non, start_get (vs := .ref a :: ws) (i := i + 1) (by simpa using hw), .ref a, start_get (vs := .ref a :: ws) (i := 0) rfl, a, C, rfl, T, h2, .inl ⟨ha, fun dx hd hne => ?_⟩⟩
  show tOsts K is D _ _
  refine osts_old T hne is [(f, ws.getD i .non)] _ (fun p hp => hi p (List.mem_cons_of_mem _ hp)) upd_same (by rw [upd_ne hne, upd_same]) (by simp only [List.length_cons, List.length_nil]; omega) fun H2 g1 g2 => k dx H2 hd hne (fun b hb hb' => by rw [g1 b hb, upd_ne hb', upd_ne hb]) (by rw [g1 a (Ne.symm hne), upd_same]) g2
end

/-! ### the promise, the making -/
def spErr (C : Addr) (n : Nat) (is : List (Str × Nat)) : Sp := fun vs H Q _ => ∃ (a : Addr) (ws : List V), vs = .ref a :: ws ∧ ws.length = n ∧ H a = some (exo a C none) ∧
  ∀ (dx : Addr) (H2 : Hp), H dx = none → dx ≠ a → (∀ b, b ≠ dx → b ≠ a → H2 b = H b) → H2 a = some (exo a C (some dx)) → H2 dx = some (exd dx (exFs .non ws is [])) → Q .non H2
/-- what the arguments of super().__init__ are: read without any change -/
def PArgs (X : Cx) (es : List Expr) (ps : List Str) : Prop := ∃ ta, PA X es ta ∧ ∀ (vs : List V) (H : Hp) (Q : List V → Hp → Prop), vs.length = ps.length → (∀ zs, zs.length = es.length → Q zs H) → ta (L2.start X.N vs) H Q
theorem pargs_nil {X : Cx} {ps : List Str} : PArgs X [] ps := ⟨_, pa_nil, fun vs H Q _ h => h [] rfl⟩
theorem pargs_c {X : Cx} {ps : List Str} {e : Expr} {es : List Expr} {v : V} (h : PE X e (tC v)) (r : PArgs X es ps) (hs : starEach (e :: es) X.env = (false, eval e X.env) :: starEach es X.env := by rfl) : PArgs X (e :: es) ps := by
  obtain ⟨ta, p, m⟩ := r
  exact ⟨_, pa_cons h p hs, fun vs H Q hl h => m vs H _ hl fun zs hz => h (v :: zs) (by simp [hz])⟩
theorem pargs_v {X : Cx} {ps : List Str} {e : Expr} {es : List Expr} {i : Nat} (h : PE X e (tVar i)) (hi : i < ps.length) (r : PArgs X es ps) (hs : starEach (e :: es) X.env = (false, eval e X.env) :: starEach es X.env := by rfl) : PArgs X (e :: es) ps := by
  obtain ⟨ta, p, m⟩ := r
  refine ⟨_, pa_cons h p hs, fun vs H Q hl h => ?_⟩
  have hv : vs[i]? = some vs[i] := List.getElem?_eq_getElem (by omega)
  exact ⟨vs[i], start_get hv, m vs H _ hl fun zs hz => h (_ :: zs) (by simp [hz])⟩

section
variable {P : Program} {w : World} {K : Frag} {mg : Str → Option Value} {base : Heap} {k : Nat} {x qual : Str} {st : Stmt} {C f : Addr} {fd : FuncData} {ps : List Str} {ar : Arg} {e : Expr} {es : List Expr} {rest : List Stmt} {p0 p1 apos pos pos' : Pos} {pl : PySem.Env → Sem Bool} {is : List (Str × Nat)}
/-- __init__ of an own error -/
theorem fn_err (F : SupFn K P x qual st C f fd) (S : SupScope ps ps (defScope st)) (T : SupC K C C) (his : is ≠ []) (hi : ∀ p ∈ is, p.2 + 1 < ps.length ∧ findIn K (.ref C) p.1 = some none) (hil : is.length ≤ 899) (hes : es.length ≤ 900) (n : Nat) (hn : ps.length = n + 1)
    (hb : defBody st = .Expr (.Call (.Attribute (.Call (.Name "super" p0) [] [] p1) "__init__" apos) (e :: es) [] pos) pos' :: rest)
    (hp : ((defArgs st).posonlyargs ++ (defArgs st).args).head? = some ar) (hN : ps[0]? = some ar.arg) (hsuper : mg "super" = none)
    (hks : (defScope st).names.lookup ("super" : Str) = some .globalImplicit) (hkc : (defScope st).names.lookup ("__class__" : Str) = some .free) (hka : (defScope st).names.lookup ar.arg = some .local)
    (htop : (P.main.scope.names.lookup ("super" : Str)).isSome = false) (hop : nsIn K cStatics "thirdparty.any" = some none)
    (hsw : ∀ env, swapsWith (.Call (.Attribute (.Call (.Name "super" p0) [] [] p1) "__init__" apos) (e :: es) [] pos) none pos'.line env = pure false)
    (he : ∀ env, eval (.Call (.Attribute (.Call (.Name "super" p0) [] [] p1) "__init__" apos) (e :: es) [] pos) env = (do
      let ov ← attributeBase (.Call (.Name "super" p0) [] [] p1) "__init__" env (eval (.Call (.Name "super" p0) [] [] p1) env)
      standAt apos.atName
      let (f, first) ← holding [ov] (getMethod ov "__init__" (pl env))
      callWith pos f first (backTo pos (starEach (e :: es) env)) []))
    (hse : ∀ env, starEach (e :: es) env = (false, eval e env) :: starEach es env) (hpl : ∀ env, (backTo pos (starEach es env)).any (·.1) = false)
    (hbody : ∀ X : Cx, X.N = ps → X.K = K → X.env.scope = defScope st → PArgs X (e :: es) ps ∧ Osts X rest is) :
    FnOk P w K mg base (L2.CX P w) (k + 1) f fd ps (spErr C n is) := by
  refine fn_super F S (fun vs H Q E h => ?_) hb hp hN hsuper hks hkc hka htop hop hsw he hse hpl fun cdv cc A outer s H vs Q E hr h => ?_
  · obtain ⟨a, ws, rfl, hw, _⟩ := h
    rw [List.length_cons, hw, hn]
  · obtain ⟨a, ws, rfl, hw, ha, hq⟩ := h
    obtain ⟨⟨ta, pa, ma⟩, O⟩ := hbody (cxS (L2.CX P w) P w K mg base ps qual (defScope st) f cdv cc A outer s H E) rfl rfl rfl
    refine ⟨a, C, ta, tOsts K is, rfl, T, ha, pa, O.pss, ma (.ref a :: ws) H _ (by rw [List.length_cons, hw, hn]) fun zs hz => ⟨by rw [hz, List.length_cons]; omega, ha, ?_⟩⟩
    cases is with
    | nil => exact absurd rfl his
    | cons p is =>
      obtain ⟨fl, i⟩ := p
      exact osts_new T.oex (fun p hp => ⟨by have := (hi p hp).1; omega, (hi p hp).2⟩) ha (by simp only [List.length_cons] at hil; omega) hq
end
end DL
end
section
/-! E4: raise of an own error. -/
namespace DL
open PySem PySem.Spec L2

theorem RepF.ex {B : Bas} {F : Hp} {vs : List V} {ds : List D} (h : RepL B F vs ds) : ∀ {is : List (Str × Nat)} {fs : List (Str × V)} {gs : List (Str × D)}, (∀ p ∈ is, p.2 < ds.length) → RepF B F fs gs → RepF B F (exFs .non vs is fs) (exFs .non ds is gs)
  | [], _, _, _, r => r
  | (f, i) :: is, fs, gs, hi, r => by
    have h1 := hi _ (List.mem_cons_self ..)
    have hd : ds[i]? = some (ds.getD i .non) := by rw [List.getD_eq_getElem?_getD, List.getElem?_eq_getElem h1]; rfl
    obtain ⟨v, hv, hr⟩ := h.get hd
    have e : vs.getD i .non = v := by rw [List.getD_eq_getElem?_getD, hv]; rfl
    show RepF B F (exFs .non vs is ((f, vs.getD i .non) :: fs)) (exFs .non ds is ((f, ds.getD i .non) :: gs))
    exact RepF.ex h (fun p hp => hi p (List.mem_cons_of_mem _ hp)) (.cons (by rw [e]; exact hr) r)
def sRaise (c : Str) (n : Nat) (is : List (Str × Nat)) (fs : List ESem) : SSem := fun ρ => (eL fs ρ).sbind fun ds ρ1 => if ds.length = n then .ex c (exFs .non ds is []) ρ1 else .no
theorem newXd {B : Bas} {F0 H0 F H : Hp} {ρ0 ρ : Env} {σ0 σ : St} {p : Addr} {fs : List (Str × V)} {gs : List (Str × D)} (R : Rel B F ρ σ H) (S : Stp F0 ρ0 σ0 H0 F ρ σ H) (hn : H p = none) (r : RepF B F fs gs) :
    Stp F0 ρ0 σ0 H0 (upd F p (.xd fs)) ρ σ (upd H p (.xd fs)) ∧ Rel B (upd F p (.xd fs)) ρ σ (upd H p (.xd fs)) ∧ RepF B (upd F p (.xd fs)) fs gs := by
  obtain ⟨R2, S2⟩ := R.alloc (u := .xd fs) hn
  have hf := noF R hn
  obtain ⟨R3, S3⟩ := R2.freeze (S.trans S2) upd_same hf (S.dom _ hn) (nohas R hn)
  exact ⟨S3, R3, r.mono fun a o g => by rw [upd_ne (ne_of_none g hf)]; exact g⟩
section
variable {X : Cx} {I : Addr → Value → Option Addr → Prop} {W : WX} {x : Str} {e : Expr} {es : List Expr} {fs : List ESem} {p pos pos2 : Pos} {k n : Nat} {C fI : Addr} {fd : FuncData} {ps : List Str} {is : List (Str × Nat)}
theorem ss_raise (T : OexC X.K C) (iC : PySem.W.findIn X.K (.ref C) "__init__" = some (some (.ref fI))) (tI : PySem.W.typeIn X.K (.ref fI) = some (.type "function"))
    (F1 : FnOk X.prog X.w X.K X.mg X.base (L2.CX X.prog X.w) k fI fd ps (spErr C n is)) (hr : Room (k + 1) X.A) (hb : Binds X.K fd ps []) (tk : Takes X W) (hc : X.calm = true) (hg : Gl X x) (hm : X.mg x = some (.ref C)) (ha : SL X I W (e :: es) (eL fs)) (hn : n ≤ 1000) (hi : ∀ p ∈ is, p.2 < n)
    (hdb : (x == ("__debug__" : Str)) = false := by decide) (he : starEach (e :: es) X.env = (false, eval e X.env) :: starEach es X.env := by rfl) (hpl : (backTo pos (starEach es X.env)).any (·.1) = false := by rfl) :
    SS X I W (.Raise (some (.Call (.Name x p) (e :: es) [] pos)) none pos2) (sRaise x n is fs) := by
  obtain ⟨t, pa, m⟩ := ha
  have hx : L2.Passes (L2.CX X.prog X.w) X (fun _ _ _ => False) := passes_call tk fun _ _ _ _ h => h.elim
  refine ⟨_, L2.ps_raise hc tk (pmk_oex (sp := spErr C n is) (dvs := []) T iC tI F1 hr hb .nil hx hg hm pa hdb he hpl), fun F ρ σ H R E hq => ?_⟩
  rw [sRaise, Out.OK_sbind] at hq
  refine m F ρ σ H R _ (hq.imp (fun ds ρ1 hq F1 H1 vs S1 L1 R1 r1 => ?_) fun _ _ _ z => PostX.ofZ z)
  have hl := r1.length
  by_cases z : ds.length = n
  · rw [if_pos z] at hq
    refine ⟨by omega, fun a han => ⟨a, vs ++ [], rfl, by rw [List.append_nil]; omega, upd_same, fun dx H2 hd hne hk h1 h2 => ?_⟩⟩
    rw [upd_ne hne] at hd
    rw [List.append_nil] at h2
    refine ⟨rfl, dx, _, h1, h2, hd, ?_⟩
    have eH : upd (del H2 a) dx (.xd (exFs .non vs is [])) = upd H1 dx (.xd (exFs .non vs is [])) := by
      funext b
      by_cases hb : b = dx
      · rw [hb, upd_same, upd_same]
      · rw [upd_ne hb, upd_ne hb]
        by_cases hb2 : b = a
        · rw [hb2, del_same, han]
        · rw [del_ne hb2, hk b hb hb2, upd_ne hb2]
    rw [eH]
    obtain ⟨S3, R3, r3⟩ := newXd R1 S1 hd (RepF.ex r1 (fun p hp => by have := hi p hp; omega) .nil)
    exact hq _ σ _ _ _ S3 R3 ⟨C, hm, rfl, .inr ⟨dx, _, rfl, upd_same, r3⟩⟩
  · rw [if_neg z] at hq; exact hq.elim
end
end DL
end
section
/-! E5: isinstance. -/
namespace DL
open PySem PySem.Spec L2

/-- what the written part says of an own class, for its instances' type -/
structure TyC (K : PySem.W.Frag) (C : Addr) : Prop where
  cl : Cls K C
  ha : PySem.W.findIn K (.ref C) "__class__" = some (some (.builtin "object.__class__"))
  hn : PySem.W.specialIn K (.builtin "object.__class__") "__get__" = some (some (.builtin "getset_descriptor.__get__"))
  ht : PySem.W.takesIn K (.builtin "object.__class__") = some true
  hm : PySem.W.mroIn K C (.type "object") = some true
def tyD : D → String
  | .non => "NoneType"
  | .bl _ => "bool"
  | .int _ => "int"
  | .str _ => "str"
  | .tup _ => "tuple"
  | .lst _ => "list"
  | .scr _ => "list"
  | .ins _ _ => ""
  | .dK _ => "dict"
  | .dT _ => "dict"
  | .ktp _ => "tuple"
def isiD (tT : List (String × Bool)) (tK : List (Str × Bool)) : D → Option RV
  | .ins c _ => (tK.lookup c).map fun b => .fz (.bl b)
  | d => (tT.lookup (tyD d)).map fun b => .fz (.bl b)
/-- the answers kp gives for the types of the tables -/
structure IsiOk (K : PySem.W.Frag) (mg : Str → Option Value) (kp : Value → Option Bool) (tT : List (String × Bool)) (tK : List (Str × Bool)) : Prop where
  ty : ∀ p ∈ tT, kp (.type p.1) = some p.2
  own : ∀ p ∈ tK, ∃ C, mg p.1 = some (.ref C) ∧ TyC K C ∧ kp (.ref C) = some p.2
theorem mem_of_lk {α β : Type} [BEq α] [LawfulBEq α] {x : α} {y : β} : ∀ {l : List (α × β)}, l.lookup x = some y → (x, y) ∈ l
  | [], e => by cases e
  | (a, b) :: r, e => by
    simp only [List.lookup] at e
    cases q : x == a with
    | true => rw [q] at e; injection e with e; rw [beq_iff_eq.mp q, e]; exact List.mem_cons_self ..
    | false => rw [q] at e; exact List.mem_cons_of_mem _ (mem_of_lk e)
theorem isi_ty {B : Bas} {F H : Hp} {v : V} {d : D} {kp : Value → Option Bool} {tT : List (String × Bool)} {tK : List (Str × Bool)} {rv : RV} (T : IsiOk B.K B.mg kp tT tK) (m : ∀ a o, F a = some o → H a = some o) (h : RdR B F H v d) (e : isiD tT tK d = some rv) :
    ∃ t b, TyX B.K H v t ∧ kp t = some b ∧ rv = .fz (.bl b) := by
  have ty : ∀ {T0 : String}, (tT.lookup T0).map (fun b => RV.fz (.bl b)) = some rv → ∃ b, kp (.type T0) = some b ∧ rv = .fz (.bl b) := fun {T0} e => by
    cases q : tT.lookup T0 with
    | none => rw [q] at e; cases e
    | some b => rw [q] at e; cases e; exact ⟨b, T.ty _ (mem_of_lk q), rfl⟩
  have rdT : ∀ {a : Addr} {xs : List V}, Rd H a (.tup xs) → TyX B.K H (.ref a) (.type "tuple") := fun r => r.elim (fun r => .base (.tup r)) fun ⟨o, r⟩ => .fTuple r
  have rdL : ∀ {a : Addr} {xs : List V}, Rd H a (.lst xs) → TyX B.K H (.ref a) (.type "list") := fun r => r.elim (fun r => .base (.lst r)) fun ⟨o, r⟩ => .base (.frz r)
  cases d with
  | non => obtain ⟨b, e1, e2⟩ := ty e; exact ⟨_, b, by rw [h.non]; exact .base .non, e1, e2⟩
  | bl x => obtain ⟨b, e1, e2⟩ := ty e; exact ⟨_, b, by rw [h.bl]; exact .base (.bl x), e1, e2⟩
  | int x => obtain ⟨b, e1, e2⟩ := ty e; exact ⟨_, b, by rw [h.int]; exact .base (.int x), e1, e2⟩
  | str x => obtain ⟨b, e1, e2⟩ := ty e; exact ⟨_, b, by rw [h.str]; exact .base (.str x), e1, e2⟩
  | tup x =>
    obtain ⟨b, e1, e2⟩ := ty e
    obtain ⟨a, xs, rfl, h1, _⟩ := h.tup
    exact ⟨_, b, (tq (m _ _ h1)).elim rdT fun ⟨o, its, n, k, c, _⟩ => .kTuple k c, e1, e2⟩
  | lst x =>
    obtain ⟨b, e1, e2⟩ := ty e
    obtain ⟨a, xs, rfl, h1, _⟩ := h.lst m
    exact ⟨_, b, .base (.lst h1), e1, e2⟩
  | scr x =>
    obtain ⟨b, e1, e2⟩ := ty e
    obtain ⟨a, rfl, h1⟩ := h.scr
    exact ⟨_, b, (sql_mono m h1).elim rdL fun ⟨o, its, n, k, c, _⟩ => .kList k c, e1, e2⟩
  | ins c fs =>
    simp only [isiD] at e
    cases q : tK.lookup c with
    | none => rw [q] at e; cases e
    | some b =>
      rw [q] at e; cases e
      obtain ⟨C, g, K1, kb⟩ := T.own _ (mem_of_lk q)
      rcases h with h | ⟨a, o, rfl, e, _⟩
      · cases h with
        | ins g' hi ho hf =>
          rw [g] at g'; cases g'
          exact ⟨_, b, .base (.ins (m _ _ hi) K1.cl K1.ha K1.hn K1.ht K1.hm), kb, rfl⟩
      · cases o <;> cases e
  | ktp x =>
    obtain ⟨b, e1, e2⟩ := ty e
    rcases h with h | ⟨a, o, _, eo, _⟩
    · cases h with
      | ktp h => obtain ⟨o, its, n, k, c, _⟩ := h; exact ⟨_, b, .kTuple k c, e1, e2⟩
    · cases o <;> cases eo
  | dK x =>
    obtain ⟨b, e1, e2⟩ := ty e
    obtain ⟨a, xs, rfl, h1, _⟩ := h.dK m
    exact ⟨_, b, .base (.dK h1), e1, e2⟩
  | dT x =>
    obtain ⟨b, e1, e2⟩ := ty e
    obtain ⟨a, xs, rfl, h1, _⟩ := h.dT m
    exact ⟨_, b, .base (.dT h1), e1, e2⟩
section
variable {X : Cx} {I : Addr → Value → Option Addr → Prop} {W : WX} {a c : Expr} {f : ESem} {p pos : Pos} {u : Value} {cv : V} {tT : List (String × Bool)} {tK : List (Str × Bool)}
theorem se_isi (T : IsiOk X.K X.mg (fun t => PySem.W.kitOne X.K t u) tT tK) (k : ClsV cv u) (hm : X.mg "isinstance" = none) (h : SE X I W a f) (hc : PE X c (tC cv)) (hg : Gl X "isinstance" := by rfl) (hv : bootBuiltins "isinstance" = some (.builtin "isinstance") := by decide +kernel)
    (he : starEach [a, c] X.env = (false, eval a X.env) :: starEach [c] X.env := by rfl) (he2 : starEach [c] X.env = (false, eval c X.env) :: starEach [] X.env := by rfl) (hpl : (backTo pos (starEach [c] X.env)).any (·.1) = false := by rfl) : SE X I W (.Call (.Name "isinstance" p) [a, c] [] pos) (eU (isiD tT tK) f) := by
  obtain ⟨t, q, m⟩ := h
  refine ⟨_, pe_callB call_isi hg hm hv (pa_cons q (pa_cons hc pa_nil he2) he) (by decide) (by decide) he hpl, fun F ρ σ H R Q hq => ?_⟩
  rw [eU, Out.OK_bind] at hq
  refine m F ρ σ H R _ (hq.imp (fun r ρ1 hq F1 H1 v S1 L1 R1 r1 => ?_) fun _ _ _ z => z)
  cases e : rd ρ1 r with
  | none => rw [e] at hq; exact hq.elim
  | some d =>
    simp only [e] at hq
    cases e2 : isiD tT tK d with
    | none => rw [e2] at hq; exact hq.elim
    | some r' =>
      rw [e2] at hq
      obtain ⟨t, b, h1, h2, rfl⟩ := isi_ty (B := bas X I) T R1.ext (rd_ok R1 r1 e) e2
      exact ⟨v, cv, t, u, b, rfl, k, h1, h2, hq F1 H1 _ S1 L1 R1 (.bl b)⟩
/-- isinstance(e, (c1, ..)) -/
theorem se_isiT {cs : List Expr} {k2 : Nat} {p2 : Pos} {cvs : List V} {us : List Value} {tcs : TA} (T : IsiOk X.K X.mg (fun t => PySem.W.kitAny X.K t us) tT tK) (k : Paired ClsV cvs us) (hl : cvs.length ≤ sizeLine) (hm : X.mg "isinstance" = none) (h : SE X I W a f) (hc : PA X cs tcs) (htc : ∀ σ H Q, Q cvs H → tcs σ H Q)
    (hg : Gl X "isinstance" := by rfl) (hv : bootBuiltins "isinstance" = some (.builtin "isinstance") := by decide +kernel)
    (he : starEach [a, .Tuple cs k2 p2] X.env = (false, eval a X.env) :: starEach [.Tuple cs k2 p2] X.env := by rfl) (he2 : starEach [.Tuple cs k2 p2] X.env = (false, eval (.Tuple cs k2 p2) X.env) :: starEach [] X.env := by rfl) (hpl : (backTo pos (starEach [.Tuple cs k2 p2] X.env)).any (·.1) = false := by rfl) :
    SE X I W (.Call (.Name "isinstance" p) [a, .Tuple cs k2 p2] [] pos) (eU (isiD tT tK) f) := by
  obtain ⟨t, q, m⟩ := h
  refine ⟨_, pe_callB call_isiT hg hm hv (pa_cons q (pa_cons (pe_tup hc) pa_nil he2) he) (by decide) (by decide) he hpl, fun F ρ σ H R Q hq => ?_⟩
  rw [eU, Out.OK_bind] at hq
  refine m F ρ σ H R _ (hq.imp (fun r ρ1 hq F1 H1 v S1 L1 R1 r1 => ?_) fun _ _ _ z => z)
  cases e : rd ρ1 r with
  | none => rw [e] at hq; exact hq.elim
  | some d =>
    simp only [e] at hq
    cases e2 : isiD tT tK d with
    | none => rw [e2] at hq; exact hq.elim
    | some r' =>
      rw [e2] at hq
      refine htc _ _ _ ⟨hl, fun tp hn => ?_⟩
      obtain ⟨R2, S2⟩ := R1.alloc (u := .tup cvs) hn
      obtain ⟨t, b, h1, h2, rfl⟩ := isi_ty (B := bas X I) T R2.ext ((rd_ok R1 r1 e).elim .inl fun ⟨a, o, e1, e2, e3⟩ => .inr ⟨a, o, e1, e2, e3.keep (fun _ _ h => h) fun u hu => by rw [upd_ne (ne_of_none hu hn)]; exact hu⟩) e2
      exact ⟨v, tp, cvs, t, us, b, rfl, upd_same, k, h1, h2, hq F1 _ _ (S1.trans S2) L1 R2 (.bl b)⟩
end
end DL
end
section
/-! E6: try: .. except C as n: .. ; what the suite reads of the error. -/
namespace DL
open PySem PySem.Spec L2

/-! ### within the suite -/
/-- the suite's exception -/
abbrev Is (a : Addr) (cls : Value) (d : Option Addr) : Addr → Value → Option Addr → Prop := fun a' cls' d' => a' = a ∧ cls' = cls ∧ d' = d
def rIsX (K : PySem.W.Frag) (a : Addr) (cls : Value) (d : Option Addr) : List V → Hp → VK → Prop := fun xs H Q => ∃ (c : V) (cv : Value) (b : Bool) (D : Addr), xs = [.ref a, c] ∧ cls = .ref D ∧ ExcC K D ∧ (d = none ∨ ∃ dd fs, d = some dd ∧ H dd = some (.xd fs)) ∧ (∀ u, RelV c u → u = cv) ∧ PySem.W.kitOne K (.ref D) cv = some b ∧ Q (.bl b) H
theorem call_isX {X : Cx} {a : Addr} {cls : Value} {d : Option Addr} {oe : Obj} {pn : List (Addr × Obj)} (hz : Zc cls d oe) (hf : ∃ vs, oe.data = .fields vs) : CallR (X.suite a ((a, oe) :: pn)) (.builtin "isinstance") (rIsX X.K a cls d) := by
  intro pins s σ H xs us Q I r h
  obtain ⟨c, cv, b, D, rfl, rfl, C, hd, hcv, e, q⟩ := h
  cases r with
  | cons rx rr =>
    cases rr with
    | cons rt rr =>
      cases rr
      cases rx
      have ec := hcv _ rt
      subst ec
      obtain ⟨hget, _⟩ := I.pin (a, oe) (List.mem_append.mpr (.inl List.mem_cons_self))
      obtain ⟨vs, hv⟩ := hf
      have J : ∃ od, PySem.W.InstAt s.heap a oe D od := by
        obtain ⟨oc, od, oda, osl⟩ := oe
        obtain ⟨h1, h2⟩ := hz
        dsimp only at h1 h2 hv
        subst h1 h2 hv
        rcases hd with hd | ⟨dd, fs, hd, hH⟩
        · subst hd; exact ⟨none, hget, rfl, rfl, trivial⟩
        · subst hd
          have hx : ObjOk X.prog X.w H s.heap dd (.xd fs) := I.hok dd _ hH
          obtain ⟨mA, ⟨o', es, ep, ho, _⟩, _⟩ := hx
          exact ⟨some o', hget, rfl, rfl, ho⟩
      obtain ⟨od, J⟩ := J
      exact PySem.W.kia_one (PySem.W.kitx_exc (by obtain ⟨cd, hc, _⟩ := PySem.W.any_some C.hd; rw [hc]; rfl) C.hg C.hk C.hs C.ha C.hn C.ht C.hm) I.kIn J e (fun z => nomatch z) fun tk => ⟨.bl b, H, I.kept (t' := tk) fun _ _ z => z, rfl, q⟩
def eIsX (i : Nat) (tab : List (Str × Bool)) : ESem := fun ρ => match ρ[i]? with
  | some (some (.xn c _)) => (match tab.lookup c with | some b => .ok (.fz (.bl b)) ρ | none => .no)
  | _ => .no
def eXf (i : Nat) (f : Str) (cs : List Str) : ESem := fun ρ => match ρ[i]? with
  | some (some (.xn c fs)) => if c ∈ cs then (match fs.lookup f with | some d => .ok (.fz d) ρ | none => .no) else .no
  | _ => .no
section
variable {X : Cx} {W : WX} {a : Addr} {cls : Value} {d : Option Addr} {oe : Obj} {pn : List (Addr × Obj)} {i : Nat} {n : Str} {c : Expr} {p p' pos : Pos} {cv : V} {u : Value} {tab : List (Str × Bool)} {f : Str} {cs : List Str}
theorem se_isX (hz : Zc cls d oe) (hf : ∃ vs, oe.data = .fields vs) (T : ∀ p ∈ tab, ∃ D, X.mg p.1 = some (.ref D) ∧ ExcC X.K D ∧ PySem.W.kitOne X.K (.ref D) u = some p.2) (k : ClsV cv u) (hm : X.mg "isinstance" = none)
    (hn : PE (X.suite a ((a, oe) :: pn)) (.Name n p') (tVar i)) (hc : PE (X.suite a ((a, oe) :: pn)) c (tC cv)) (hg : Gl X "isinstance" := by rfl) (hv : bootBuiltins "isinstance" = some (.builtin "isinstance") := by decide +kernel)
    (he : starEach [.Name n p', c] X.env = (false, eval (.Name n p') X.env) :: starEach [c] X.env := by rfl) (he2 : starEach [c] X.env = (false, eval c X.env) :: starEach [] X.env := by rfl) (hpl : (backTo pos (starEach [c] X.env)).any (·.1) = false := by rfl) :
    SE (X.suite a ((a, oe) :: pn)) (Is a cls d) W (.Call (.Name "isinstance" p) [.Name n p', c] [] pos) (eIsX i tab) := by
  refine ⟨_, pe_callB (X := X.suite a ((a, oe) :: pn)) (call_isX hz hf) hg hm hv (pa_cons (X := X.suite a ((a, oe) :: pn)) hn (pa_cons (X := X.suite a ((a, oe) :: pn)) hc pa_nil he2) he) (by decide) (by decide) he hpl, fun F ρ σ H R Q hq => ?_⟩
  unfold eIsX at hq
  split at hq
  · rename_i cn fs hs
    cases e : tab.lookup cn with
    | none => rw [e] at hq; exact hq.elim
    | some b =>
      rw [e] at hq
      obtain ⟨D, g, EC, kk⟩ := T _ (mem_of_lk e)
      obtain ⟨v, h1, a', C, dd, vs, rfl, g', ⟨rfl, h3, h4⟩, h5⟩ := R.sl i _ hs
      have gg : (some (Value.ref C) : Option Value) = some (.ref D) := g'.symm.trans g
      injection gg with gg; injection gg with gg; subst gg
      refine ⟨_, h1, cv, u, b, C, rfl, h3.symm, EC, ?_, fun w r => k.eq r, kk, hq F H _ (Stp.refl _ _ _ _) (Live.refl _) R (.bl b)⟩
      subst h4
      exact h5.imp (fun z => z.1) fun ⟨e, q1, q2, _⟩ => ⟨e, vs, q1, R.ext _ _ q2⟩
  · exact hq.elim
theorem se_xf (hz : Zc cls d oe) (hf : ∃ vs, oe.data = .fields vs) (T : ∀ c ∈ cs, ∃ D, X.mg c = some (.ref D) ∧ XfC X.K D ∧ PySem.W.findIn X.K (.ref D) f = some none) (hn : PE (X.suite a ((a, oe) :: pn)) (.Name n p') (tVar i)) (hb : attributeBase (.Name n p') f X.env (eval (.Name n p') X.env) = eval (.Name n p') X.env := by rfl) :
    SE (X.suite a ((a, oe) :: pn)) (Is a cls d) W (.Attribute (.Name n p') f pos) (eXf i f cs) := by
  refine ⟨fun σ H Q => ∃ D, XfC X.K D ∧ PySem.W.findIn X.K (.ref D) f = some none ∧ tXf a cls d D f (tVar i) σ H Q, ⟨fun pins s σ H Q I h => ?_⟩, fun F ρ σ H R Q hq => ?_⟩
  · obtain ⟨D, h1, h2, h3⟩ := h
    exact (pe_xf h1 h2 hz hf hn hb).run pins s σ H Q I h3
  · unfold eXf at hq
    split at hq
    · rename_i cn fs hs
      by_cases hc : cn ∈ cs
      · rw [if_pos hc] at hq
        cases e : fs.lookup f with
        | none => rw [e] at hq; exact hq.elim
        | some dv =>
          rw [e] at hq
          obtain ⟨D, g, XC, nf⟩ := T _ hc
          obtain ⟨v, h1, a', C, dd, vs, rfl, g', ⟨rfl, h3, h4⟩, h5⟩ := R.sl i _ hs
          have gg : (some (Value.ref C) : Option Value) = some (.ref D) := g'.symm.trans g
          injection gg with gg; injection gg with gg; subst gg
          rcases h5 with ⟨_, z⟩ | ⟨e', q1, q2, q3⟩
          · subst z; cases e
          · obtain ⟨w, hw, hr⟩ := q3.get e
            exact ⟨C, XC, nf, _, h1, rfl, h3.symm, e', vs, w, by rw [← h4, q1], R.ext _ _ q2, hw, hq F H _ (Stp.refl _ _ _ _) (Live.refl _) R hr⟩
      · rw [if_neg hc] at hq; exact hq.elim
    · exact hq.elim
end
end DL
end
section
/-! E7: try: .. except C as n: .. ; what is never reached. -/
namespace DL
open PySem PySem.Spec L2

theorem ss_no {X : Cx} {I : Addr → Value → Option Addr → Prop} {W : WX} {st : Stmt} : SS X I W st (fun _ => .no) := ⟨fun _ _ _ => False, ⟨fun _ _ _ _ _ _ h => h.elim⟩, fun _ _ _ _ _ _ h => h⟩
theorem se_no {X : Cx} {I : Addr → Value → Option Addr → Prop} {W : WX} {e : Expr} : SE X I W e (fun _ => .no) := ⟨fun _ _ _ => False, ⟨fun _ _ _ _ _ _ h => h.elim⟩, fun _ _ _ _ _ _ h => h⟩
theorem sc_no {X : Cx} {I : Addr → Value → Option Addr → Prop} {W : WX} {e : Expr} : SC X I W e (fun _ => .no) := ⟨fun _ _ _ => False, ⟨fun _ _ _ _ _ _ h => h.elim⟩, fun _ _ _ _ _ _ h => h⟩

def noX (ρ : Env) : Bool := ρ.all fun o => match o with
  | some (.xn _ _) => false
  | _ => true
theorem noX_at {ρ : Env} (h : noX ρ = true) {i : Nat} {c : Str} {fs : List (Str × D)} (e : ρ[i]? = some (some (.xn c fs))) : False := by
  have := List.all_eq_true.mp h _ (List.mem_of_getElem? e)
  cases this
theorem RepO.wi {B : Bas} {I' : Addr → Value → Option Addr → Prop} {F H : Hp} {a : Addr} {o : OB} (h : RepO B F H a o) : RepO (B.wi I') F H a o := by
  cases o with
  | lst ds => obtain ⟨xs, h1, h2⟩ := h; exact ⟨xs, h1, h2.wi⟩
  | ob c fs => obtain ⟨C, dx, vs, g, h1, h2, h3⟩ := h; exact ⟨C, dx, vs, g, h1, h2, h3.wi⟩
  | dK ds => obtain ⟨xs, h1, h2⟩ := h; exact ⟨xs, h1, h2.wi⟩
  | dT ds => obtain ⟨xs, h1, h2⟩ := h; exact ⟨xs, h1, h2.wi⟩
theorem Rel.wiN {B : Bas} {I' : Addr → Value → Option Addr → Prop} {F H : Hp} {ρ : Env} {σ : St} (hx : noX ρ = true) (R : Rel B F ρ σ H) : Rel (B.wi I') F ρ σ H := by
  refine ⟨R.ext, R.len, fun i sv h => ?_, R.sep⟩
  obtain ⟨v, h1, h2⟩ := R.sl i sv h
  refine ⟨v, h1, ?_⟩
  cases sv with
  | fz d => exact Rep.wi h2
  | ow b o => obtain ⟨a, e, f, q⟩ := h2; exact ⟨a, e, f, q.wi⟩
  | lk o => obtain ⟨a, e, f, q⟩ := h2; exact ⟨a, e, f, q.wi⟩
  | xn c fs => exact (noX_at hx h).elim
  | dd => trivial
theorem get_none {α : Type} {l : List (Option α)} {i j : Nat} {y : α} (h : (l.set i none)[j]? = some (some y)) : i ≠ j ∧ l[j]? = some (some y) := by
  rcases get_set h with ⟨_, z⟩ | z
  · cases z
  · exact z
theorem Rel.clr {B : Bas} {F H : Hp} {ρ : Env} {σ : St} (i : Nat) (R : Rel B F ρ σ H) : Rel B F (ρ.set i none) (σ.set i none) H := by
  have v : ∀ {j : Nat} {v : V}, i ≠ j → σ[j]? = some (some v) → (σ.set i none)[j]? = some (some v) := fun h e => by rw [List.getElem?_set, if_neg h]; exact e
  refine ⟨R.ext, by rw [List.length_set, List.length_set]; exact R.len, fun j sv h => ?_, fun j k a h1 h2 => ?_⟩
  · obtain ⟨ne, h⟩ := get_none h
    obtain ⟨w, h1, h2⟩ := R.sl j sv h
    exact ⟨w, v ne h1, h2⟩
  · obtain ⟨b, o, w1, w2⟩ := h1
    obtain ⟨s, w3, w4, w5⟩ := h2
    exact R.sep j k a ⟨b, o, (get_none w1).2, (get_none w2).2⟩ ⟨s, (get_none w3).2, w4, (get_none w5).2⟩
theorem Stp.clr {F F' H H' : Hp} {ρ ρ' : Env} {σ σ' : St} (i : Nat) (S : Stp F ρ σ H F' ρ' σ' H') : Stp F ρ σ H F' (ρ'.set i none) (σ'.set i none) H' :=
  ⟨S.mono, S.newF, S.keep, S.dom, fun k a ⟨sv, h1, h2, h3⟩ => S.has k a ⟨sv, (get_none h1).2, h2, (get_none h3).2⟩, fun k b o a h1 h2 => S.own k b o a (get_none h1).2 (get_none h2).2, fun k o a h1 h2 => S.lks k o a (get_none h1).2 (get_none h2).2⟩
theorem RetR.wi {B : Bas} {I' : Addr → Value → Option Addr → Prop} {F' H H' : Hp} {ρ : Env} {σ : St} {v : V} {r : RV} (h : RetR B F' ρ σ H H' v r) : RetR (B.wi I') F' ρ σ H H' v r := by
  cases r with
  | fz d => exact Rep.wi h
  | sl i => exact h
  | fr o => obtain ⟨a, e, h1, h2, h3⟩ := h; exact ⟨a, e, h1, h2.wi, h3⟩

def clr (i : Nat) : SOut → SOut
  | .nx ρ => if noX (ρ.set i none) then .nx (ρ.set i none) else .no
  | .rt r ρ => if noX (ρ.set i none) then .rt r (ρ.set i none) else .no
  | .bk ρ => if noX (ρ.set i none) then .bk (ρ.set i none) else .no
  | .ct ρ => if noX (ρ.set i none) then .ct (ρ.set i none) else .no
  | .ex _ _ _ => .no
  | .no => .no
def sTry (gb : SSem) (i : Nat) (tab : List (Str × Bool)) (gs : SSem) : SSem := fun ρ => match gb ρ with
  | .ex c fs ρ1 => if noX ρ1 then (match tab.lookup c with
    | some true => clr i (gs (ρ1.set i (some (.xn c fs))))
    | some false => .ex c fs ρ1
    | none => .no) else .no
  | o => o
section
variable {X : Cx} {I : Addr → Value → Option Addr → Prop} {W : WX} {x n : Str} {c : Value} {i : Nat} {body suite : List Stmt} {b₀ : Stmt} {np pos pos' : Pos} {gb gs : SSem} {tab : List (Str × Bool)}
theorem ss_try (hs : X.stack = X.env :: X.outer) (hf : X.env.frame = some X.env.locals) (hN : X.N.Nodup) (hi : X.N[i]? = some n) (hln : X.env.kindOf n = some .local) (hc : Names X x c) (tk : Takes X W)
    (T : ∀ p ∈ tab, ∃ C, X.mg p.1 = some (.ref C) ∧ PySem.W.exmOne X.K (.ref C) c = some p.2)
    (hb : ∀ (W : WX) (pn : List (Addr × Obj)) (xe : Value → Shared → Prop), Takes (X.tr pn xe) W → PassesOwn (model X.prog X.w) X.A X.env xe → SSs (X.tr pn xe) I W body gb)
    (hsu : ∀ (a : Addr) (oe : Obj) (cls : Value) (d : Option Addr) (pn : List (Addr × Obj)), Zc cls d oe → (∃ vs, oe.data = .fields vs) → SSs (X.suite a ((a, oe) :: pn)) (Is a cls d) (fun _ _ _ _ => False) (b₀ :: suite) gs) :
    SS X I W (.Try body [.ExceptHandler (some (.Name x np)) (some n) (b₀ :: suite) pos'] [] [] pos) (sTry gb i tab gs) := by
  let tb : WX → TS := fun W D σ H => ∀ pn xe tk po, (hb W pn xe tk po).choose D σ H
  let ts : Addr → Value → Option Addr → TS := fun a cls d D σ H => ∀ oe pn hz hf, (hsu a oe cls d pn hz hf).choose D σ H
  refine ⟨_, ps_try_as (tb := tb) (ts := ts) hs hf hN hi hln hc tk (fun W pn xe tk po => ⟨fun pins s σ H D I h => (hb W pn xe tk po).choose_spec.1.run pins s σ H D I (h pn xe tk po)⟩)
    (fun a oe cls d pn hz hf => ⟨fun pins s σ H D I h => (hsu a oe cls d pn hz hf).choose_spec.1.run pins s σ H D I (h oe pn hz hf)⟩), fun F ρ σ H R E hq pn xe tk po => ?_⟩
  refine (hb _ pn xe tk po).choose_spec.2 F ρ σ H R E ?_
  unfold sTry at hq
  cases e : gb ρ with
  | nx ρ1 => rw [e] at hq; exact hq
  | rt r ρ1 => rw [e] at hq; exact hq
  | bk ρ1 => rw [e] at hq; exact hq
  | ct ρ1 => rw [e] at hq; exact hq
  | no => rw [e] at hq; exact hq
  | ex cn fs ρ1 =>
    rw [e] at hq
    refine fun F1 σ1 H1 cls dd S1 R1 xr => ?_
    dsimp only at hq
    by_cases hx : noX ρ1 = true
    · rw [if_pos hx] at hq
      cases hl : tab.lookup cn with
      | none => rw [hl] at hq; exact hq.elim
      | some b =>
        rw [hl] at hq
        obtain ⟨C, g, hex⟩ := T _ (mem_of_lk hl)
        have xr0 := xr
        obtain ⟨C', g', rfl, hdd⟩ := xr
        have gg : (some (Value.ref C') : Option Value) = some (.ref C) := g'.symm.trans g
        injection gg with gg; injection gg with gg; subst gg
        refine ⟨b, hex, fun hb1 a ha oe pn hz hfl => ?_, fun hb0 => ?_⟩
        · subst hb1
          -- the suite
          have hsv : SvR (bas X (Is a (.ref C') dd)) F1 H1 (.ref a) (.xn cn fs) := by
            refine ⟨a, C', dd, ?_⟩
            rcases hdd with ⟨z1, z2⟩ | ⟨e', vs, z1, z2, z3⟩
            · exact ⟨[], rfl, g, ⟨rfl, rfl, rfl⟩, .inl ⟨z1, z2⟩⟩
            · exact ⟨vs, rfl, g, ⟨rfl, rfl, rfl⟩, .inr ⟨e', z1, z2, z3.wi⟩⟩
          obtain ⟨R2, S2⟩ := Rel.put (i := i) (B := bas X (Is a (.ref C') dd)) (Rel.wiN (I' := Is a (.ref C') dd) hx R1) S1 hsv (fun z => nomatch z)
          refine (hsu a oe (.ref C') dd pn hz hfl).choose_spec.2 F1 _ _ H1 R2 _ ?_
          cases eg : gs (ρ1.set i (some (.xn cn fs))) with
          | nx ρ2 =>
            simp only [eg, clr] at hq
            split at hq
            · rename_i hx2
              exact fun F' σ' H' S' R' => hq F' _ H' ((S2.trans S').clr i) (Rel.wiN (B := bas X (Is a (.ref C') dd)) (I' := I) hx2 (R'.clr i))
            · exact hq.elim
          | bk ρ2 =>
            simp only [eg, clr] at hq
            split at hq
            · rename_i hx2
              exact fun F' σ' H' S' R' => hq F' _ H' ((S2.trans S').clr i) (Rel.wiN (B := bas X (Is a (.ref C') dd)) (I' := I) hx2 (R'.clr i))
            · exact hq.elim
          | ct ρ2 =>
            simp only [eg, clr] at hq
            split at hq
            · rename_i hx2
              exact fun F' σ' H' S' R' => hq F' _ H' ((S2.trans S').clr i) (Rel.wiN (B := bas X (Is a (.ref C') dd)) (I' := I) hx2 (R'.clr i))
            · exact hq.elim
          | rt r ρ2 =>
            simp only [eg, clr] at hq
            split at hq
            · rename_i hx2
              exact fun F' σ' H' v S' R' x => hq F' _ H' v ((S2.trans S').clr i) (Rel.wiN (B := bas X (Is a (.ref C') dd)) (I' := I) hx2 (R'.clr i)) (RetR.wi (B := bas X (Is a (.ref C') dd)) (I' := I) (x.back S2))
            · exact hq.elim
          | ex c2 fs2 ρ2 => simp only [eg, clr] at hq; exact hq.elim
          | no => simp only [eg, clr] at hq; exact hq.elim
        · subst hb0
          exact hq F1 σ1 H1 _ dd S1 R1 xr0
    · rw [if_neg hx] at hq; exact hq.elim
end
end DL
end
section
/-! E8: instances: fields read, fields stored, making. -/
namespace DL
open PySem PySem.Spec L2

/-! ### a field read -/
def rdF (ρ : Env) : RV → Option (Str × List (Str × D))
  | .fz (.ins c fs) => some (c, fs)
  | .fz _ => none
  | .fr (.ob c fs) => some (c, fs)
  | .fr _ => none
  | .sl i => match ρ[i]? with
    | some (some (.fz (.ins c fs))) => some (c, fs)
    | some (some (.ow _ (.ob c fs))) => some (c, fs)
    | some (some (.lk (.ob c fs))) => some (c, fs)
    | _ => none
theorem rdF_ok {B : Bas} {F H H0 : Hp} {ρ : Env} {σ : St} {v : V} {r : RV} {c : Str} {fs : List (Str × D)} (R : Rel B F ρ σ H) (h : RvR B F ρ σ H0 H v r) (e : rdF ρ r = some (c, fs)) :
    ∃ a C dx vs, v = .ref a ∧ B.mg c = some (.ref C) ∧ H a = some (.ins C dx vs) ∧ RepF B F vs fs := by
  have fz : Rep B F v (.ins c fs) → ∃ a C dx vs, v = .ref a ∧ B.mg c = some (.ref C) ∧ H a = some (.ins C dx vs) ∧ RepF B F vs fs := fun h => by
    cases h with
    | ins g hi _ hf => exact ⟨_, _, _, _, rfl, g, R.ext _ _ hi, hf⟩
  have ob : ∀ {a}, RepO B F H a (.ob c fs) → ∃ a' C dx vs, V.ref a = .ref a' ∧ B.mg c = some (.ref C) ∧ H a' = some (.ins C dx vs) ∧ RepF B F vs fs := fun {a} ⟨C, dx, vs, g, h1, _, h3⟩ => ⟨a, C, dx, vs, rfl, g, h1, h3⟩
  cases r with
  | fz d => cases d <;> simp only [rdF] at e <;> cases e; exact fz h
  | fr o =>
    cases o <;> simp only [rdF] at e <;> cases e
    obtain ⟨a, rfl, _, _, ho, _⟩ := h
    exact ob ho
  | sl i =>
    obtain ⟨h1, sv, h2⟩ := h
    obtain ⟨v', h3, h4⟩ := R.sl i sv h2
    rw [h1] at h3; cases h3
    simp only [rdF, h2] at e
    cases sv with
    | fz d => cases d <;> simp only at e <;> cases e; exact fz h4
    | ow b o =>
      cases o <;> simp only at e <;> cases e
      obtain ⟨a, rfl, _, ho⟩ := h4
      exact ob ho
    | lk o =>
      cases o <;> simp only at e <;> cases e
      obtain ⟨a, rfl, _, ho⟩ := h4
      exact ob ho
    | xn c fs => cases e
    | dd => cases e
def eFld (f : Str) (cs : List Str) (g : ESem) : ESem := fun ρ => (g ρ).bind fun r ρ1 => match rdF ρ1 r with
  | some (c, fs) => if c ∈ cs then (match fs.lookup f with | some d => .ok (.fz d) ρ1 | none => .no) else .no
  | none => .no
def ClsOk (K : PySem.W.Frag) (mg : Str → Option Value) (f : Str) (cs : List Str) : Prop := ∀ c ∈ cs, ∃ C, mg c = some (.ref C) ∧ Cls K C ∧ NoAttr K C f
section
variable {X : Cx} {I : Addr → Value → Option Addr → Prop} {W : WX} {e : Expr} {g : ESem} {f : Str} {cs : List Str} {pos pos' p : Pos}
theorem se_fld (T : ClsOk X.K X.mg f cs) (h : SE X I W e g) (hb : attributeBase e f X.env (eval e X.env) = eval e X.env := by rfl) : SE X I W (.Attribute e f pos) (eFld f cs g) := by
  obtain ⟨t, p, m⟩ := h
  refine ⟨_, pe_fld p hb, fun F ρ σ H R Q hq => ?_⟩
  rw [eFld, Out.OK_bind] at hq
  refine m F ρ σ H R _ (hq.imp (fun r ρ1 hq F1 H1 v S1 L1 R1 r1 => ?_) fun _ _ _ z => z)
  cases e1 : rdF ρ1 r with
  | none => rw [e1] at hq; exact hq.elim
  | some z =>
    obtain ⟨c, fs⟩ := z
    rw [e1] at hq
    dsimp only at hq
    by_cases hc : c ∈ cs
    · rw [if_pos hc] at hq
      cases e2 : fs.lookup f with
      | none => rw [e2] at hq; exact hq.elim
      | some d =>
        rw [e2] at hq
        obtain ⟨a, C, dx, vs, rfl, gC, hH, hf⟩ := rdF_ok R1 r1 e1
        obtain ⟨C', g', k, n⟩ := T c hc
        have gg : (some (Value.ref C) : Option Value) = some (.ref C') := gC.symm.trans g'
        injection gg with gg; injection gg with gg; subst gg
        obtain ⟨w, hw, hr⟩ := hf.get e2
        exact ⟨a, C, dx, vs, w, rfl, hH, k, n, hw, hq F1 H1 w S1 L1 R1 hr⟩
    · rw [if_neg hc] at hq; exact hq.elim
/-! ### self.f = e -/
def sFldS (k : Nat) (f : Str) (cs : List Str) (g : ESem) : SSem := fun ρ => (eF g ρ).sbind fun d ρ1 => match ρ1[k]? with
  | some (some (.ow b (.ob c fs))) => if c ∈ cs ∧ fs.length < 1000 then .nx (ρ1.set k (some (.ow b (.ob c (putD f d fs))))) else .no
  | _ => .no
theorem ss_fld {k : Nat} {x : Str} (T : ClsOk X.K X.mg f cs) (h : SE X I W e g) (hv : PE X (.Name x p) (tVar k)) (hs : swapsWith e (some (.Attribute (.Name x p) f pos')) pos.line X.env = pure false := by rfl) : SS X I W (.Assign [.Attribute (.Name x p) f pos'] e pos) (sFldS k f cs g) := by
  obtain ⟨t, p, m⟩ := h
  refine ⟨_, ps_fld hv p hs, fun F ρ σ H R E hq => ?_⟩
  rw [sFldS, eF, Out.OK_sbind, Out.OK_bind] at hq
  refine m F ρ σ H R _ (hq.imp (fun r ρ1 hq F1 H1 v S1 L1 R1 r1 => ?_) fun _ _ _ z => PostX.ofZ z)
  cases e1 : frz ρ1 r with
  | none => rw [e1] at hq; exact hq.elim
  | some z =>
    obtain ⟨d, ρ2⟩ := z
    rw [e1] at hq
    obtain ⟨F2, S2, _, R2, r2, _⟩ := frz_ok R1 S1 r1 e1
    dsimp only [Out.OK] at hq
    cases e2 : ρ2[k]? with
    | none => rw [e2] at hq; exact hq.elim
    | some o =>
      cases o with
      | none => rw [e2] at hq; exact hq.elim
      | some sv =>
        cases sv with
        | ow b o =>
          cases o with
          | lst xs => rw [e2] at hq; exact hq.elim
          | dK _ => rw [e2] at hq; exact hq.elim
          | dT _ => rw [e2] at hq; exact hq.elim
          | ob c fs =>
            rw [e2] at hq
            dsimp only at hq
            by_cases hc : c ∈ cs ∧ fs.length < 1000
            · rw [if_pos hc] at hq
              obtain ⟨v', g1, a, ev, hf, C, dx, vs, gC, hH, hdx, hR⟩ := R2.sl k _ e2
              subst ev
              obtain ⟨C', g', kk, n⟩ := T c hc.1
              have gg : (some (Value.ref C) : Option Value) = some (.ref C') := gC.symm.trans g'
              injection gg with gg; injection gg with gg; subst gg
              refine ⟨_, g1, a, C, dx, vs, rfl, hH, kk, n, by rw [hR.length]; exact hc.2, ?_⟩
              obtain ⟨R3, S3⟩ := R2.mutate (o' := .ob c (putD f d fs)) (u := .ins C dx (putF f v vs)) e2 g1 ⟨C, dx, _, gC, upd_same, hdx, hR.put r2⟩
              exact hq F2 σ _ (S2.trans S3) R3
            · rw [if_neg hc] at hq; exact hq.elim
        | _ => rw [e2] at hq; exact hq.elim
end
end DL
end
section
/-! E9: calls with defaults; instances made. -/
namespace DL
open PySem PySem.Spec L2

/-! ### a slot for the while of a call -/
section
variable {B : Bas} {F0 H0 F H : Hp} {ρ0 ρ : Env} {σ0 σ : St} {x : Addr} {o : OB}
theorem app_get {α : Type} {l : List α} {a : α} {k : Nat} {y : α} (h : (l ++ [a])[k]? = some y) : (k < l.length ∧ l[k]? = some y) ∨ (k = l.length ∧ y = a) := by
  by_cases hk : k < l.length
  · rw [List.getElem?_append_left hk] at h; exact .inl ⟨hk, h⟩
  · rw [List.getElem?_append_right (by omega)] at h
    have : k - l.length = 0 := by
      cases q : k - l.length with
      | zero => rfl
      | succ n => rw [q] at h; simp at h
    rw [this] at h
    simp only [List.getElem?_cons_zero, Option.some.injEq] at h
    exact .inr ⟨by omega, h.symm⟩
theorem get_app1 {α : Type} {l : List α} {a : α} {k : Nat} {y : α} (h : l[k]? = some y) : (l ++ [a])[k]? = some y := by
  rw [List.getElem?_append_left (List.getElem?_eq_some_iff.mp h).1]; exact h
theorem Rel.tmp (R : Rel B F ρ σ H) (S : Stp F0 ρ0 σ0 H0 F ρ σ H) (hf : F x = none) (ho : RepO B F H x o) (hn : H0 x = none) (hs : ∀ k, ¬ HasAt ρ σ k x) :
    Rel B F (ρ ++ [some (.ow false o)]) (σ ++ [some (.ref x)]) H ∧ Stp F0 ρ0 σ0 H0 F (ρ ++ [some (.ow false o)]) (σ ++ [some (.ref x)]) H := by
  have hl := R.len
  have hasC : ∀ k a, HasAt (ρ ++ [some (.ow false o)]) (σ ++ [some (.ref x)]) k a → (k < ρ.length ∧ HasAt ρ σ k a) ∨ (k = ρ.length ∧ a = x) := fun k a ⟨sv, h1, h2, h3⟩ => by
    rcases app_get h1 with ⟨k1, h1⟩ | ⟨k1, h1⟩
    · rcases app_get h3 with ⟨_, h3⟩ | ⟨k2, _⟩
      · exact .inl ⟨k1, sv, h1, h2, h3⟩
      · omega
    · rcases app_get h3 with ⟨k2, _⟩ | ⟨_, h3⟩
      · omega
      · cases h3; exact .inr ⟨k1, rfl⟩
  refine ⟨⟨R.ext, by simp [hl], fun k sv h => ?_, fun j k a h1 h2 => ?_⟩, ⟨S.mono, S.newF, S.keep, S.dom, fun k a h => ?_, fun k b o' a h1 h2 => ?_, fun k o' a h1 h2 => ?_⟩⟩
  · rcases app_get h with ⟨_, h⟩ | ⟨k1, h⟩
    · obtain ⟨v, g1, g2⟩ := R.sl k sv h
      exact ⟨v, get_app1 g1, g2⟩
    · cases h
      exact ⟨.ref x, by rw [k1, ← hl]; simp, x, rfl, hf, ho⟩
  · rcases hasC k a h2 with ⟨k1, h2⟩ | ⟨k1, e⟩
    · obtain ⟨b, o', w1, w2⟩ := h1
      rcases app_get w1 with ⟨j1, w1⟩ | ⟨j1, w1⟩
      · rcases app_get w2 with ⟨_, w2⟩ | ⟨q, _⟩
        · exact R.sep j k a ⟨b, o', w1, w2⟩ h2
        · omega
      · rcases app_get w2 with ⟨q, _⟩ | ⟨_, w2⟩
        · omega
        · cases w2; exact absurd h2 (hs k)
    · subst e
      rcases hasC j a h1.has with ⟨_, q⟩ | ⟨q, _⟩
      · exact absurd q (hs j)
      · rw [q, k1]
  · rcases hasC k a h with ⟨_, q⟩ | ⟨_, q⟩
    · exact S.has k a q
    · subst q; exact .inl hn
  · rcases app_get h1 with ⟨j1, w1⟩ | ⟨j1, w1⟩
    · rcases app_get h2 with ⟨_, w2⟩ | ⟨q, _⟩
      · exact S.own k b o' a w1 w2
      · omega
    · cases w1
      rcases app_get h2 with ⟨q, _⟩ | ⟨_, w2⟩
      · omega
      · cases w2; exact .inl ⟨rfl, hn⟩
  · rcases app_get h1 with ⟨j1, w1⟩ | ⟨j1, w1⟩
    · rcases app_get h2 with ⟨_, w2⟩ | ⟨q, _⟩
      · exact S.lks k o' a w1 w2
      · omega
    · cases w1
theorem Rel.untmp {so : Option SV} {vo : Option V} (R : Rel B F (ρ ++ [so]) (σ ++ [vo]) H) : Rel B F ρ σ H := by
  have hl : σ.length = ρ.length := by have := R.len; simp at this; exact this
  refine ⟨R.ext, hl, fun k sv h => ?_, fun j k a ⟨b, o, h1, h2⟩ ⟨sv, h3, h4, h5⟩ => R.sep j k a ⟨b, o, get_app1 h1, get_app1 h2⟩ ⟨sv, get_app1 h3, h4, get_app1 h5⟩⟩
  obtain ⟨v, h1, h2⟩ := R.sl k sv (get_app1 h)
  have hk := (List.getElem?_eq_some_iff.mp h).1
  rw [List.getElem?_append_left (by omega)] at h1
  exact ⟨v, h1, h2⟩
theorem Stp.untmp {so : Option SV} {vo : Option V} (S : Stp F0 ρ0 σ0 H0 F (ρ ++ [so]) (σ ++ [vo]) H) : Stp F0 ρ0 σ0 H0 F ρ σ H :=
  ⟨S.mono, S.newF, S.keep, S.dom, fun k a ⟨sv, h1, h2, h3⟩ => S.has k a ⟨sv, get_app1 h1, h2, get_app1 h3⟩, fun k b o a h1 h2 => S.own k b o a (get_app1 h1) (get_app1 h2), fun k o a h1 h2 => S.lks k o a (get_app1 h1) (get_app1 h2)⟩
theorem PR.tmp {so : Option SV} {vo : Option V} : ∀ {vs : List V} {rs : List RV}, PR B F ρ σ vs rs → PR B F (ρ ++ [so]) (σ ++ [vo]) vs rs
  | _, _, .nil => .nil
  | _, _, .fz h r => .fz h r.tmp
  | _, _, .sl h1 h2 r => .sl (get_app1 h1) (get_app1 h2) r.tmp
theorem PR.slots : ∀ {vs : List V} {rs : List RV}, PR B F ρ σ vs rs → ∀ i ∈ slotsOf rs, i < ρ.length
  | _, _, .nil, i, h => by cases h
  | _, _, .fz _ r, i, h => r.slots i h
  | _, _, .sl (i := j) h1 h2 r, i, h => by
    rcases List.mem_cons.mp h with e | h
    · subst e; exact (List.getElem?_eq_some_iff.mp h2).1
    · exact r.slots i h
theorem args_tmp {so : Option SV} : ∀ {vs : List V} {rs : List RV}, PR B F ρ σ vs rs → argsOf (ρ ++ [so]) rs = argsOf ρ rs
  | _, _, .nil => rfl
  | _, _, .fz _ r => by simp only [argsOf, argSV, args_tmp r]
  | _, _, .sl (i := j) h1 h2 r => by simp only [argsOf, argSV, args_tmp r, get_app1 h2, h2]
end
theorem back_app {so : Option SV} : ∀ (rs : List RV) (ρ ρa : Env), (∀ i ∈ slotsOf rs, i < ρ.length) → back (ρ ++ [so]) rs ρa = back ρ rs ρa ++ [so]
  | [], _, _, _ => rfl
  | r :: rs, ρ, ρa, h => by
    have e : back1 (ρ ++ [so]) r ρa.head? = back1 ρ r ρa.head? ++ [so] := by
      unfold back1
      cases r with
      | sl i =>
        have hi : i < ρ.length := h i (List.mem_cons_self ..)
        dsimp only
        rw [List.getElem?_append_left hi]
        cases ρ[i]? with
        | none => rfl
        | some o =>
          cases o with
          | none => rfl
          | some sv => cases sv <;> first | rfl | exact List.set_append_left _ _ hi
      | _ => rfl
    rw [back, back, e, back_app rs]
    intro i hi
    have hb1 : (back1 ρ r ρa.head?).length = ρ.length := back_len [r] ρ ρa
    rw [hb1]
    refine h i ?_
    cases r with
    | sl j => exact List.mem_cons_of_mem _ hi
    | _ => exact hi
theorem slots_app : ∀ {rs : List RV} {ds : List D}, slotsOf (rs ++ ds.map .fz) = slotsOf rs
  | [], [] => rfl
  | [], d :: ds => slots_app (rs := []) (ds := ds)
  | .sl i :: rs, ds => by show i :: slotsOf (rs ++ ds.map .fz) = i :: slotsOf rs; rw [slots_app]
  | .fz _ :: rs, ds => slots_app (rs := rs)
  | .fr _ :: rs, ds => slots_app (rs := rs)
theorem PR.ofL {B : Bas} {F : Hp} {ρ : Env} {σ : St} : ∀ {vs : List V} {ds : List D}, RepL B F vs ds → PR B F ρ σ vs (ds.map .fz)
  | _, _, .nil => .nil
  | _, _, .cons h r => .fz h (PR.ofL r)

/-! ### a call, defaults behind -/
def eCallD (m : FSem) (dds : List D) (fs : List ESem) : ESem := fun ρ => (eP fs ρ).bind fun rs ρ1 => match argsOf ρ1 (rs ++ dds.map .fz) with
  | some as => if (slotsOf rs).Nodup then (match m as with
    | .ok r ρa => .ok r (back ρ1 (rs ++ dds.map .fz) ρa)
    | .ex c fs ρa => .ex c fs (back ρ1 (rs ++ dds.map .fz) ρa)
    | .no => .no) else .no
  | none => .no
section
variable {X : Cx} {I : Addr → Value → Option Addr → Prop} {W : WX} {k : Nat} {f : Addr} {fd : FuncData} {ps : List Str} {x : Str} {p pos : Pos} {e : Expr} {es : List Expr} {fs : List ESem} {m : FSem} {n : Nat} {dvs : List V} {ds : List Value} {dds : List D}
theorem se_callD (G : FnOk X.prog X.w X.K X.mg X.base (L2.CX X.prog X.w) k f fd ps (spOf (bas X I0) n m)) (hr : Room k X.A) (hg : Gl X x) (hm : X.mg x = some (.ref f)) (hk : PySem.W.keepIn X.K (.ref f) = true) (hb : Binds X.K fd ps ds) (hd : Vals dvs ds) (hdr : ∀ F, RepL (bas X I) F dvs dds) (tk : Takes X W)
    (ha : SA X I W (e :: es) (eP fs)) (hn : fs.length + dds.length = n) (hdb : (x == ("__debug__" : Str)) = false := by decide) (he : starEach (e :: es) X.env = (false, eval e X.env) :: starEach es X.env := by rfl) (hpl : (backTo pos (starEach es X.env)).any (·.1) = false := by rfl) :
    SE X I W (.Call (.Name x p) (e :: es) [] pos) (eCallD m dds fs) := by
  obtain ⟨t, q, mm⟩ := ha
  refine ⟨_, pe_callSD (E := fun σ cls d H => W cls d σ H) G hr hg hm hk hb hd (fun σ => passAt tk σ) q hdb he hpl, fun F ρ σ H R Q hq => ?_⟩
  rw [eCallD, Out.OK_bind] at hq
  cases ee : eP fs ρ with
  | no => rw [ee] at hq; exact hq.elim
  | ex c gs ρ1 => exact mm F ρ σ H R _ (by rw [ee] at hq ⊢; exact hq)
  | ok rs ρ1 =>
    refine mm F ρ σ H R _ ?_
    rw [ee] at hq ⊢
    refine fun F1 H1 vs S1 L1 R1 pr => ?_
    show spOf (bas X I0) n m (vs ++ dvs) H1 Q (fun cls d H => W cls d σ H)
    cases ea : argsOf ρ1 (rs ++ dds.map .fz) with
    | none => simp only [Out.OK, ea] at hq
    | some as =>
      simp only [Out.OK, ea] at hq
      by_cases nd : (slotsOf rs).Nodup
      · rw [if_pos nd] at hq
        exact sem_call (t := t) R S1 L1 R1 (pr.app (PR.ofL (hdr F1))) ea (by rw [slots_app]; exact nd) hq (by rw [args_len ea, List.length_append, List.length_map, eP_len ee]; exact hn)
      · rw [if_neg nd] at hq; exact hq.elim
end

/-! ### an instance made -/
section
variable {X : Cx} {CX : CXT} {k : Nat} {f C : Addr} {fd : FuncData} {ps : List Str} {sp : Sp} {dvs : List V} {ds : List Value} {E : St → XK} {x : Str} {p pos : Pos} {e : Expr} {es : List Expr} {t : TA}
theorem run_makeAt {pins : List (Addr × Obj)} {σ : St} {H : Hp} {s : Shared} {Q : VK} {us : List Value} {vs : List V} (M : Mk X.K C f) (G : FnOk X.prog X.w X.K X.mg X.base CX k f fd ps sp) (hr : Room (k + 1) X.A) (hb : Binds X.K fd ps ds) (hd : Vals dvs ds) (hx : PassesAt CX X σ (E σ)) (I : Inv X pins σ H s) (r : Vals vs us)
    (h : ∀ x dx, H x = none → H dx = none → dx ≠ x → sp (.ref x :: (vs ++ dvs)) (upd (upd H dx (.own x)) x (.ins C dx [])) (fun v H2 => v = .non ∧ Q (.ref x) H2) (E σ)) : wpAny (model X.prog X.w) X.A (call (.ref C) us) (EP X pins σ Q) X.xe s := by
  have I2 := Inv.made (C := C) I
  have hq := h _ _ (I.hok.fresh (Nat.le_succ s.heap.objs.size)) (I.hok.fresh (Nat.le_refl s.heap.objs.size)) (Nat.ne_of_lt (Nat.lt_succ_self _))
  have r2 : Vals (V.ref (s.heap.objs.size + 1) :: (vs ++ dvs)) (Value.ref (s.heap.objs.size + 1) :: (us ++ ds)) := .cons rfl (r.append hd)
  have hl : (Value.ref (s.heap.objs.size + 1) :: us ++ ds).length = ps.length := r2.length.symm.trans (G.len _ _ _ _ hq)
  have run := G.run _ X.stack _ _ ⟨Value.ref (s.heap.objs.size + 1) :: us, []⟩ _ _ _ (E σ) (hr.make C us []) (I2.env0.make C us []) (hb _ (Value.ref (s.heap.objs.size + 1) :: us) I2.kIn hl) r2 hq
  refine wpAny_call (make_map (f := f) I.kIn M.makes M.init (beq_iff_eq.mp M.fn) (codeAny_mono run fun r s' hq' => ?_))
  match r, hq' with
  | .error e, hq' => exact hx pins _ _ e s' I2 hq'
  | .ok (.ret u), hq' =>
    obtain ⟨v, H', I3, rv, ev, q3⟩ := I2.after hq'
    subst ev
    exact ⟨rv, ⟨V.ref (s.heap.objs.size + 1), H', I3, rfl, q3⟩⟩
  | .ok .next, hq' => exact False.elim hq'
  | .ok .brk, hq' => exact False.elim hq'
  | .ok .cont, hq' => exact False.elim hq'
def tMakeS (C : Addr) (sp : Sp) (dvs : List V) (E : St → XK) (t : TA) : TE := fun σ H Q => t σ H fun vs H1 => ∀ x dx, H1 x = none → H1 dx = none → dx ≠ x → sp (.ref x :: (vs ++ dvs)) (upd (upd H1 dx (.own x)) x (.ins C dx [])) (fun v H2 => v = .non ∧ Q (.ref x) H2) (E σ)
theorem pe_makeS (M : Mk X.K C f) (G : FnOk X.prog X.w X.K X.mg X.base CX k f fd ps sp) (hr : Room (k + 1) X.A) (hg : Gl X x) (hm : X.mg x = some (.ref C)) (hb : Binds X.K fd ps ds) (hd : Vals dvs ds) (hx : ∀ σ, PassesAt CX X σ (E σ))
    (ha : PA X (e :: es) t) (hdb : (x == ("__debug__" : Str)) = false := by decide) (he : starEach (e :: es) X.env = (false, eval e X.env) :: starEach es X.env := by rfl) (hpl : (backTo pos (starEach es X.env)).any (·.1) = false := by rfl) :
    PE X (.Call (.Name x p) (e :: es) [] pos) (tMakeS C sp dvs E t) :=
  ⟨fun pins s σ H Q I h => wpAny_Call_Name_kw (ld_glob I hg hm (PySem.W.callWith_K (h₀ := X.base) I.ok.mod.kin M.kp (thn (ha.run pos pins s σ H _ I h) fun us s1 ⟨vs, H1, I1, r, q⟩ => ⟨I1.kIn, run_makeAt M G hr hb hd (hx σ) I1 r q⟩) he hpl) hdb)⟩
end
def madeOf (c : Str) (r : RV) (s : Option (Option SV)) : Option (List (Str × D)) := match r, s with
  | .fz .non, some (some (.ow true (.ob c' fs))) => if c' = c then some fs else none
  | _, _ => none
theorem madeOf_some {c : Str} {r : RV} {s : Option (Option SV)} {fs : List (Str × D)} (h : madeOf c r s = some fs) : r = .fz .non ∧ s = some (some (.ow true (.ob c fs))) := by
  unfold madeOf at h
  split at h
  · split at h
    · rename_i e; cases h; rw [e]; exact ⟨rfl, rfl⟩
    · cases h
  · cases h
def eMake (c : Str) (m : FSem) (dds : List D) (fs : List ESem) : ESem := fun ρ => (eP fs ρ).bind fun rs ρ1 => match argsOf ρ1 (rs ++ dds.map .fz) with
  | some as => if (slotsOf rs).Nodup then (match m (.ow true (.ob c []) :: as) with
    | .ok r ρa => (match madeOf c r ρa.head? with
      | some fs => .ok (.fz (.ins c fs)) (back ρ1 (rs ++ dds.map .fz) ρa.tail)
      | none => .no)
    | .ex c fs ρa => .ex c fs (back ρ1 (rs ++ dds.map .fz) ρa.tail)
    | .no => .no) else .no
  | none => .no
end DL
end
section
/-! E10: an instance made. -/
namespace DL
open PySem PySem.Spec L2
section
variable {X : Cx} {I : Addr → Value → Option Addr → Prop} {W : WX} {k : Nat} {f C : Addr} {fd : FuncData} {ps : List Str} {x : Str} {p pos : Pos} {e : Expr} {es : List Expr} {fs : List ESem} {m : FSem} {n : Nat} {dvs : List V} {ds : List Value} {dds : List D}
theorem se_make (M : Mk X.K C f) (G : FnOk X.prog X.w X.K X.mg X.base (L2.CX X.prog X.w) k f fd ps (spOf (bas X I0) (n + 1) m)) (hr : Room (k + 1) X.A) (hg : Gl X x) (hm : X.mg x = some (.ref C)) (hb : Binds X.K fd ps ds) (hd : Vals dvs ds) (hdr : ∀ F, RepL (bas X I) F dvs dds) (tk : Takes X W)
    (ha : SA X I W (e :: es) (eP fs)) (hn : fs.length + dds.length = n) (hdb : (x == ("__debug__" : Str)) = false := by decide) (he : starEach (e :: es) X.env = (false, eval e X.env) :: starEach es X.env := by rfl) (hpl : (backTo pos (starEach es X.env)).any (·.1) = false := by rfl) :
    SE X I W (.Call (.Name x p) (e :: es) [] pos) (eMake x m dds fs) := by
  obtain ⟨t, q, mm⟩ := ha
  refine ⟨_, pe_makeS (E := fun σ cls d H => W cls d σ H) M G hr hg hm hb hd (fun σ => passAt tk σ) q hdb he hpl, fun F ρ σ H R Q hq => ?_⟩
  rw [eMake, Out.OK_bind] at hq
  cases ee : eP fs ρ with
  | no => rw [ee] at hq; exact hq.elim
  | ex c gs ρ1 => exact mm F ρ σ H R _ (by rw [ee] at hq ⊢; exact hq)
  | ok rs ρ1 =>
    refine mm F ρ σ H R _ ?_
    rw [ee] at hq ⊢
    refine fun F1 H1 vs S1 L1 R1 pr => ?_
    cases ea : argsOf ρ1 (rs ++ dds.map .fz) with
    | none => simp only [Out.OK, ea] at hq
    | some as =>
      simp only [Out.OK, ea] at hq
      have nd : (slotsOf rs).Nodup := Classical.byContradiction fun nd => by rw [if_neg nd] at hq; exact hq
      rw [if_pos nd] at hq
      refine fun a dx hx hdx hne => ?_
      -- the new object, in a slot of its own
      obtain ⟨R2, S2⟩ := R1.alloc (u := .own a) hdx
      obtain ⟨R2, S2⟩ := R2.freeze (S1.trans S2) upd_same (noF R1 hdx) (S1.dom _ hdx) (nohas R1 hdx)
      have hx2 : upd H1 dx (.own a) a = none := by rw [upd_ne (Ne.symm hne)]; exact hx
      obtain ⟨R3, S3⟩ := R2.alloc (u := .ins C dx []) hx2
      have S3 := S2.trans S3
      have fa : upd F1 dx (.own a) a = none := noF R2 hx2
      have ro : RepO (bas X I) (upd F1 dx (.own a)) (upd (upd H1 dx (.own a)) a (.ins C dx [])) a (.ob x []) := ⟨C, dx, [], hm, upd_same, upd_same, .nil⟩
      obtain ⟨R4, S4⟩ := R3.tmp S3 fa ro (S1.dom _ hx) (nohas R2 hx2)
      have pr0 := pr.app (PR.ofL (hdr F1))
      have pr1 : PR (bas X I) (upd F1 dx (.own a)) ρ1 σ (vs ++ dvs) (rs ++ dds.map .fz) := pr0.next (fun c o g => by rw [upd_ne (ne_of_none g (noF R1 hdx))]; exact g) (Live.refl _)
      have gl : (ρ1 ++ [some (SV.ow false (.ob x []))])[ρ1.length]? = some (some (.ow false (.ob x []))) := by simp
      have gs : (σ ++ [some (V.ref a)])[ρ1.length]? = some (some (.ref a)) := by rw [← R1.len]; simp
      have pr2 : PR (bas X I) (upd F1 dx (.own a)) (ρ1 ++ [some (.ow false (.ob x []))]) (σ ++ [some (.ref a)]) (.ref a :: (vs ++ dvs)) (.sl ρ1.length :: (rs ++ dds.map .fz)) := .sl gs gl pr1.tmp
      have sl := pr1.slots
      have nd2 : (slotsOf (.sl ρ1.length :: (rs ++ dds.map .fz))).Nodup := by
        show (ρ1.length :: slotsOf (rs ++ dds.map .fz)).Nodup
        exact List.nodup_cons.mpr ⟨fun z => Nat.lt_irrefl _ (sl _ z), by rw [slots_app]; exact nd⟩
      have ea2 : argsOf (ρ1 ++ [some (.ow false (.ob x []))]) (.sl ρ1.length :: (rs ++ dds.map .fz)) = some (.ow true (.ob x []) :: as) := by
        simp only [argsOf, argSV, gl, args_tmp pr1, ea]
      have bk : ∀ ρa, back (ρ1 ++ [some (.ow false (.ob x []))]) (.sl ρ1.length :: (rs ++ dds.map .fz)) ρa = back ρ1 (rs ++ dds.map .fz) ρa.tail ++ [some (outSV ρa.head? false)] := fun ρa => by
        rw [back]
        have e1 : back1 (ρ1 ++ [some (.ow false (.ob x []))]) (.sl ρ1.length) ρa.head? = ρ1 ++ [some (outSV ρa.head? false)] := by
          unfold back1
          dsimp only
          rw [gl]
          dsimp only
          rw [List.set_append_right _ _ (Nat.le_refl _), Nat.sub_self]; rfl
        rw [e1, back_app _ _ _ sl]
      have aok := argsOf_ok ea2
      have R5 : Rel (bas X I0) (upd F1 dx (.own a)) (envOf (.ow true (.ob x []) :: as)) ((V.ref a :: (vs ++ dvs)).map some) (upd (upd H1 dx (.own a)) a (.ins C dx [])) := Rel.wi (B := bas X I) (I' := I0) aok (args_rel R4 pr2 nd2 ea2)
      have hlen : (SV.ow true (.ob x []) :: as).length = n + 1 := by
        rw [List.length_cons, args_len ea, List.length_append, List.length_map, eP_len ee, hn]
      refine ⟨_, _, hlen, aok, R5, ?_⟩
      cases em : m (.ow true (.ob x []) :: as) with
      | no => rw [em] at hq; exact hq.elim
      | ex c gs ρa =>
        rw [em] at hq
        refine fun F' H' cls dd f xr => ?_
        obtain ⟨S6, R6⟩ := call_back S4 R4 pr2 nd2 ea2 (FinR.wi (I' := I) f)
        rw [bk] at S6 R6
        exact hq F' H' cls dd S6.untmp R6.untmp (XR.wi (I' := I) xr)
      | ok r ρa =>
        rw [em] at hq
        refine fun F' H' v f r' => ?_
        obtain ⟨S6, R6⟩ := call_back S4 R4 pr2 nd2 ea2 (FinR.wi (I' := I) f)
        rw [bk] at S6 R6
        dsimp only at hq
        cases em2 : madeOf x r ρa.head? with
        | none => rw [em2] at hq; exact hq.elim
        | some gs2 =>
          rw [em2] at hq
          obtain ⟨e0, e1⟩ := madeOf_some em2
          rw [e1] at S6 R6
          have hv : v = .non := by subst e0; cases r'; rfl
          refine ⟨hv, ?_⟩
          have bl : (back ρ1 (rs ++ dds.map .fz) ρa.tail).length = ρ1.length := back_len _ _ _
          have gl2 : (back ρ1 (rs ++ dds.map .fz) ρa.tail ++ [some (outSV (some (some (SV.ow true (.ob x gs2)))) false)])[ρ1.length]? = some (some (.ow false (.ob x gs2))) := by
            rw [List.getElem?_append_right (by omega), bl, Nat.sub_self]; rfl
          obtain ⟨v6, g6, a6, e6, f6, C6, dx6, vs6, mg6, h6, own6, rf6⟩ := R6.sl _ _ gl2
          rw [gs] at g6
          injection g6 with g6; injection g6 with g6; subst g6
          injection e6 with e6; subst e6
          have noh : ∀ k, ¬ HasAt (back ρ1 (rs ++ dds.map .fz) ρa.tail) σ k a := fun k ⟨sv, q1, q2, q3⟩ => by
            have := R6.sep ρ1.length k a ⟨false, _, gl2, gs⟩ ⟨sv, get_app1 q1, q2, get_app1 q3⟩
            have := (List.getElem?_eq_some_iff.mp q1).1
            omega
          have h0 : H a = none := by
            rcases S6.own _ _ _ _ gl2 gs with ⟨_, z⟩ | ⟨o0, z, _⟩
            · exact z
            · have := (List.getElem?_eq_some_iff.mp z).1
              have := R.len; have := R1.len
              omega
          obtain ⟨R7, S7⟩ := R6.untmp.freeze S6.untmp h6 f6 h0 noh
          have mo : ∀ c o, F' c = some o → upd F' a (.ins C6 dx6 vs6) c = some o := fun c o g => by rw [upd_ne (ne_of_none g f6)]; exact g
          exact hq _ H' _ S7 (L1.trans back_live) R7 (.ins mg6 upd_same (mo _ _ own6) (rf6.mono mo))
end
end DL
end
section
/-! E11: == and != by an own __eq__, with either answer. -/
namespace DL
open PySem PySem.Spec L2

section
open PySem.W PyProof.Rows
variable {prog : Program} {w : World} {A : Around} {E : Value → Shared → Prop} {s : Shared} {K : Frag} {x C f : Addr} {ox : Obj} {od : Option Obj} {b tb : Value}
/-- a text's == behind != -/
theorem ne_K {Q : Value → Shared → Prop} (hu : A.units + 1 < cLine) (X : K.In s.heap) (I : InstAt s.heap x ox C od) (hb : Looks (model prog w) s.heap (typeOf b) tb) (hn : notFirst K C tb = true)
    (hne : findIn K (.ref C) "__ne__" = some (some (.builtin "object.__ne__"))) (hs : findIn K (.ref C) "__eq__" = some (some (.ref f))) (hf : isFn K (.ref f) = true) (hob : subIn K (.ref C) (.type "object") = some true)
    (h : wpAny (model prog w) A.in1 (call (.ref f) [.ref x, b]) (fun v s' => ∃ r, v = .bool r ∧ Q (.bool (!r)) s') E s) : wpAny (model prog w) A (richCompare .NotEq (.ref x) b) Q E s := by
  have S := F.cmp_object.ne
  have one : wpAny (model prog w) A (tryCompare (.ref x) "__ne__" b) (fun r s' => ∃ v, r = some v ∧ Q v s') E s := by
    unfold tryCompare
    refine wpAny_bind ?_
    simp only [callSpecialIfBound?, bindSpecialIfBound?]
    refine wpAny_holding (wpAny_bind (wpAny_bind (wpAny_bind (I.type.here ((looks_findIn X hne).here ?_)))))
    simp only [S.bind]
    refine wpAny_bind (wpAny_askSetting (wpAny_ite ?_))
    have run : wpAny (model prog w) A (call (.builtin "object.__ne__") [.ref x, b]) (fun v s' => ∃ r, v = .bool r ∧ Q (.bool r) s') E s := by
      refine wpAny_call (codeAny_call_builtin S.plain F.cmpEntry_ne (check_slot F.cmpKind_ne F.cmpSplit_ne (I.type.andThen (looks_subIn X hob)) (F.cmpArgs_ne _ _) ?_))
      unfold Builtin.«object.__ne__»
      refine wpAny_bind (wpAny_of_eq (a := ((Value.ref x : Value), [b])) (by first | rfl | (simp only [slotArgs]; rfl)) ?_)
      refine wpAny_bind (wpAny_cRoomFor hu ?_)
      refine wpAny_bind (ifBound_K X I hs hf (wpAny_mono h (fun v s' hv => ?_) fun _ _ e => e))
      obtain ⟨r, rfl, q⟩ := hv
      exact wpAny_bind (wpAny_truthy_bool (wpAny_pure ⟨!r, rfl, q⟩))
    have fin : wpAny (model prog w) A (call (.builtin "object.__ne__") ([.ref x] ++ [b]) >>= fun v => pure (some v)) (fun a s' => wpAny (model prog w) A (match a with
        | some .notImplemented | none => pure none
        | some v => pure (some v)) (fun r s' => ∃ v, r = some v ∧ Q v s') E s') E s :=
      wpAny_bind (wpAny_mono run (fun v s' hv => by obtain ⟨r, rfl, q⟩ := hv; exact wpAny_pure (wpAny_pure ⟨_, rfl, q⟩)) fun _ _ h' => h')
    split
    · exact wpAny_bind (wpAny_pure (wpAny_pure fin))
    · exact wpAny_tryCatch (wpAny_bind (wpAny_pure (wpAny_pure fin)))
  unfold richCompare
  simp only [oneThing_ref]
  refine wpAny_holding (wpAny_bind (wpAny_cRoomFor (Nat.lt_of_succ_lt hu) ?_))
  refine wpAny_bind (I.type.here (wpAny_bind (hb.here ?_)))
  split
  · rename_i q
    have e : subIn K tb (.ref C) = some false := by
      rcases Bool.or_eq_true_iff.mp hn with e | e
      · rw [beq_iff_eq.mp e] at q; simp at q
      · exact beq_iff_eq.mp e
    refine wpAny_bind ((looks_subIn X e).here ?_)
    simp only [Bool.false_eq_true, if_false]
    refine wpAny_bind (wpAny_mono one (fun r s' z => ?_) fun _ _ e => e)
    obtain ⟨v, rfl, hq⟩ := z
    exact wpAny_pure hq
  · refine wpAny_bind (wpAny_pure ?_)
    simp only [Bool.false_eq_true, if_false]
    refine wpAny_bind (wpAny_mono one (fun r s' z => ?_) fun _ _ e => e)
    obtain ⟨v, rfl, hq⟩ := z
    exact wpAny_pure hq
end
end DL
end
section
/-! E12: == and != by an own __eq__: the rules. -/
namespace DL
open PySem PySem.Spec L2

structure OwnEqC (K : PySem.W.Frag) (C f : Addr) : Prop where
  eq : PySem.W.findIn K (.ref C) "__eq__" = some (some (.ref f))
  ne : PySem.W.findIn K (.ref C) "__ne__" = some (some (.builtin "object.__ne__"))
  fn : PySem.W.isFn K (.ref f) = true
  ob : PySem.W.subIn K (.ref C) (.type "object") = some true
def rOwnEq (K : PySem.W.Frag) (C : Addr) (neg : Bool) (sp : Sp) : R2 := fun x y H Q => ∃ (a dx : Addr) (fs : List (Str × V)) (t : Value), x = .ref a ∧ H a = some (.ins C dx fs) ∧ TyX K H y t ∧ PySem.W.notFirst K C t = true ∧ sp [x, y] H (fun v H' => ∃ b, v = .bl b ∧ Q (.bl (b != neg)) H') (fun _ _ _ => False)
section
variable {X : Cx} {k : Nat} {f C : Addr} {fd : FuncData} {ps : List Str} {sp : Sp}
theorem own_run {pins : List (Addr × Obj)} {σ : St} {H : Hp} {s : Shared} {x y : V} {v u : Value} {A : Around} (G : FnOk X.prog X.w X.K X.mg X.base (L2.CX X.prog X.w) k f fd ps sp) (hr : Room k A) (hA : A.frames = X.A.frames) (hb : Binds X.K fd ps []) (hx : Passes (L2.CX X.prog X.w) X (fun _ _ _ => False))
    (I : Inv X pins σ H s) (rx : RelV x v) (ry : RelV y u) {q : Bool → Hp → Prop} (h : sp [x, y] H (fun v H' => ∃ b, v = .bl b ∧ q b H') (fun _ _ _ => False)) :
    wpAny (model X.prog X.w) A (call (.ref f) [v, u]) (fun r s' => ∃ b H', r = .bool b ∧ Inv X pins σ H' s' ∧ q b H') X.xe s := by
  have r2 : Vals [x, y] [v, u] := .cons rx (.cons ry .nil)
  have hl := G.len _ _ _ _ h
  have b := hb s [v, u] I.kIn (by simpa using hl)
  rw [List.append_nil] at b
  have e := I.env0
  have e0 : Env0 X.prog X.w X.K X.mg X.base A X.stack s H := ⟨by rw [hA]; exact e.frames, e.mod, e.bs, e.bsz, e.funs, e.frf, e.hok, e.bare⟩
  refine wpAny_call (codeAny_mono (G.run A X.stack s H ⟨[v, u], []⟩ [v, u] [x, y] _ _ hr e0 b r2 h) fun r s' hq => ?_)
  match r, hq with
  | .error e, hq => exact hx pins σ H s e s' I hq
  | .ok (.ret w), hq =>
    obtain ⟨z, H', I', rz, bb, ez, q⟩ := I.after hq
    subst ez
    cases rz
    exact ⟨bb, H', rfl, I', q⟩
  | .ok .next, hq => exact False.elim hq
  | .ok .brk, hq => exact False.elim hq
  | .ok .cont, hq => exact False.elim hq
theorem op_ownEq (T : OwnEqC X.K C f) (G : FnOk X.prog X.w X.K X.mg X.base (L2.CX X.prog X.w) k f fd ps sp) (hr : Room k X.A) (hb : Binds X.K fd ps []) (hx : Passes (L2.CX X.prog X.w) X (fun _ _ _ => False)) : OpR X (compareOp .Eq) (rOwnEq X.K C false sp) := by
  intro pins s σ H x y v u Q I rx ry h
  obtain ⟨a, dx, fs, t, rfl, ha, ty, hn, h⟩ := h
  cases rx
  show wpAny (model X.prog X.w) X.A (richCompare .Eq (.ref a) u) (EP X pins σ Q) X.xe s
  obtain ⟨mA, J, _⟩ := ins_get I.hok ha
  obtain ⟨od, J, _⟩ := J.look
  obtain ⟨P, Z, p, _⟩ := kit_of I ry ty
  obtain ⟨m, hF⟩ := I.fr
  refine PySem.W.cmp_K (op := .Eq) hr.units0 hF I.ok.mod.kin J (Z.ty _ _ I.kIn p) hn T.eq T.fn ?_
  refine wpAny_mono (own_run (x := .ref a) G hr rfl hb hx I (show RelV (.ref a) (.ref a) from rfl) ry h) (fun r s' hq => ?_) fun _ _ e => e
  obtain ⟨b, H', rfl, I', q⟩ := hq
  exact ⟨.bl (b != false), H', I', by cases b <;> rfl, q⟩
theorem op_ownNe (T : OwnEqC X.K C f) (G : FnOk X.prog X.w X.K X.mg X.base (L2.CX X.prog X.w) k f fd ps sp) (hr : Room (k + 1) X.A) (hb : Binds X.K fd ps []) (hx : Passes (L2.CX X.prog X.w) X (fun _ _ _ => False)) : OpR X (compareOp .NotEq) (rOwnEq X.K C true sp) := by
  intro pins s σ H x y v u Q I rx ry h
  obtain ⟨a, dx, fs, t, rfl, ha, ty, hn, h⟩ := h
  cases rx
  show wpAny (model X.prog X.w) X.A (richCompare .NotEq (.ref a) u) (EP X pins σ Q) X.xe s
  obtain ⟨mA, J, _⟩ := ins_get I.hok ha
  obtain ⟨od, J, _⟩ := J.look
  obtain ⟨P, Z, p, _⟩ := kit_of I ry ty
  refine ne_K (by have := hr.units; omega) I.kIn J (Z.ty _ _ I.kIn p) hn T.ne T.eq T.fn T.ob ?_
  refine wpAny_mono (own_run (x := .ref a) G hr.in1 rfl hb hx I (show RelV (.ref a) (.ref a) from rfl) ry h) (fun r s' hq => ?_) fun _ _ e => e
  obtain ⟨b, H', rfl, I', q⟩ := hq
  exact ⟨b, rfl, .bl (b != true), H', I', by cases b <;> rfl, q⟩
end
/-- whom the comparison asks: c the class, the types and classes that are no part of it -/
def eqAsk (c : Str) (tys : List String) (cls : List Str) : D → Bool
  | .ins c2 _ => decide (c2 = c ∨ c2 ∈ cls)
  | .lst _ => false
  | .dK _ => false
  | .dT _ => false
  | .ktp _ => false
  | y => decide (tyD y ∈ tys)
/-- over data: m what the class's __eq__ computes -/
def ownEqD (c : Str) (neg : Bool) (m : FSem) (tys : List String) (cls : List Str) : D → D → Option RV
  | .ins c' fs, y => if c' = c then (if eqAsk c tys cls y = true then (match m [.fz (.ins c' fs), .fz y] with
    | .ok (.fz (.bl b)) _ => some (.fz (.bl (b != neg)))
    | _ => none) else none) else none
  | _, _ => none
theorem lk_all {α : Type} [BEq α] [LawfulBEq α] {x : α} : ∀ {l : List α}, x ∈ l → (l.map fun y => (y, true)).lookup x = some true
  | z :: r, h => by
    simp only [List.map_cons, List.lookup]
    cases q : x == z with
    | true => rfl
    | false =>
      rcases List.mem_cons.mp h with e | h
      · rw [e] at q; simp at q
      · exact lk_all h
structure OwnEqT (K : PySem.W.Frag) (mg : Str → Option Value) (c : Str) (C : Addr) (tys : List String) (cls : List Str) : Prop where
  at_ : mg c = some (.ref C)
  cl : TyC K C
  ty : ∀ T ∈ tys, PySem.W.subIn K (.type T) (.ref C) = some false
  own : ∀ c2 ∈ cls, ∃ C2, mg c2 = some (.ref C2) ∧ TyC K C2 ∧ PySem.W.notFirst K C (.ref C2) = true
theorem nf_ty {K : PySem.W.Frag} {C : Addr} {t : Value} (h : PySem.W.subIn K t (.ref C) = some false) : PySem.W.notFirst K C t = true := by
  unfold PySem.W.notFirst
  rw [h]; simp
theorem ops_ownEq {B : Bas} {c : Str} {C : Addr} {neg : Bool} {m : FSem} {tys : List String} {cls : List Str} (T : OwnEqT B.K B.mg c C tys cls) : OpS B (rOwnEq B.K C neg (spOf (B.wi I0) 2 m)) (ownEqD c neg m tys cls) := by
  intro F ρ σ H v u x y rv R hv hu e Q q
  cases x with
  | ins c' fs =>
    simp only [ownEqD] at e
    by_cases ec : c' = c
    · rw [if_pos ec] at e
      by_cases hy : eqAsk c tys cls y = true
      · rw [if_pos hy] at e
        subst ec
        have hv1 : Rep B F v (.ins c' fs) := hv.elim id fun ⟨a, o, _, z, _⟩ => by cases o <;> cases z
        have hu1 : Rep B F u y := hu.elim id fun ⟨a, o, _, z, _⟩ => by cases o <;> cases z <;> cases hy
        obtain ⟨a, dx, vs, ev, hH⟩ : ∃ a dx vs, v = .ref a ∧ H a = some (.ins C dx vs) := by
          cases hv1 with
          | ins g hi _ _ =>
            have g' := T.at_
            rw [g] at g'
            injection g' with g'; injection g' with g'; subst g'
            exact ⟨_, _, _, rfl, R.ext _ _ hi⟩
        subst ev
        have I2 : IsiOk B.K B.mg (fun t => if PySem.W.notFirst B.K C t then some true else none) (tys.map fun T => (T, true)) ((c' :: cls).map fun c => (c, true)) := by
          refine ⟨fun p hp => ?_, fun p hp => ?_⟩
          · obtain ⟨T0, h0, rfl⟩ := List.mem_map.mp hp
            show (if PySem.W.notFirst B.K C (.type T0) then some true else none) = some true
            rw [if_pos (nf_ty (T.ty _ h0))]
          · obtain ⟨c2, h0, rfl⟩ := List.mem_map.mp hp
            rcases List.mem_cons.mp h0 with h0 | h0
            · subst h0; exact ⟨C, T.at_, T.cl, by rw [if_pos (by unfold PySem.W.notFirst; simp)]⟩
            · obtain ⟨C2, g1, g2, g3⟩ := T.own _ h0
              exact ⟨C2, g1, g2, by rw [if_pos g3]⟩
        have ei : isiD (tys.map fun T => (T, true)) ((c' :: cls).map fun c => (c, true)) y = some (.fz (.bl true)) := by
          cases y with
          | ins c2 _ => simp only [isiD]; rw [lk_all (List.mem_cons.mpr (of_decide_eq_true hy))]; rfl
          | lst _ => cases hy
          | dK _ => cases hy
          | dT _ => cases hy
          | ktp _ => cases hy
          | _ => simp only [isiD]; rw [lk_all (of_decide_eq_true hy)]; rfl
        obtain ⟨t, b, ty, h2, _⟩ := isi_ty I2 R.ext (.inl hu1) ei
        have nf : PySem.W.notFirst B.K C t = true := by
          by_cases z : PySem.W.notFirst B.K C t = true
          · exact z
          · rw [if_neg z] at h2; cases h2
        have pr : PR B F ρ σ [.ref a, u] [.fz (.ins c' fs), .fz y] := .fz hv1 (.fz hu1 .nil)
        refine ⟨a, dx, vs, t, rfl, hH, ty, nf, F, [.fz (.ins c' fs), .fz y], rfl, rfl, Rel.wi (B := B) (I' := I0) rfl (args_rel (as := [.fz (.ins c' fs), .fz y]) R pr .nil rfl), ?_⟩
        cases em : m [.fz (.ins c' fs), .fz y] with
        | ok r ρa =>
          rw [em] at e
          refine fun F' H' w f r' => ?_
          cases r with
          | fz d =>
            cases d with
            | bl b =>
              simp only [Option.some.injEq] at e
              subst e
              have hw : w = .bl b := by cases r'; rfl
              obtain ⟨S2, R2⟩ := call_back (as := [.fz (.ins c' fs), .fz y]) (Stp.refl F ρ σ H) R pr .nil rfl (FinR.wi (B := B.wi I0) (I' := B.XI) f)
              exact ⟨b, hw, q F' H' _ S2 R2 (.bl _)⟩
            | _ => cases e
          | _ => cases e
        | ex c2 fs2 ρa => rw [em] at e; cases e
        | no => rw [em] at e; cases e
      · rw [if_neg hy] at e; cases e
    · rw [if_neg ec] at e; cases e
  | _ => cases e
end DL
end
section
/-! E13: defs that are called where no repr runs (for repr of lists): promise, rule, call, law's end. -/
namespace DL
open PySem PySem.Spec L2 PyProof.Rows

/-- no list is being shown -/
abbrev NoG (A : Around) : Prop := A.guards = some []
structure FnG (P : Program) (w : World) (K : PySem.W.Frag) (mg : Str → Option Value) (base : Heap) (k : Nat) (f : Addr) (fd : FuncData) (ps : List Str) (sp : Sp) : Prop where
  len : ∀ vs H Q E, sp vs H Q E → vs.length = ps.length
  run : ∀ (A : Around) (outer : List PySem.Env) (s : Shared) (H : Hp) (args : Args) (us : List Value) (vs : List V) (Q : VK) (E : XK), NoG A → Room k A → Env0 P w K mg base A outer s H → BindsTo s fd args (ps.zip us) → Vals vs us → sp vs H Q E →
    codeAny (model P w) A (.call (.ref f) args) (CR (L2.CX P w) outer P w H s Q E) s
section
variable {P : Program} {w : World} {K : PySem.W.Frag} {mg : Str → Option Value} {base : Heap} {k : Nat} {f : Addr} {fd : FuncData} {ps : List Str} {sp : Sp}
theorem FnG.of (G : FnOk P w K mg base (L2.CX P w) k f fd ps sp) : FnG P w K mg base k f fd ps sp := ⟨G.len, fun A outer s H args us vs Q E _ => G.run A outer s H args us vs Q E⟩
theorem FnG.mono {j : Nat} (G : FnG P w K mg base j f fd ps sp) (h : j ≤ k) : FnG P w K mg base k f fd ps sp := ⟨G.len, fun A outer s H args us vs Q E hg hr => G.run A outer s H args us vs Q E hg (hr.mono h)⟩
/-- by its body -/
theorem fnG_of {x qual : Str} {params : Arguments} {body : List Stmt} {scope : Scope} {dvs : List V} {kws : List (Str × V)} {N : List Str} (Fn : FunD K x qual params body scope dvs kws f fd) (S : FnScope N ps scope) (len : ∀ vs H Q E, sp vs H Q E → vs.length = ps.length)
    (hbody : ∀ (cdv : Value) (A : Around) (outer : List PySem.Env) (s : Shared) (H : Hp) (vs : List V) (Q : VK) (E : XK), NoG (A.deeper (PyProof.Rows.envOfC qual scope s.heap.objs.size f cdv)) → Room k (A.deeper (PyProof.Rows.envOfC qual scope s.heap.objs.size f cdv)) → sp vs H Q E →
      ∃ t, PSs (cxOf (L2.CX P w) P w K mg base N qual scope f cdv A outer s H E) body t ∧ t { nx := fun _ H' => Q .non H', rt := Q } (L2.start N vs) H) : FnG P w K mg base (k + 1) f fd ps sp := by
  obtain ⟨oc, od, dV, kV, doc, pm, an, cdv, ct, osl, rfl, lk, hcd, _, _⟩ := Fn.ex
  refine ⟨len, fun A outer s H args us vs Q E hg hr e0 hb r hsp => ?_⟩
  have kp : ∀ b o, base.get? b = some o → s.heap.get? b = some o := fun b o e => (e0.bs b o e).1
  have KX : K.In s.heap := e0.mod.kin.keeps kp
  have hkind : ∀ y ∈ ps.zip us, scope.names.lookup y.1 = some .local ∨ (scope.names.lookup y.1 = some .cell ∧ ((cellsFrom (s.heap.objs.size + 1) scope.names []).lookup y.1).isSome = true) := fun y hy => by
    rcases S.par y.1 (List.of_mem_zip (show (y.1, y.2) ∈ ps.zip us from hy)).1 with q | q
    · exact .inl q
    · exact .inr ⟨q, PySem.W.cellsFrom_some _ _ _ (.inl q)⟩
  refine codeAny_call_function hr.depth (KX _ _ lk) rfl S.co S.gen rfl (PySem.W.codeRec_of KX hcd) (hb _ _ _ _ (wpAny_newFunctionEnv_cells S.kind hkind fun env he s1 x => ?_))
  subst he
  obtain ⟨t, ht, hq⟩ := hbody cdv A outer s H vs Q E hg (hr.deeper _) hsp
  have I := inv_start (CX := L2.CX P w) (E := E) S hr.hd e0 (len _ _ _ _ hsp) r x
  refine ⟨(e0.mod.nolimit.keeps kp).keeps x.toInCall.keep, codeAny_func (wpAny_mono (ht.run [] s1 (L2.start N vs) H _ I hq) (fun fl s' hs => ?_) fun _ _ h => h)⟩
  match fl, hs with
  | .ret u, ⟨v, σ', H', J, rv, q⟩ => exact ⟨v, H', J.os, J.bare, J.base, J.hok, rv, q⟩
  | .next, ⟨σ', H', J, q⟩ => exact ⟨.non, H', J.os, J.bare, J.base, J.hok, rfl, q⟩
  | .brk, ⟨_, _, _, q⟩ => exact False.elim q
  | .cont, ⟨_, _, _, q⟩ => exact False.elim q
end
/-- the law's call, by its promise -/
theorem law_callG {P : Program} {w : World} {K : PySem.W.Frag} {mg mb : Str → Option Value} {k : Nat} {fa a : Addr} {fd : FuncData} {x : Str} {sp : Sp} {s₁ : Shared} {vs : List Value} {ns : List Int}
    (KX : K.In s₁.heap) (hns : s₁.heap.Ns mainGlobals mg) (hb : s₁.heap.Ns builtinsNs mb) (hbb : ∀ x : Str, x ≠ "__name__" → mb x = bootBuiltins x) (hlim : s₁.heap.NoLimit) (hg : s₁.gens = #[])
    (ha : s₁.heap.get? a = some { cls := .type "list", data := .seq vs.toArray }) (hi : IntsAre vs ns) (hl : ns.length ≤ sizeLine) (hr : Room k callerA)
    (G : ∀ base : Heap, K.In base → base.Ns mainGlobals mg → FnG P w K mg base k fa fd [x] sp) (hbind : ∀ (s : Shared) (u : Value), BindsTo s fd ⟨[u], []⟩ [(x, u)])
    (hsp : ∀ H : Hp, Only H → SqL K H a (ns.map V.int) → sp [.ref a] H (fun v _ => v = .bl true) fun _ _ _ => False)
    (hCX : ∀ H e s', L2.CX P w [] H s₁ (fun _ _ _ => False) e s' → False) :
    codeAny (model P w) callerA (.call (.ref fa) ⟨[.ref a], []⟩) (fun r s' => r = .ok (.ret (.bool true)) ∧ OldK s₁.heap s'.heap ∧ s'.os = s₁.os ∧ AllBare s'.gens) s₁ := by
  have rv := vals_ints hi
  -- what is tracked: the script, unless it is one of the module's own objects
  obtain ⟨H, hO, hS, hok, hA, hK⟩ : ∃ H : Hp, Only H ∧ SqL K H a (ns.map V.int) ∧ HOk P w H s₁.heap ∧ (∀ b, H b ≠ none → b = a) ∧ (H a ≠ none → K.lookup a = none) := by
    cases hk : K.lookup a with
    | some o =>
      have e := KX a o hk
      rw [ha] at e; cases e
      exact ⟨fun _ => none, fun _ => .inl rfl, .inr ⟨_, vs.toArray, _, hk, rfl, rfl, rfl, by rw [List.size_toArray, hi.length]; exact hl, by simpa using rv⟩, (fun b u z => nomatch (show (none : Option HO) = some u from z)), fun b z => absurd rfl z, fun z => absurd rfl z⟩
    | none =>
      refine ⟨upd (fun _ => none) a (.frz { cls := .type "list", data := .seq vs.toArray } (.lst (ns.map V.int))), fun b => ?_, .inl (.inr ⟨_, upd_same⟩), fun b u z => ?_, fun b z => ?_, fun _ => rfl⟩
      · by_cases hb : b = a
        · subst hb; exact .inr ⟨_, _, upd_same⟩
        · exact .inl (upd_ne hb)
      · by_cases hb : b = a
        · subst hb
          rw [upd_same] at z; cases z
          exact ⟨ha, by rw [List.length_map]; exact hl, vs, _, rv, ha⟩
        · rw [upd_ne hb] at z; cases z
      · by_cases hb : b = a
        · exact hb
        · exact absurd (upd_ne hb) z
  have free : ∀ {b : Addr}, b ≠ a → H b = none := fun {b} hb => by
    cases q : H b with
    | none => rfl
    | some u => exact absurd (hA b (by rw [q]; exact fun z => nomatch z)) hb
  have dict : ∀ {b : Addr} {o : Obj} {es : Array DictEntry} {ep : Nat}, s₁.heap.get? b = some o → o.data = .dict es ep → b ≠ a := fun {b o es ep} e d z => by
    rw [z, ha] at e; cases e; cases d
  have nsK : ∀ {b : Addr} {m : Str → Option Value}, s₁.heap.Ns b m → (hidT s₁.heap H).Ns b m := fun {b m} ⟨o, es, ep, e, d, r⟩ => ⟨o, es, ep, hidT_get e (free (dict e d)), d, r⟩
  have hKb : K.In (hidT s₁.heap H) := fun b o e => hidT_get (KX b o e) (by
    cases q : H b with
    | none => rfl
    | some u =>
      have e' : b = a := hA b (by rw [q]; exact fun z => nomatch z)
      subst e'
      rw [hK (by rw [q]; exact fun z => nomatch z)] at e; cases e)
  have hM : Mod K mg (hidT s₁.heap H) := ⟨hKb, nsK hns, ⟨mb, nsK hb, hbb⟩, let ⟨mc, h1, h2⟩ := hlim; ⟨mc, nsK h1, h2⟩⟩
  have nil : ∀ {b : Addr}, b ∉ ([] : List Addr) := fun {b} z => nomatch z
  have e0 : Env0 P w K mg (hidT s₁.heap H) callerA [] s₁ H := ⟨rfl, hM, fun b o e => of_hidT e, Nat.le_of_eq (hidT_size _ _), trivial, fun b z => absurd z nil, hok, .of_eq hg⟩
  refine codeAny_mono ((G _ hKb (nsK hns)).run callerA [] s₁ H ⟨[.ref a], []⟩ [.ref a] [.ref a] _ _ rfl hr e0 (hbind s₁ (.ref a)) (.cons rfl .nil) (hsp H hO hS)) fun r s' h => ?_
  match r, h with
  | .error e, h => exact (hCX H e s' h).elim
  | .ok .next, h => exact False.elim h
  | .ok .brk, h => exact False.elim h
  | .ok .cont, h => exact False.elim h
  | .ok (.ret u), ⟨v, H', os, bare, un, hok', r', q⟩ =>
    cases (show v = .bl true from q)
    cases (show u = Value.bool true from r')
    refine ⟨rfl, OldK.of_keep fun b o e => ?_, os, bare⟩
    cases q : H b with
    | none => exact un.keep b o e q nil (by simp)
    | some u =>
      rcases hO b with z | ⟨ob, xs, z⟩
      · rw [q] at z; cases z
      · obtain ⟨e1, _⟩ := hok b _ z
        obtain ⟨e2, _⟩ := hok' b _ (un.frzs b ob _ z)
        rw [e] at e1; cases e1
        exact e2
theorem walk_G {l : PySem.W.OpenLaw} {n k : Nat} {q : Program} {loose : List Str} {XP : (Str → Option Value) → Heap → Prop} {YP : World → Heap → Prop} {d : DefRec} {x : Str}
    (hn : l.most = some n) (hn2 : n ≤ sizeLine) (hdf : d.params.defaults = []) (hr : Room k callerA)
    (G : ∀ (w : World) (mg : Str → Option Value) (fa : Addr) (h : Heap), YP w h → h.Ns mainGlobals mg → mg d.name = some (.ref fa) →
      ∃ (K : PySem.W.Frag) (fd : FuncData) (sp : Sp), K.In h ∧ (∀ (s : Shared) (u : Value), BindsTo s fd ⟨[u], []⟩ [(x, u)]) ∧
        (∀ (H : Hp) (a : Addr) (ns : List Int), ns.length ≤ n → Only H → SqL K H a (ns.map V.int) → sp [.ref a] H (fun v _ => v = .bl true) fun _ _ _ => False) ∧
        ∀ base : Heap, K.In base → base.Ns mainGlobals mg → FnG l.prog w K mg base k fa fd [x] sp)
    (hCX : ∀ (w : World) (H : Hp) (s : Shared) (e : Value) (s' : Shared), L2.CX l.prog w [] H s (fun _ _ _ => False) e s' → False) :
    PySem.W.WalkO q loose XP YP l.row.toRowW d [] (fun f vs => PySem.call f vs) := by
  refine Att.attach_call hn hdf fun w s₀ s₁ mg mb fa o pm cd doc a vs ns Gr Y ho hd hcd hmg hobj hints hlen hg => ?_
  obtain ⟨K, fd, sp, KX, hb, hsp, hF⟩ := G w mg fa _ Y Gr.T.g hmg
  exact law_callG KX Gr.T.g Gr.T.b Gr.T.builtins Gr.T.nolimit hg hobj hints (Nat.le_trans hlen hn2) hr hF hb (fun H hO hS => hsp H a ns hlen hO hS) fun H e s' => hCX w H s₁ e s'
end DL
end
section
/-! E14: calls of defs where no repr runs; repr; join; list(range(n)); properties. -/
namespace DL
open PySem PySem.Spec L2

/-! ### defs of that kind over data -/
section
variable {P : Program} {w : World} {K : PySem.W.Frag} {mg : Str → Option Value} {base : Heap}
/-- what a def's end says, from its body's function -/
theorem body_ends {N ps : List Str} {g : SSem} {W : WX} {t : TS} {vs : List V} {H : Hp} {Q : VK} {E : XK} (hW : W = fun cls d _ H => E cls d H) (m : SemS ⟨K, mg, I0⟩ W t g) (h : spOf ⟨K, mg, I0⟩ ps.length (runB g N.length) vs H Q E) : t { nx := fun _ H' => Q .non H', rt := Q } (L2.start N vs) H := by
  subst hW
  have hlen := spOf_len vs H Q E h
  obtain ⟨F, as, hn, ha, R, hq⟩ := h
  have hl : vs.length = as.length := hlen.trans hn.symm
  refine m F _ (L2.start N vs) H (start_rel hl rfl R) _ ?_
  unfold runB at hq
  have noF' : ∀ (k : Nat) (o0 : OB), (envOf as ++ List.replicate (N.length - as.length) none)[k]? ≠ some (some (.ow false o0)) := fun k o0 h => by
    rcases get_app h with h | h
    · unfold envOf at h
      rw [List.getElem?_map] at h
      cases w : as[k]? with
      | none => rw [w] at h; cases h
      | some u =>
        rw [w] at h; injection h with h; injection h with h; subst h
        have := List.all_eq_true.mp ha _ (List.mem_of_getElem? w)
        cases this
    · exact absurd (List.eq_of_mem_replicate h) (by simp)
  cases e : g (envOf as ++ List.replicate (N.length - as.length) none) with
  | nx ρ' => rw [e] at hq; exact fun F' σ' H' S' R' => hq F' H' .non (fin_of hl rfl S' R') Rep.non
  | rt r ρ' =>
    rw [e] at hq
    refine fun F' σ' H' v S' R' r' => hq F' H' v (fin_of hl rfl S' R') ?_
    cases r with
    | fz d => exact r'
    | sl i => exact r'
    | fr o =>
      obtain ⟨a, e1, h1, h2, h3⟩ := r'
      rcases h3 with h3 | ⟨k, o0, h3, _⟩
      · exact ⟨a, e1, h3, h1, h2⟩
      · exact absurd h3 (noF' k o0)
  | bk ρ' => rw [e] at hq; exact hq.elim
  | ct ρ' => rw [e] at hq; exact hq.elim
  | ex c fs ρ' => rw [e] at hq; exact fun F' σ' H' cls dd S' R' x => hq F' H' cls dd (fin_of hl rfl S' R') x
  | no => rw [e] at hq; exact hq.elim
theorem fn_dataG {x qual : Str} {params : Arguments} {body : List Stmt} {scope : Scope} {dvs : List V} {kws : List (Str × V)} {f : Addr} {fd : FuncData} {N ps : List Str} {k : Nat} {g : SSem} (Fn : FunD K x qual params body scope dvs kws f fd) (S : FnScope N ps scope)
    (hb : ∀ (cdv : Value) (A : Around) (outer : List PySem.Env) (s : Shared) (H : Hp) (E : XK), NoG (A.deeper (PyProof.Rows.envOfC qual scope s.heap.objs.size f cdv)) → Room k (A.deeper (PyProof.Rows.envOfC qual scope s.heap.objs.size f cdv)) →
      Takes (cxOf (L2.CX P w) P w K mg base N qual scope f cdv A outer s H E) (fun cls d _ H => E cls d H) →
      SSs (cxOf (L2.CX P w) P w K mg base N qual scope f cdv A outer s H E) I0 (fun cls d _ H => E cls d H) body g) :
    FnG P w K mg base (k + 1) f fd ps (spOf ⟨K, mg, I0⟩ ps.length (runB g N.length)) := by
  refine fnG_of Fn S (fun vs H Q E h => spOf_len vs H Q E h) fun cdv A outer s H vs Q E hg hr h => ?_
  obtain ⟨t, p, m⟩ := hb cdv A outer s H E hg hr (takes_of rfl rfl rfl rfl)
  exact ⟨t, p, body_ends rfl m h⟩
theorem fn_dataD {x qual : Str} {params : Arguments} {body : List Stmt} {scope : Scope} {dvs : List V} {kws : List (Str × V)} {f : Addr} {fd : FuncData} {N ps : List Str} {k : Nat} {g : SSem} (Fn : FunD K x qual params body scope dvs kws f fd) (S : FnScope N ps scope)
    (hb : ∀ (cdv : Value) (A : Around) (outer : List PySem.Env) (s : Shared) (H : Hp) (E : XK), Room k (A.deeper (PyProof.Rows.envOfC qual scope s.heap.objs.size f cdv)) →
      Takes (cxOf (L2.CX P w) P w K mg base N qual scope f cdv A outer s H E) (fun cls d _ H => E cls d H) →
      SSs (cxOf (L2.CX P w) P w K mg base N qual scope f cdv A outer s H E) I0 (fun cls d _ H => E cls d H) body g) :
    FnOk P w K mg base (L2.CX P w) (k + 1) f fd ps (spOf ⟨K, mg, I0⟩ ps.length (runB g N.length)) := by
  refine Fn.ok S (fun vs H Q E h => spOf_len vs H Q E h) fun cdv A outer s H vs Q E hr h => ?_
  obtain ⟨t, p, m⟩ := hb cdv A outer s H E hr (takes_of rfl rfl rfl rfl)
  exact ⟨t, p, body_ends rfl m h⟩
end
section
variable {X : Cx} {k : Nat} {f : Addr} {fd : FuncData} {ps : List Str} {sp : Sp} {dvs : List V} {ds : List Value} {E : St → XK} {x : Str} {p pos : Pos} {e : Expr} {es : List Expr} {t : TA}
theorem pe_callG (G : FnG X.prog X.w X.K X.mg X.base k f fd ps sp) (hgd : NoG X.A) (hr : Room k X.A) (hg : Gl X x) (hm : X.mg x = some (.ref f)) (hk : PySem.W.keepIn X.K (.ref f) = true) (hb : Binds X.K fd ps ds) (hd : Vals dvs ds) (hx : ∀ σ, PassesAt (L2.CX X.prog X.w) X σ (E σ))
    (ha : PA X (e :: es) t) (hdb : (x == ("__debug__" : Str)) = false := by decide) (he : starEach (e :: es) X.env = (false, eval e X.env) :: starEach es X.env := by rfl) (hpl : (backTo pos (starEach es X.env)).any (·.1) = false := by rfl) :
    PE X (.Call (.Name x p) (e :: es) [] pos) (tCallSD sp dvs E t) := by
  refine ⟨fun pins s σ H Q I h => ?_⟩
  refine wpAny_Call_Name_kw (ld_glob I hg hm (PySem.W.callWith_K (h₀ := X.base) I.ok.mod.kin hk (thn (ha.run pos pins s σ H _ I h) fun us s1 ⟨vs, H1, I1, r, q⟩ => ⟨I1.kIn, ?_⟩) he hpl) hdb)
  have r2 : Vals (vs ++ dvs) (us ++ ds) := r.append hd
  refine wpAny_call (codeAny_mono (G.run X.A X.stack s1 H1 ⟨us, []⟩ (us ++ ds) (vs ++ dvs) Q (E σ) hgd hr I1.env0 (hb s1 us I1.kIn (r2.length.symm.trans (G.len _ _ _ _ q))) r2 q) fun r s' hq => ?_)
  match r, hq with
  | .error e, hq => exact hx σ pins H1 s1 e s' I1 hq
  | .ok (.ret u), hq => exact I1.after hq
  | .ok .next, hq => exact False.elim hq
  | .ok .brk, hq => exact False.elim hq
  | .ok .cont, hq => exact False.elim hq
end
section
variable {X : Cx} {I : Addr → Value → Option Addr → Prop} {W : WX} {k : Nat} {f : Addr} {fd : FuncData} {ps : List Str} {x : Str} {p pos : Pos} {e : Expr} {es : List Expr} {fs : List ESem} {m : FSem} {n : Nat} {dvs : List V} {ds : List Value} {dds : List D}
theorem se_callG (G : FnG X.prog X.w X.K X.mg X.base k f fd ps (spOf (bas X I0) n m)) (hgd : NoG X.A) (hr : Room k X.A) (hg : Gl X x) (hm : X.mg x = some (.ref f)) (hk : PySem.W.keepIn X.K (.ref f) = true) (hb : Binds X.K fd ps ds) (hd : Vals dvs ds) (hdr : ∀ F, RepL (bas X I) F dvs dds) (tk : Takes X W)
    (ha : SA X I W (e :: es) (eP fs)) (hn : fs.length + dds.length = n) (hdb : (x == ("__debug__" : Str)) = false := by decide) (he : starEach (e :: es) X.env = (false, eval e X.env) :: starEach es X.env := by rfl) (hpl : (backTo pos (starEach es X.env)).any (·.1) = false := by rfl) :
    SE X I W (.Call (.Name x p) (e :: es) [] pos) (eCallD m dds fs) := by
  obtain ⟨t, q, mm⟩ := ha
  refine ⟨_, pe_callG (E := fun σ cls d H => W cls d σ H) G hgd hr hg hm hk hb hd (fun σ => passAt tk σ) q hdb he hpl, fun F ρ σ H R Q hq => ?_⟩
  rw [eCallD, Out.OK_bind] at hq
  cases ee : eP fs ρ with
  | no => rw [ee] at hq; exact hq.elim
  | ex c gs ρ1 => exact mm F ρ σ H R _ (by rw [ee] at hq ⊢; exact hq)
  | ok rs ρ1 =>
    refine mm F ρ σ H R _ ?_
    rw [ee] at hq ⊢
    refine fun F1 H1 vs S1 L1 R1 pr => ?_
    show spOf (bas X I0) n m (vs ++ dvs) H1 Q (fun cls d H => W cls d σ H)
    cases ea : argsOf ρ1 (rs ++ dds.map .fz) with
    | none => simp only [Out.OK, ea] at hq
    | some as =>
      simp only [Out.OK, ea] at hq
      by_cases nd : (slotsOf rs).Nodup
      · rw [if_pos nd] at hq
        exact sem_call (t := t) R S1 L1 R1 (pr.app (PR.ofL (hdr F1))) ea (by rw [slots_app]; exact nd) hq (by rw [args_len ea, List.length_append, List.length_map, eP_len ee]; exact hn)
      · rw [if_neg nd] at hq; exact hq.elim
end

/-! ### repr of a list, of a tuple -/
def okShow (p : PyData) : Bool := PyData.showable p && (!PyData.hasDict p && (decide (p.depth ≤ 60) && decide (p.shown.length ≤ sizeLine)))
def isSeqP : PyData → Bool
  | .list _ => true
  | .tuple _ => true
  | _ => false
def reprD (d : D) : Option RV := match d.pd with
  | some p => if (isSeqP p && okShow p) = true then some (.fz (.str p.shown)) else none
  | none => none
def rRepr (K : PySem.W.Frag) : List V → Hp → VK → Prop := fun xs H Q => ∃ a p, xs = [.ref a] ∧ Dp K H (.ref a) p ∧ okShow p = true ∧ Q (.str p.shown) H
theorem call_repr {X : Cx} (hg : NoG X.A) (hu : X.A.units + 64 < cLine) : CallR X (.builtin "repr") (rRepr X.K) := by
  intro pins s σ H xs us Q I r h
  obtain ⟨a, p, rfl, hd, ok, q⟩ := h
  cases r with
  | cons rx rr =>
    cases rr
    cases rx
    obtain ⟨as, hr⟩ := Dp.reads I p _ _ hd rfl
    unfold okShow at ok
    simp only [Bool.and_eq_true, Bool.not_eq_true', decide_eq_true_eq] at ok
    obtain ⟨h1, h2, h3, h4⟩ := ok
    exact repr_of_reads' hr h1 (PyData.noDict_hsm h2) hg (by omega) (fun _ _ e => e) (fun h' u tk k => ⟨.str p.shown, H, I.kept k, ⟨_, rfl⟩, q⟩) h4
theorem call_reprD {B : Bas} : CallS1 B (rRepr B.K) reprD := by
  intro F ρ σ H v x rv R hv e Q q
  unfold reprD at e
  cases ep : x.pd with
  | none => rw [ep] at e; cases e
  | some p =>
    rw [ep] at e
    dsimp only at e
    by_cases z : (isSeqP p && okShow p) = true
    · rw [if_pos z] at e
      cases e
      obtain ⟨z1, z2⟩ := Bool.and_eq_true_iff.mp z
      have hd := hv.dp R.ext ep
      have : ∃ a, v = .ref a := by
        cases hd <;> first | exact ⟨_, rfl⟩ | cases z1
      obtain ⟨a, rfl⟩ := this
      exact ⟨a, p, rfl, hd, z2, ret1 R q (.str _)⟩
    · rw [if_neg z] at e; cases e

/-! ### join -/
def strs? : List D → Option (List Str)
  | [] => some []
  | .str x :: r => (strs? r).map (x :: ·)
  | _ :: _ => none
theorem strs?_eq : ∀ {ds : List D} {xs : List Str}, strs? ds = some xs → ds = xs.map D.str
  | [], _, e => by cases e; rfl
  | .str x :: r, xs, e => by
    simp only [strs?] at e
    cases q : strs? r with
    | none => rw [q] at e; cases e
    | some ms => rw [q] at e; cases e; rw [List.map_cons, ← strs?_eq q]
  | .non :: _, _, e => nomatch e
  | .bl _ :: _, _, e => nomatch e
  | .int _ :: _, _, e => nomatch e
  | .tup _ :: _, _, e => nomatch e
  | .lst _ :: _, _, e => nomatch e
  | .scr _ :: _, _, e => nomatch e
  | .ins _ _ :: _, _, e => nomatch e
  | .dK _ :: _, _, e => nomatch e
  | .dT _ :: _, _, e => nomatch e
  | .ktp _ :: _, _, e => nomatch e
theorem strs?_map : ∀ xs : List Str, strs? (xs.map D.str) = some xs
  | [] => rfl
  | x :: r => by simp only [List.map_cons, strs?, strs?_map r, Option.map_some]
def joinD (a : Str) : D → Option RV
  | .lst ds => match strs? ds with
    | some ys => if (ys.map (·.length)).sum + ys.length * a.length ≤ 16777216 then some (.fz (.str (Txt.join a ys))) else none
    | none => none
  | .tup ds => match strs? ds with
    | some ys => if (ys.map (·.length)).sum + ys.length * a.length ≤ 16777216 then some (.fz (.str (Txt.join a ys))) else none
    | none => none
  | _ => none
section
variable {X : Cx} {I : Addr → Value → Option Addr → Prop} {W : WX} {e : Expr} {f : ESem} {a : Str} {j : Nat} {p0 apos pos p p1 : Pos}
theorem se_join (h : SE X I W e f) (hs : starEach [e] X.env = [(false, eval e X.env)] := by rfl) (hbase : attributeBase (.Constant (.str a) j p0) "join" X.env (eval (.Constant (.str a) j p0) X.env) = eval (.Constant (.str a) j p0) X.env := by rfl) (hline : (apos.endLine == pos.line) = true := by rfl) :
    SE X I W (.Call (.Attribute (.Constant (.str a) j p0) "join" apos) [e] [] pos) (eU (joinD a) f) := by
  obtain ⟨t, q, m⟩ := h
  refine ⟨_, pe_join pe_str q hs hbase hline, fun F ρ σ H R Q hq => ⟨⟨a, rfl⟩, ?_⟩⟩
  rw [eU, Out.OK_bind] at hq
  refine m F ρ σ H R _ (hq.imp (fun r ρ1 hq F1 H1 v S1 L1 R1 r1 => ?_) fun _ _ _ z => z)
  cases e1 : rd ρ1 r with
  | none => rw [e1] at hq; exact hq.elim
  | some d =>
    simp only [e1] at hq
    have hv := rd_ok R1 r1 e1
    have fin : ∀ {ds : List D} {xs : List V} {aa : Addr}, (joinD a d = match strs? ds with
        | some ys => if (ys.map (·.length)).sum + ys.length * a.length ≤ 16777216 then some (.fz (.str (Txt.join a ys))) else none
        | none => none) → v = .ref aa → RepL (bas X I) F1 xs ds → (SqL X.K H1 aa xs ∨ SqT X.K H1 aa xs) →
        ∃ a_1 p, ∃ ys : List Str, V.str a = V.str a_1 ∧ [v] = [V.ref p] ∧ (SqL X.K H1 p (ys.map V.str) ∨ SqT X.K H1 p (ys.map V.str)) ∧ (ys.map (·.length)).sum + ys.length * a_1.length ≤ 16777216 ∧ Q (.str (Txt.join a_1 ys)) H1 := fun {ds xs aa} ej ev l sq => by
      rw [ej] at hq
      cases e2 : strs? ds with
      | none => rw [e2] at hq; exact hq.elim
      | some ys =>
        rw [e2] at hq
        dsimp only at hq
        by_cases z : (ys.map (·.length)).sum + ys.length * a.length ≤ 16777216
        · rw [if_pos z] at hq
          have e3 := strs?_eq e2
          subst e3
          have e4 := l.inv_strs
          subst e4
          exact ⟨a, aa, ys, rfl, by rw [ev], sq, z, hq F1 H1 _ S1 L1 R1 (.str _)⟩
        · rw [if_neg z] at hq; exact hq.elim
    cases d with
    | lst ds => obtain ⟨aa, xs, ev, h1, l⟩ := hv.lst R1.ext; exact fin rfl ev l (.inl (SqL.of h1))
    | tup ds => obtain ⟨aa, xs, ev, h1, l⟩ := hv.tup; exact fin rfl ev l (.inr (tq (R1.ext _ _ h1)))
    | _ => exact hq.elim
end

/-! ### list(range(n)) -/
def okRg (i j : Int) : Bool := smallR i j && decide ((j - i).toNat ≤ 2 ^ 24)
def eLstRg (rg : List D → Option (Int × Int)) (args : List ESem) : ESem := fun ρ => (eL args ρ).bind fun ds ρ1 => match rg ds with
  | some (i, j) => if okRg i j = true then .ok (.fr (.lst (rangeD i j))) ρ1 else .no
  | none => .no
theorem rep_rng {B : Bas} {F : Hp} (i j : Int) : RepL B F (rgV i j) (rangeD i j) := by
  unfold rgV rangeD
  induction List.range (j - i).toNat with
  | nil => exact .nil
  | cons a r ih => exact .cons (.int _) ih
theorem okRg_ok {i j : Int} (h : okRg i j = true) : RgOk i j := by
  unfold okRg smallR at h
  simp only [Bool.and_eq_true, decide_eq_true_eq] at h
  exact ⟨h.1.1, h.1.2.1, h.1.2.2.1, h.1.2.2.2, h.2⟩
section
variable {X : Cx} {I : Addr → Value → Option Addr → Prop} {W : WX} {a b : Expr} {fa fb : ESem} {p p1 pos pos1 : Pos}
theorem se_listRg1 (hc : X.calm = true) (hg : Gl X "list") (hm : X.mg "list" = none) (hg2 : Gl X "range") (hm2 : X.mg "range" = none) (h : SE X I W a fa)
    (na : starEach [.Call (.Name "range" p1) [a] [] pos1] X.env = (false, eval (.Call (.Name "range" p1) [a] [] pos1) X.env) :: starEach [] X.env := by rfl) (nb : starEach [a] X.env = (false, eval a X.env) :: starEach [] X.env := by rfl) :
    SE X I W (.Call (.Name "list" p) [.Call (.Name "range" p1) [a] [] pos1] [] pos) (eLstRg rngOf1 [fa]) := by
  obtain ⟨t, q, m⟩ := h
  refine ⟨_, pe_listRg hc hg hm (prg_1 hg2 hm2 q nb) na, fun F ρ σ H R Q hq => ?_⟩
  rw [eLstRg, Out.OK_bind, eL, eF, Out.OK_bind, Out.OK_bind] at hq
  refine m F ρ σ H R _ (hq.imp (fun r ρ1 hq F1 H1 v S1 L1 R1 r1 => ?_) fun _ _ _ z => z)
  cases e1 : frz ρ1 r with
  | none => rw [e1] at hq; exact hq.elim
  | some z =>
    obtain ⟨d, ρ2⟩ := z
    rw [e1] at hq
    obtain ⟨F2, S2, L2, R2, r2, _⟩ := frz_ok R1 S1 r1 e1
    simp only [Out.OK, eL, Out.bind] at hq
    cases d with
    | int n =>
      simp only [rngOf1] at hq
      by_cases z : okRg 0 n = true
      · rw [if_pos z] at hq
        cases r2
        refine ⟨n, rfl, okRg_ok z, fun q hn => ?_⟩
        obtain ⟨S3, R3, r3⟩ := newList R2 S2 hn (rep_rng 0 n)
        exact hq _ _ _ S3 (L1.trans L2) R3 r3
      · rw [if_neg z] at hq; exact hq.elim
    | _ => exact hq.elim
end

/-! ### a property -/
def eProp (c : Str) (m : FSem) (g : ESem) : ESem := fun ρ => (g ρ).bind fun r ρ1 => match rd ρ1 r with
  | some (.ins c' fs) => if c' = c then (match m [.fz (.ins c' fs)] with
    | .ok r' _ => .ok r' ρ1
    | _ => .no) else .no
  | _ => .no
section
variable {X : Cx} {I : Addr → Value → Option Addr → Prop} {W : WX} {k : Nat} {C p g : Addr} {f c : Str} {fd : FuncData} {ps : List Str} {m : FSem} {e : Expr} {ge : ESem} {pos : Pos}
theorem se_prop (hc : X.mg c = some (.ref C)) (cl : Cls X.K C) (hp : PropOf X.K C f p g) (G : FnOk X.prog X.w X.K X.mg X.base (L2.CX X.prog X.w) k g fd ps (spOf (bas X I0) 1 m)) (hr : Room (k + 1) X.A) (hb : Binds X.K fd ps []) (h : SE X I W e ge)
    (hab : attributeBase e f X.env (eval e X.env) = eval e X.env := by rfl) : SE X I W (.Attribute e f pos) (eProp c m ge) := by
  obtain ⟨t, q, mm⟩ := h
  have hx : L2.Passes (L2.CX X.prog X.w) X.nox (fun _ _ _ => False) := passes_call (X := X.nox) takes0 fun _ _ _ _ h => h.elim
  refine ⟨_, pe_prop (dvs := []) q cl hp G hr hb .nil hx hab, fun F ρ σ H R Q hq => ?_⟩
  rw [eProp, Out.OK_bind] at hq
  refine mm F ρ σ H R _ (hq.imp (fun r ρ1 hz F1 H1 v S1 L1 R1 r1 => ?_) fun _ _ _ z => z)
  clear hq
  cases e1 : rd ρ1 r with
  | none => rw [e1] at hz; exact hz.elim
  | some d =>
    rw [e1] at hz
    cases d with
    | ins c' fs =>
      dsimp only at hz
      by_cases ec : c' = c
      · rw [if_pos ec] at hz
        subst ec
        have hv : Rep (bas X I) F1 v (.ins c' fs) := (rd_ok R1 r1 e1).elim id fun ⟨a, o, _, z, _⟩ => by cases o <;> cases z
        have hv0 := hv
        cases hv with
        | @ins a C' dx _ vs _ gC hi ho hf =>
          have gg : (some (Value.ref C') : Option Value) = some (.ref C) := gC.symm.trans hc
          injection gg with gg; injection gg with gg; subst gg
          have pr : PR (bas X I) F1 ρ1 σ [.ref a] [.fz (.ins c' fs)] := .fz hv0 .nil
          refine ⟨a, dx, vs, rfl, R1.ext _ _ hi, F1, [.fz (.ins c' fs)], rfl, rfl, Rel.wi (B := bas X I) (I' := I0) rfl (args_rel (as := [.fz (.ins c' fs)]) R1 pr .nil rfl), ?_⟩
          cases em : m [.fz (.ins c' fs)] with
          | ok r' ρa =>
            rw [em] at hz
            refine fun F' H' w f r2 => ?_
            obtain ⟨S2, R2⟩ := call_back (as := [.fz (.ins c' fs)]) S1 R1 pr .nil rfl (FinR.wi (B := bas X I0) (I' := I) f)
            exact hz F' H' w S2 L1 R2 (RetF.rvr (fun a z => S1.dom a z) (fun _ _ h => h) R1 (RetF.wi (B := bas X I0) (I' := I) r2))
          | ex c2 fs2 ρa => rw [em] at hz; exact hz.elim
          | no => rw [em] at hz; exact hz.elim
      · rw [if_neg ec] at hz; exact hz.elim
    | _ => exact hz.elim
end
end DL
end
section
/-! E15: what the head tells of the module: defs, and facts that a Bool decides. -/
namespace DL
open PySem PySem.Spec L2 PySem.W

/-- where a def stands: a global; a class's method; a class's property -/
inductive Pa where
  | glo (x : Str) | met (c m : Str) | prp (c m : Str)
def Pa.ad (K : Frag) : Pa → Addr
  | .glo x => He.ga K x
  | .met c m => He.ma K (He.ga K c) m
  | .prp c m => match recIn K (He.ma K (He.ga K c) m) "property" with
    | some (.ref g :: _) => g
    | _ => 0
abbrev Fv : Type := Option (Str × Str × Arguments × FuncBody × Scope × Addr × List Str × Addr)
def fvOf (K : Frag) (a : Addr) : Fv := match K.lookup a with
  | some ⟨_, _, .func fd, _⟩ => some (fd.name, fd.qualname, fd.params, fd.body, fd.scope, fd.globals, fd.closure.map (·.1), fd.builtins)
  | _ => none
/-- one def: sup: it closes over its class -/
structure DF where
  at_ : Pa
  name : Str
  qual : Str
  st : Stmt
  dfl : List He.Dv := []
  sup : Bool := false
def DF.val (d : DF) : Fv := some (d.name, d.qual, defArgs d.st, .stmts (defBody d.st), defScope d.st, mainGlobals, if d.sup then ["__class__"] else [], builtinsNs)
def DF.ok (K : Frag) (d : DF) : Bool := keepIn K (.ref (d.at_.ad K)) && (match K.lookup (d.at_.ad K) with
  | some ⟨_, _, .func fd, _⟩ => codeIn K fd.code d.qual && (He.dflB K fd.defaults (d.dfl.map (He.Dv.v K)) && He.kwdB K fd.kwdefaults [])
  | _ => false)
/-- the class that it closes over, where its code was written -/
def supB (P : Program) (K : Frag) (a D : Addr) : Bool := match K.lookup a with
  | some ⟨_, _, .func fd, _⟩ => (match fd.closure, fd.code with
    | [(_, cc)], .ref cda => (match K.lookup cc, K.lookup cda with
      | some ⟨_, _, .cell (some (.ref D')), _⟩, some ⟨_, _, .fields vs, _⟩ => decide (D' = D) && (match (vs[2]? : Option Value) with
        | some (Value.str file _) => (P.main.file : Str) == file
        | _ => false)
      | _, _ => false)
    | _, _ => false)
  | _ => false
theorem DF.look {K : Frag} {d : DF} (e : fvOf K (d.at_.ad K) = d.val) (c : d.ok K = true) : ∃ (oc : Value) (od : Option Addr) (fd : FuncData) (osl : Array (Option Value)), K.lookup (d.at_.ad K) = some ⟨oc, od, .func fd, osl⟩ ∧
    fd.name = d.name ∧ fd.qualname = d.qual ∧ fd.params = defArgs d.st ∧ fd.body = .stmts (defBody d.st) ∧ fd.scope = defScope d.st ∧ fd.globals = mainGlobals ∧ fd.closure.map (·.1) = (if d.sup then [("__class__" : Str)] else []) ∧ fd.builtins = builtinsNs ∧
    codeIn K fd.code d.qual = true ∧ DflV K fd.defaults (d.dfl.map (He.Dv.v K)) ∧ keepIn K (.ref (d.at_.ad K)) = true := by
  obtain ⟨kp, c2⟩ := He.ba c
  unfold fvOf at e
  cases q : K.lookup (d.at_.ad K) with
  | none => rw [q] at c2; cases c2
  | some o =>
    obtain ⟨oc, od, dt, osl⟩ := o
    rw [q] at c2 e
    cases dt with
    | func fd =>
      obtain ⟨k1, k2⟩ := He.ba (show (codeIn K fd.code d.qual && (He.dflB K fd.defaults (d.dfl.map (He.Dv.v K)) && He.kwdB K fd.kwdefaults [])) = true from c2)
      obtain ⟨k3, _⟩ := He.ba k2
      have e2 : (some (fd.name, fd.qualname, fd.params, fd.body, fd.scope, fd.globals, fd.closure.map (·.1), fd.builtins) : Fv) = d.val := e
      unfold DF.val at e2
      simp only [Option.some.injEq, Prod.mk.injEq] at e2
      obtain ⟨h1, h2, h3, h4, h5, h6, h7, h8⟩ := e2
      exact ⟨oc, od, fd, osl, rfl, h1, h2, h3, h4, h5, h6, h7, h8, k1, He.dflB_ok k3, kp⟩
    | _ => cases c2
theorem DF.funD {K : Frag} {d : DF} (hs : d.sup = false) (e : fvOf K (d.at_.ad K) = d.val) (c : d.ok K = true) : ∃ fd, FunD K d.name d.qual (defArgs d.st) (defBody d.st) (defScope d.st) (d.dfl.map (He.Dv.v K)) [] (d.at_.ad K) fd := by
  obtain ⟨oc, od, fd, osl, q, h1, h2, h3, h4, h5, h6, h7, h8, k1, k3, kp⟩ := DF.look e c
  obtain ⟨n1, n2, n3, n4, n5, n6, n7, n8, n9, n10, n11, n12, n13, n14, n15⟩ := fd
  rw [hs] at h7
  dsimp only at h1 h2 h3 h4 h5 h6 h7 h8 k1 k3
  have h7' : n7 = [] := List.map_eq_nil_iff.mp h7
  subst h1 h2 h3 h4 h5 h6 h7' h8
  exact ⟨_, ⟨oc, od, n8, n9, n10, n11, n12, n13, n14, osl, rfl, q, k1, k3, .inl rfl⟩, kp⟩
theorem DF.supFn {P : Program} {K : Frag} {d : DF} {D : Addr} (hs : d.sup = true) (hdf : d.dfl = []) (e : fvOf K (d.at_.ad K) = d.val) (c : d.ok K = true) (b : supB P K (d.at_.ad K) D = true) : ∃ fd, SupFn K P d.name d.qual d.st D (d.at_.ad K) fd := by
  obtain ⟨oc, od, fd, osl, q, h1, h2, h3, h4, h5, h6, h7, h8, k1, k3, kp⟩ := DF.look e c
  obtain ⟨n1, n2, n3, n4, n5, n6, n7, n8, n9, n10, n11, n12, n13, n14, n15⟩ := fd
  rw [hs] at h7
  dsimp only at h1 h2 h3 h4 h5 h6 h7 h8 k1 k3
  have hn8 : n8 = .none := by
    rw [hdf] at k3
    rcases k3 with ⟨_, z⟩ | ⟨z, _⟩
    · exact z
    · exact absurd rfl z
  subst hn8
  unfold supB at b
  rw [q] at b
  dsimp only at b
  match n7, n13, h7, b, q, k1 with
  | [(nm, cc)], .ref cda, h7, b, q, k1 =>
    dsimp only at b
    simp only [if_true, List.map_cons, List.map_nil, List.cons.injEq, and_true] at h7
    cases q1 : K.lookup cc with
    | none => rw [q1] at b; cases b
    | some o1 =>
      obtain ⟨c1, d1, dt1, s1⟩ := o1
      cases q2 : K.lookup cda with
      | none => rw [q1, q2] at b; cases dt1 <;> first | cases b | (rename_i v; cases v <;> first | cases b | (rename_i v; cases v <;> cases b))
      | some o2 =>
        obtain ⟨c2, d2, dt2, s2⟩ := o2
        rw [q1, q2] at b
        cases dt1 with
        | cell v =>
          cases v with
          | none => cases b
          | some v =>
            cases v with
            | ref D' =>
              cases dt2 with
              | fields vs =>
                dsimp only at b
                obtain ⟨b1, b2⟩ := He.ba b
                have eD := of_decide_eq_true b1
                cases q3 : vs[2]? with
                | none => rw [q3] at b2; cases b2
                | some z =>
                  rw [q3] at b2
                  cases z with
                  | str file tf =>
                    subst h1 h2 h3 h4 h5 h6 h7 h8 eD
                    exact ⟨_, ⟨oc, od, n9, n10, n11, n12, cda, n14, osl, cc, c2, d2, vs, s2, file, tf, c1, d1, s1, rfl, q, k1, q2, q3, b2, q1⟩, kp⟩
                  | _ => cases b2
              | _ => cases b
            | _ => cases b
        | _ => cases b
  | [], _, h7, _, _, _ => exact absurd (congrArg List.length h7) (by simp)
  | _ :: _ :: _, _, h7, _, _, _ => exact absurd (congrArg List.length h7) (by simp)
  | [_], .none, _, b, _, _ => cases b
  | [_], .ellipsis, _, b, _, _ => cases b
  | [_], .notImplemented, _, b, _, _ => cases b
  | [_], .bool _, _, b, _, _ => cases b
  | [_], .int _ _, _, b, _, _ => cases b
  | [_], .float _ _, _, b, _, _ => cases b
  | [_], .str _ _, _, b, _, _ => cases b
  | [_], .bytes _ _, _, b, _, _ => cases b
  | [_], .type _, _, b, _, _ => cases b
  | [_], .builtin _, _, b, _, _ => cases b

/-! ### the Hook -/
abbrev Pf : Type := Frag → Bool
abbrev AlF : Type := Bool × List Fv
def obsF (fs : List Pf) (ds : List DF) (K : Frag) : AlF := ((fs.all fun f => f K) && ds.all fun d => d.ok K, ds.map fun d => fvOf K (d.at_.ad K))
def valF (ds : List DF) : AlF := (true, ds.map DF.val)
def SaysF (fs : List Pf) (ds : List DF) (K : Frag) : Prop := obsF fs ds K = valF ds
def obsFG (n : Nat) (fs : List Pf) (ds : List DF) (g : Addr → Option Obj) : AlF := obsF fs ds (He.frG g (cStatics :: He.asD g n))
def hookF (n : Nat) (fs : List Pf) (ds : List DF) : Hook where
  α := AlF
  obs := fun s => obsFG n fs ds s.heap.get?
  val := fun _ => valF ds
  says := fun _ h => ∃ K : Frag, K.In h ∧ SaysF fs ds K
  of := fun _ _ e => ⟨_, He.frG_in, e⟩
  keeps := fun _ _ _ ⟨K, hK, c⟩ k => ⟨K, Frag.In.keeps hK k, c⟩
theorem obsFG_eq {n : Nat} {fs : List Pf} {ds : List DF} {g : Addr → Option Obj} {s : Shared} (h : ∀ a, g a = s.heap.get? a) : obsFG n fs ds g = (hookF n fs ds).obs s := by
  have e : g = s.heap.get? := funext h
  rw [e] <;> rfl
section
variable {fs : List Pf} {ds : List DF} {K : Frag}
theorem SaysF.fact (c : SaysF fs ds K) {i : Nat} {f : Pf} (h : fs[i]? = some f) : f K = true := by
  have c1 := (He.ba (show ((fs.all fun f => f K) && ds.all fun d => d.ok K) = true from congrArg (fun z : AlF => z.1) c)).1
  exact List.all_eq_true.mp c1 f (List.mem_of_getElem? h)
theorem SaysF.at_ (c : SaysF fs ds K) {i : Nat} {d : DF} (h : ds[i]? = some d) : fvOf K (d.at_.ad K) = d.val ∧ d.ok K = true := by
  have c2 := (He.ba (show ((fs.all fun f => f K) && ds.all fun d => d.ok K) = true from congrArg (fun z : AlF => z.1) c)).2
  have e : ds.map (fun d => fvOf K (d.at_.ad K)) = ds.map DF.val := congrArg (fun z : AlF => z.2) c
  have e2 : (ds.map fun d => fvOf K (d.at_.ad K))[i]? = (ds.map DF.val)[i]? := by rw [e]
  rw [List.getElem?_map, List.getElem?_map, h] at e2
  exact ⟨Option.some.inj e2, List.all_eq_true.mp c2 d (List.mem_of_getElem? h)⟩
end

/-! ### facts -/
/-- an own error over ValueError -/
def oexB (K : Frag) (C : Addr) : Bool := (match K.lookup C with
  | some ⟨.type "type", _, .cls cd, sl⟩ => (match cd.mro, sl.toList with
    | .ref C' :: bm, [_, _, _, _, some (.builtin n), _] => C' == C && (n == "ValueError.__new__" && (!cd.hasDel && (cd.hasDict && PySem.HandSPX.refsVE bm)))
    | _, _ => false)
  | _ => false) && (decide (findIn K (.ref C) "__setattr__" = some (some (.builtin "object.__setattr__"))) && (decide (subIn K (.ref C) (.type "BaseException") = some true) && (decide (typeIn K (.ref C) = some (.type "type")) && keepIn K (.ref C))))
theorem oexB_ok {K : Frag} {C : Addr} (h : oexB K C = true) : OexC K C := by
  obtain ⟨h1, h⟩ := He.ba h
  obtain ⟨h2, h⟩ := He.ba h
  obtain ⟨h3, h⟩ := He.ba h
  obtain ⟨h4, h5⟩ := He.ba h
  refine ⟨?_, of_decide_eq_true h2, of_decide_eq_true h3, of_decide_eq_true h4, h5⟩
  split at h1
  · rename_i dd cd sl ho
    split at h1
    · rename_i C' bm k0 k1 k2 k3 n k5 hm hs
      simp only [Bool.and_eq_true, beq_iff_eq, Bool.not_eq_true'] at h1
      obtain ⟨e1, e2, e3, e4, e5⟩ := h1
      subst e1 e2
      obtain ⟨nm, bs, mro, ns, qn, hd, sn, sb, ab, col, del⟩ := cd
      dsimp only at hm e3 e4
      subst hm e3 e4
      have e6 : sl = #[k0, k1, k2, k3, some (.builtin "ValueError.__new__"), k5] := by
        have := congrArg List.toArray hs
        simpa using this
      subst e6
      exact ⟨nm, qn, ns, bs, bm, sn, sb, ab, col, dd, k0, k1, k2, k3, k5, ho, e5⟩
    · cases h1
  · cases h1
def supCB (K : Frag) (C : Addr) : Bool := oexB K C && (decide (mroIn K C (.ref C) = some true) && (decide (ks_superIn K C C "__init__" = some (some (.builtin "ValueError.__init__"))) && (decide (subIn K (.ref C) (.type "ValueError") = some true) && (clsIn K C).isSome)))
theorem supCB_ok {K : Frag} {C : Addr} (h : supCB K C = true) : SupC K C C := by
  obtain ⟨h1, h⟩ := He.ba h
  obtain ⟨h2, h⟩ := He.ba h
  obtain ⟨h3, h⟩ := He.ba h
  obtain ⟨h4, h5⟩ := He.ba h
  exact ⟨oexB_ok h1, of_decide_eq_true h2, of_decide_eq_true h3, of_decide_eq_true h4, Option.isSome_iff_exists.mp h5, Option.isSome_iff_exists.mp h5⟩
/-- an own error's own __init__ -/
def initB (K : Frag) (C f : Addr) : Bool := decide (findIn K (.ref C) "__init__" = some (some (.ref f))) && decide (typeIn K (.ref f) = some (.type "function"))
theorem initB_ok {K : Frag} {C f : Addr} (h : initB K C f = true) : findIn K (.ref C) "__init__" = some (some (.ref f)) ∧ typeIn K (.ref f) = some (.type "function") := by
  obtain ⟨h1, h2⟩ := He.ba h
  exact ⟨of_decide_eq_true h1, of_decide_eq_true h2⟩
def clsQ (K : Frag) (C : Addr) : Bool := decide (findIn K (.ref C) "__class__" = some (some (.builtin "object.__class__"))) && (decide (specialIn K (.builtin "object.__class__") "__get__" = some (some (.builtin "getset_descriptor.__get__"))) && (decide (takesIn K (.builtin "object.__class__") = some true) && decide (mroIn K C (.type "object") = some true)))
def clsB (K : Frag) (C : Addr) : Bool := plainGet K C Str.empty && (hasDictIn K C && (plainOver K C && decide (findIn K (.ref C) "__setattr__" = some (some (.builtin "object.__setattr__")))))
theorem clsB_ok {K : Frag} {C : Addr} (h : clsB K C = true) : Cls K C := by
  obtain ⟨h1, h⟩ := He.ba h
  obtain ⟨h2, h⟩ := He.ba h
  obtain ⟨h3, h4⟩ := He.ba h
  exact ⟨h1, h2, h3, of_decide_eq_true h4⟩
def tycB (K : Frag) (C : Addr) : Bool := clsB K C && clsQ K C
theorem tycB_ok {K : Frag} {C : Addr} (h : tycB K C = true) : TyC K C := by
  obtain ⟨h0, h⟩ := He.ba h
  obtain ⟨h1, h⟩ := He.ba h
  obtain ⟨h2, h⟩ := He.ba h
  obtain ⟨h3, h4⟩ := He.ba h
  exact ⟨clsB_ok h0, of_decide_eq_true h1, of_decide_eq_true h2, of_decide_eq_true h3, of_decide_eq_true h4⟩
def excCB (K : Frag) (C : Addr) : Bool := decide (findIn K (.ref C) "__getattribute__" = some (some (.builtin "BaseException.__getattribute__"))) && (decide (findIn K (.ref C) "__getattr__" = some none) && (decide (subIn K (.ref C) (.type "BaseException") = some true) && (hasDictIn K C && clsQ K C)))
theorem excCB_ok {K : Frag} {C : Addr} (h : excCB K C = true) : ExcC K C ∧ XfC K C := by
  obtain ⟨a1, h⟩ := He.ba h
  obtain ⟨a2, h⟩ := He.ba h
  obtain ⟨a3, h⟩ := He.ba h
  obtain ⟨a4, h⟩ := He.ba h
  obtain ⟨h1, h⟩ := He.ba h
  obtain ⟨h2, h⟩ := He.ba h
  obtain ⟨h3, h4⟩ := He.ba h
  exact ⟨⟨of_decide_eq_true a1, of_decide_eq_true a2, of_decide_eq_true a3, a4, of_decide_eq_true h1, of_decide_eq_true h2, of_decide_eq_true h3, of_decide_eq_true h4⟩, ⟨of_decide_eq_true a1, of_decide_eq_true a2, of_decide_eq_true a3, a4⟩⟩
def mkB (K : Frag) (C f : Addr) : Bool := makesIn K C && (decide (findIn K (.ref C) "__init__" = some (some (.ref f))) && (isFn K (.ref f) && keepIn K (.ref C)))
theorem mkB_ok {K : Frag} {C f : Addr} (h : mkB K C f = true) : Mk K C f := by
  obtain ⟨h1, h⟩ := He.ba h
  obtain ⟨h2, h⟩ := He.ba h
  obtain ⟨h3, h4⟩ := He.ba h
  exact ⟨h1, of_decide_eq_true h2, h3, h4⟩
def noatB (K : Frag) (C : Addr) (fs : List Str) : Bool := fs.all fun f => decide (findIn K (.ref C) f = some none)
theorem noatB_ok {K : Frag} {C : Addr} {fs : List Str} (h : noatB K C fs = true) {f : Str} (hf : f ∈ fs) : findIn K (.ref C) f = some none := of_decide_eq_true (List.all_eq_true.mp h f hf)
def propB (K : Frag) (C : Addr) (f : Str) (p g : Addr) : Bool := decide (findIn K (.ref C) f = some (some (.ref p))) && (decide (specialIn K (.ref p) "__get__" = some (some (.builtin "property.__get__"))) && (decide (takesIn K (.ref p) = some true) && (match recIn K p "property" with
  | some (.ref g' :: _) => decide (g' = g)
  | _ => false)))
theorem propB_ok {K : Frag} {C : Addr} {f : Str} {p g : Addr} (h : propB K C f p g = true) : PropOf K C f p g := by
  obtain ⟨h1, h⟩ := He.ba h
  obtain ⟨h2, h⟩ := He.ba h
  obtain ⟨h3, h4⟩ := He.ba h
  refine ⟨of_decide_eq_true h1, of_decide_eq_true h2, of_decide_eq_true h3, ?_⟩
  split at h4
  · rename_i g' r e
    exact ⟨r, by rw [e, of_decide_eq_true h4]⟩
  · cases h4
def ownEqB (K : Frag) (C f : Addr) : Bool := decide (findIn K (.ref C) "__eq__" = some (some (.ref f))) && (decide (findIn K (.ref C) "__ne__" = some (some (.builtin "object.__ne__"))) && (isFn K (.ref f) && decide (subIn K (.ref C) (.type "object") = some true)))
theorem ownEqB_ok {K : Frag} {C f : Addr} (h : ownEqB K C f = true) : OwnEqC K C f := by
  obtain ⟨h1, h⟩ := He.ba h
  obtain ⟨h2, h⟩ := He.ba h
  obtain ⟨h3, h4⟩ := He.ba h
  exact ⟨of_decide_eq_true h1, of_decide_eq_true h2, h3, of_decide_eq_true h4⟩
/-- answers of isinstance, of except, by class -/
def kitOB (K : Frag) (u : Value) (tT : List (String × Bool)) (tK : List (Addr × Bool)) : Bool := (tT.all fun p => decide (kitOne K (.type p.1) u = some p.2)) && tK.all fun p => decide (kitOne K (.ref p.1) u = some p.2)
def kitAB (K : Frag) (us : List Value) (tT : List (String × Bool)) (tK : List (Addr × Bool)) : Bool := (tT.all fun p => decide (kitAny K (.type p.1) us = some p.2)) && tK.all fun p => decide (kitAny K (.ref p.1) us = some p.2)
def globB (K : Frag) (x : Str) : Bool := decide (nsIn K mainGlobals x = some (some (.ref (He.ga K x))))
def freeB (K : Frag) (x : Str) : Bool := decide (nsIn K mainGlobals x = some none)
end DL
end
section
/-! E16: the rules in short, for printed terms. -/
namespace DL
open PySem PySem.Spec L2

theorem bt_len : bootBuiltins "len" = some (.builtin "len") := by decide +kernel
theorem bt_int : bootBuiltins "int" = some (.type "int") := by decide +kernel
theorem bt_list : bootBuiltins "list" = some (.type "list") := by decide +kernel
theorem bt_tuple : bootBuiltins "tuple" = some (.type "tuple") := by decide +kernel
theorem bt_sorted : bootBuiltins "sorted" = some (.builtin "sorted") := by decide +kernel
theorem bt_repr : bootBuiltins "repr" = some (.builtin "repr") := by decide +kernel
theorem bt_str : bootBuiltins "str" = some (.type "str") := by decide +kernel
theorem bt_bool : bootBuiltins "bool" = some (.type "bool") := by decide +kernel
theorem bt_vE : bootBuiltins "ValueError" = some (.type "ValueError") := by decide +kernel
theorem u65 {k : Nat} {A : Around} (r : Room k A) : A.units + 65 < cLine := by have := r.un; omega
theorem u64 {k : Nat} {A : Around} (r : Room k A) : A.units + 64 < cLine := by have := r.un; omega
section
variable {X : Cx} {I : Addr → Value → Option Addr → Prop} {W : WX} {a b c : Expr} {f fa fb : ESem} {p pos apos cpos : Pos}
/-! ### built-ins -/
theorem k_len (hm : X.mg "len" = none) (h : SE X I W a f) (hg : Gl X "len" := by rfl) (he : starEach [a] X.env = (false, eval a X.env) :: starEach [] X.env := by rfl) (hpl : (backTo pos (starEach [] X.env)).any (·.1) = false := by rfl) : SE X I W (.Call (.Name "len" p) [a] [] pos) (eU lenD f) :=
  se_callB1 call_len call_lenD hg hm bt_len h (by decide) (by decide) he hpl
theorem k_int (hm : X.mg "int" = none) (h : SE X I W a f) (hg : Gl X "int" := by rfl) (he : starEach [a] X.env = (false, eval a X.env) :: starEach [] X.env := by rfl) (hpl : (backTo pos (starEach [] X.env)).any (·.1) = false := by rfl) : SE X I W (.Call (.Name "int" p) [a] [] pos) (eU intD f) :=
  se_callT1 call_int1 call_intD hg hm bt_int h (by decide) (by decide) he hpl
theorem k_list (hm : X.mg "list" = none) (h : SE X I W a f) (hg : Gl X "list" := by rfl) (he : starEach [a] X.env = (false, eval a X.env) :: starEach [] X.env := by rfl) (hpl : (backTo pos (starEach [] X.env)).any (·.1) = false := by rfl) : SE X I W (.Call (.Name "list" p) [a] [] pos) (eU listD f) :=
  se_callT1 call_list_of call_listD hg hm bt_list h (by decide) (by decide) he hpl
theorem k_tuple (hm : X.mg "tuple" = none) (h : SE X I W a f) (hg : Gl X "tuple" := by rfl) (he : starEach [a] X.env = (false, eval a X.env) :: starEach [] X.env := by rfl) (hpl : (backTo pos (starEach [] X.env)).any (·.1) = false := by rfl) : SE X I W (.Call (.Name "tuple" p) [a] [] pos) (eU tupD f) :=
  se_callT1 call_tuple_of call_tupD hg hm bt_tuple h (by decide) (by decide) he hpl
theorem k_sorted (hm : X.mg "sorted" = none) (h : SE X I W a f) (hg : Gl X "sorted" := by rfl) (he : starEach [a] X.env = (false, eval a X.env) :: starEach [] X.env := by rfl) (hpl : (backTo pos (starEach [] X.env)).any (·.1) = false := by rfl) : SE X I W (.Call (.Name "sorted" p) [a] [] pos) (eU srtD f) :=
  se_callB1 cr_sortedA call_srtD hg hm bt_sorted h (by decide) (by decide) he hpl
theorem k_repr (hgd : NoG X.A) (hu : X.A.units + 65 < cLine) (hm : X.mg "repr" = none) (h : SE X I W a f) (hg : Gl X "repr" := by rfl) (he : starEach [a] X.env = (false, eval a X.env) :: starEach [] X.env := by rfl) (hpl : (backTo pos (starEach [] X.env)).any (·.1) = false := by rfl) : SE X I W (.Call (.Name "repr" p) [a] [] pos) (eU reprD f) :=
  se_callB1 (call_repr hgd (by omega)) call_reprD hg hm bt_repr h (by decide) (by decide) he hpl
theorem k_listRg (hc : X.calm = true) (hm : X.mg "list" = none) (hm2 : X.mg "range" = none) {p1 pos1 : Pos} (h : SE X I W a fa) (hg : Gl X "list" := by rfl) (hg2 : Gl X "range" := by rfl)
    (na : starEach [.Call (.Name "range" p1) [a] [] pos1] X.env = (false, eval (.Call (.Name "range" p1) [a] [] pos1) X.env) :: starEach [] X.env := by rfl) (nb : starEach [a] X.env = (false, eval a X.env) :: starEach [] X.env := by rfl) :
    SE X I W (.Call (.Name "list" p) [.Call (.Name "range" p1) [a] [] pos1] [] pos) (eLstRg rngOf1 [fa]) := se_listRg1 hc hg hm hg2 hm2 h na nb
/-! ### the module's constants -/
theorem k_gint {x : Str} {i : Int} (h : ∃ t, X.mg x = some (.int i t)) (hg : Gl X x := by rfl) (hd : (x == ("__debug__" : Str)) = false := by decide) : SE X I W (.Name x pos) (eC (.int i)) := let ⟨t, h⟩ := h; se_const (v := .int i) (pe_glob hg h ⟨t, rfl⟩ hd) fun _ => .int i
theorem k_gstr {x : Str} {i : Str} (h : ∃ t, X.mg x = some (.str i t)) (hg : Gl X x := by rfl) (hd : (x == ("__debug__" : Str)) = false := by decide) : SE X I W (.Name x pos) (eC (.str i)) := let ⟨t, h⟩ := h; se_const (v := .str i) (pe_glob hg h ⟨t, rfl⟩ hd) fun _ => .str i
/-! ### operators -/
theorem k_add (h : SE X I W a fa) (k : SE X I W b fb) : SE X I W (.BinOp a .Add b pos) (eOp addD fa fb) := se_op op_addA ops_add h k
theorem k_sub (h : SE X I W a fa) (k : SE X I W b fb) : SE X I W (.BinOp a .Sub b pos) (eOp subD fa fb) := se_op op_sub ops_sub h k
theorem k_mul (h : SE X I W a fa) (k : SE X I W b fb) : SE X I W (.BinOp a .Mult b pos) (eOp mulD fa fb) := se_op op_mulA ops_mul h k
theorem k_div (h : SE X I W a fa) (k : SE X I W b fb) : SE X I W (.BinOp a .FloorDiv b pos) (eOp divD fa fb) := se_op op_fdiv ops_div h k
theorem k_mod (h : SE X I W a fa) (k : SE X I W b fb) : SE X I W (.BinOp a .Mod b pos) (eOp modD fa fb) := se_op op_mod ops_mod h k
theorem k_pow (h : SE X I W a fa) (k : SE X I W b fb) : SE X I W (.BinOp a .Pow b pos) (eOp powD fa fb) := se_op op_pow ops_pow h k
theorem k_lt (h : SE X I W a fa) (k : SE X I W b fb) : SE X I W (.Compare a [.Lt] [b] pos) (eOp ltD fa fb) := se_cmp op_lt ops_cmp h k
theorem k_le (h : SE X I W a fa) (k : SE X I W b fb) : SE X I W (.Compare a [.LtE] [b] pos) (eOp leD fa fb) := se_cmp op_le ops_cmp h k
theorem k_gt (h : SE X I W a fa) (k : SE X I W b fb) : SE X I W (.Compare a [.Gt] [b] pos) (eOp gtD fa fb) := se_cmp op_gt ops_cmp h k
theorem k_ge (h : SE X I W a fa) (k : SE X I W b fb) : SE X I W (.Compare a [.GtE] [b] pos) (eOp geD fa fb) := se_cmp op_ge ops_cmp h k
theorem k_eq (hu : X.A.units + 65 < cLine) (h : SE X I W a fa) (k : SE X I W b fb) : SE X I W (.Compare a [.Eq] [b] pos) (eOp eqD fa fb) := se_cmp (op_eqA (by omega)) ops_eq h k
theorem k_ne (hu : X.A.units + 65 < cLine) (h : SE X I W a fa) (k : SE X I W b fb) : SE X I W (.Compare a [.NotEq] [b] pos) (eOp neD fa fb) := se_cmp (op_neA (by omega)) ops_ne h k
theorem k_is (h : SE X I W a fa) (k : SE X I W b fb) : SE X I W (.Compare a [.Is] [b] pos) (eOp isD fa fb) := se_cmp op_isN ops_is h k
theorem k_isnt (h : SE X I W a fa) (k : SE X I W b fb) : SE X I W (.Compare a [.IsNot] [b] pos) (eOp isntD fa fb) := se_cmp op_notN ops_isnt h k
theorem k_in (hu : X.A.units + 65 < cLine) (h : SE X I W a fa) (k : SE X I W b fb) (hm : behindInMarks .In b = false := by rfl) : SE X I W (.Compare a [.In] [b] pos) (eOp inD fa fb) := se_cmp (op_inA hu) ops_in h k hm
theorem k_nin (hu : X.A.units + 65 < cLine) (h : SE X I W a fa) (k : SE X I W b fb) (hm : behindInMarks .NotIn b = false := by rfl) : SE X I W (.Compare a [.NotIn] [b] pos) (eOp ninD fa fb) := se_cmp (op_ninA hu) ops_nin h k hm
/-- the same as tests -/
theorem q_lt (h : SE X I W a fa) (k : SE X I W b fb) : SC X I W (.Compare a [.Lt] [b] pos) (cB (eOp ltD fa fb)) := sc_cmp op_lt ops_cmp h k
theorem q_le (h : SE X I W a fa) (k : SE X I W b fb) : SC X I W (.Compare a [.LtE] [b] pos) (cB (eOp leD fa fb)) := sc_cmp op_le ops_cmp h k
theorem q_gt (h : SE X I W a fa) (k : SE X I W b fb) : SC X I W (.Compare a [.Gt] [b] pos) (cB (eOp gtD fa fb)) := sc_cmp op_gt ops_cmp h k
theorem q_ge (h : SE X I W a fa) (k : SE X I W b fb) : SC X I W (.Compare a [.GtE] [b] pos) (cB (eOp geD fa fb)) := sc_cmp op_ge ops_cmp h k
theorem q_eq (hu : X.A.units + 65 < cLine) (h : SE X I W a fa) (k : SE X I W b fb) : SC X I W (.Compare a [.Eq] [b] pos) (cB (eOp eqD fa fb)) := sc_cmp (op_eqA (by omega)) ops_eq h k
theorem q_ne (hu : X.A.units + 65 < cLine) (h : SE X I W a fa) (k : SE X I W b fb) : SC X I W (.Compare a [.NotEq] [b] pos) (cB (eOp neD fa fb)) := sc_cmp (op_neA (by omega)) ops_ne h k
theorem q_is (h : SE X I W a fa) (k : SE X I W b fb) : SC X I W (.Compare a [.Is] [b] pos) (cB (eOp isD fa fb)) := sc_cmp op_isN ops_is h k
theorem q_isnt (h : SE X I W a fa) (k : SE X I W b fb) : SC X I W (.Compare a [.IsNot] [b] pos) (cB (eOp isntD fa fb)) := sc_cmp op_notN ops_isnt h k
theorem q_in (hu : X.A.units + 65 < cLine) (h : SE X I W a fa) (k : SE X I W b fb) (hm : behindInMarks .In b = false := by rfl) : SC X I W (.Compare a [.In] [b] pos) (cB (eOp inD fa fb)) := sc_cmp (op_inA hu) ops_in h k hm
theorem q_nin (hu : X.A.units + 65 < cLine) (h : SE X I W a fa) (k : SE X I W b fb) (hm : behindInMarks .NotIn b = false := by rfl) : SC X I W (.Compare a [.NotIn] [b] pos) (cB (eOp ninD fa fb)) := sc_cmp (op_ninA hu) ops_nin h k hm
/-- own == -/
theorem k_own {cn : Str} {C g : Addr} {fd : FuncData} {ps : List Str} {m : FSem} {n : Nat} {tys : List String} {cls : List Str} (T : OwnEqC X.K C g) (G : FnOk X.prog X.w X.K X.mg X.base (L2.CX X.prog X.w) n g fd ps (spOf (bas X I0) 2 m)) (hr : Room n X.A) (hb : Binds X.K fd ps []) (tk : Takes X W) (T2 : OwnEqT X.K X.mg cn C tys cls)
    (h : SE X I W a fa) (k : SE X I W b fb) : SE X I W (.Compare a [.Eq] [b] pos) (eOp (ownEqD cn false m tys cls) fa fb) :=
  se_cmp (op_ownEq T G hr hb (passes_call tk fun _ _ _ _ h => h.elim)) (ops_ownEq (B := bas X I) T2) h k
theorem k_ownNe {cn : Str} {C g : Addr} {fd : FuncData} {ps : List Str} {m : FSem} {n : Nat} {tys : List String} {cls : List Str} (T : OwnEqC X.K C g) (G : FnOk X.prog X.w X.K X.mg X.base (L2.CX X.prog X.w) n g fd ps (spOf (bas X I0) 2 m)) (hr : Room (n + 1) X.A) (hb : Binds X.K fd ps []) (tk : Takes X W) (T2 : OwnEqT X.K X.mg cn C tys cls)
    (h : SE X I W a fa) (k : SE X I W b fb) : SE X I W (.Compare a [.NotEq] [b] pos) (eOp (ownEqD cn true m tys cls) fa fb) :=
  se_cmp (op_ownNe T G hr hb (passes_call tk fun _ _ _ _ h => h.elim)) (ops_ownEq (B := bas X I) T2) h k
theorem q_own {cn : Str} {C g : Addr} {fd : FuncData} {ps : List Str} {m : FSem} {n : Nat} {tys : List String} {cls : List Str} (T : OwnEqC X.K C g) (G : FnOk X.prog X.w X.K X.mg X.base (L2.CX X.prog X.w) n g fd ps (spOf (bas X I0) 2 m)) (hr : Room n X.A) (hb : Binds X.K fd ps []) (tk : Takes X W) (T2 : OwnEqT X.K X.mg cn C tys cls)
    (h : SE X I W a fa) (k : SE X I W b fb) : SC X I W (.Compare a [.Eq] [b] pos) (cB (eOp (ownEqD cn false m tys cls) fa fb)) :=
  sc_cmp (op_ownEq T G hr hb (passes_call tk fun _ _ _ _ h => h.elim)) (ops_ownEq (B := bas X I) T2) h k
theorem q_ownNe {cn : Str} {C g : Addr} {fd : FuncData} {ps : List Str} {m : FSem} {n : Nat} {tys : List String} {cls : List Str} (T : OwnEqC X.K C g) (G : FnOk X.prog X.w X.K X.mg X.base (L2.CX X.prog X.w) n g fd ps (spOf (bas X I0) 2 m)) (hr : Room (n + 1) X.A) (hb : Binds X.K fd ps []) (tk : Takes X W) (T2 : OwnEqT X.K X.mg cn C tys cls)
    (h : SE X I W a fa) (k : SE X I W b fb) : SC X I W (.Compare a [.NotEq] [b] pos) (cB (eOp (ownEqD cn true m tys cls) fa fb)) :=
  sc_cmp (op_ownNe T G hr hb (passes_call tk fun _ _ _ _ h => h.elim)) (ops_ownEq (B := bas X I) T2) h k
/-- an expression that gives a truth value, as a test -/
theorem q_val (h : SE X I W a f) (he : ∀ whole, isTrue a X.env whole = (do let v ← whole; standAt a.pos; holding [v] (truthy v)) := by intro _; rfl) : SC X I W a (cT f) := sc_truth h he
/-! ### lists changed -/
theorem k_append {x : Str} {k : Nat} (hv : PE X (.Name x p) (tVar k)) (h : SE X I W a f)
    (hbase : attributeBase (.Name x p) "append" X.env (eval (.Name x p) X.env) = eval (.Name x p) X.env := by rfl)
    (hfew : ((backTo cpos (starEach [a] X.env)).all (fun x => !x.1) && (backToKw cpos (keywordEach [] X.env)).all (fun x => x.1.isSome) && decide ([a].length + ([] : List Keyword).length + (if ([] : List Keyword).isEmpty then 0 else 1) < 30)) = true := by rfl)
    (hline : (apos.endLine == cpos.line) = true := by rfl) (hs : starEach [a] X.env = (false, eval a X.env) :: starEach [] X.env := by rfl) (hplain : (backTo cpos (starEach [] X.env)).any (·.1) = false := by rfl) :
    SE X I W (.Call (.Attribute (.Name x p) "append" apos) [a] [] cpos) (eMut k appM [f]) := se_mut F.slot_list_append F.type_list_append mt_append mut_app hv (sl_cons h sl_nil hs) hbase hfew hline hs hplain
theorem k_pop {x : Str} {k : Nat} (hv : PE X (.Name x p) (tVar k)) (h : SE X I W a f)
    (hbase : attributeBase (.Name x p) "pop" X.env (eval (.Name x p) X.env) = eval (.Name x p) X.env := by rfl)
    (hfew : ((backTo cpos (starEach [a] X.env)).all (fun x => !x.1) && (backToKw cpos (keywordEach [] X.env)).all (fun x => x.1.isSome) && decide ([a].length + ([] : List Keyword).length + (if ([] : List Keyword).isEmpty then 0 else 1) < 30)) = true := by rfl)
    (hline : (apos.endLine == cpos.line) = true := by rfl) (hs : starEach [a] X.env = (false, eval a X.env) :: starEach [] X.env := by rfl) (hplain : (backTo cpos (starEach [] X.env)).any (·.1) = false := by rfl) :
    SE X I W (.Call (.Attribute (.Name x p) "pop" apos) [a] [] cpos) (eMut k popM [f]) := se_mut F.slot_list_pop F.type_list_pop (MtR.or mt_pop mt_popAt) mut_pop hv (sl_cons h sl_nil hs) hbase hfew hline hs hplain
end
/-! ### the facts of a law -/
structure Tx (fs : List Pf) (ds : List DF) (K : PySem.W.Frag) (mg : Str → Option Value) : Prop where
  c : SaysF fs ds K
  g : ∃ h : Heap, K.In h ∧ h.Ns mainGlobals mg
section
variable {fs : List Pf} {ds : List DF} {K : PySem.W.Frag} {mg : Str → Option Value}
theorem Tx.glo (T : Tx fs ds K mg) {x : Str} (i : Nat) (h : fs[i]? = some (fun K => globB K x)) : mg x = some (.ref (He.ga K x)) := let ⟨_, KX, G⟩ := T.g; PySem.W.mg_of KX G (of_decide_eq_true (T.c.fact h))
theorem Tx.free (T : Tx fs ds K mg) {x : Str} (i : Nat) (h : fs[i]? = some (fun K => freeB K x)) : mg x = none := let ⟨_, KX, G⟩ := T.g; PySem.W.mg_none_of KX G (of_decide_eq_true (T.c.fact h))
theorem Tx.int (T : Tx fs ds K mg) {x : Str} {j : Int} (i : Nat) (h : fs[i]? = some (fun K => (He.Fa.int x j).ok K)) : ∃ t, mg x = some (.int j t) := let ⟨_, KX, G⟩ := T.g; He.int_ok KX G (T.c.fact h)
theorem Tx.str (T : Tx fs ds K mg) {x z : Str} (i : Nat) (h : fs[i]? = some (fun K => (He.Fa.str x z).ok K)) : ∃ t, mg x = some (.str z t) := let ⟨_, KX, G⟩ := T.g; He.str_ok KX G (T.c.fact h)
end
end DL
end
section
/-! E17: tables of isinstance; a, b = x, y that keeps what is the def's own. -/
namespace DL
open PySem PySem.Spec L2
section
variable {K : PySem.W.Frag} {mg : Str → Option Value} {u : Value} {us : List Value} {tT : List (String × Bool)} {tK : List (Str × Bool)}
theorem isi_of (h : kitOB K u tT (tK.map fun p => (He.ga K p.1, p.2)) = true) (hg : ∀ p ∈ tK, mg p.1 = some (.ref (He.ga K p.1)) ∧ TyC K (He.ga K p.1)) : IsiOk K mg (fun t => PySem.W.kitOne K t u) tT tK := by
  obtain ⟨h1, h2⟩ := He.ba h
  refine ⟨fun p hp => of_decide_eq_true (List.all_eq_true.mp h1 p hp), fun p hp => ?_⟩
  obtain ⟨g1, g2⟩ := hg p hp
  exact ⟨_, g1, g2, of_decide_eq_true (List.all_eq_true.mp h2 (He.ga K p.1, p.2) (List.mem_map_of_mem (f := fun p => (He.ga K p.1, p.2)) hp))⟩
theorem isi_ofT (h : kitAB K us tT (tK.map fun p => (He.ga K p.1, p.2)) = true) (hg : ∀ p ∈ tK, mg p.1 = some (.ref (He.ga K p.1)) ∧ TyC K (He.ga K p.1)) : IsiOk K mg (fun t => PySem.W.kitAny K t us) tT tK := by
  obtain ⟨h1, h2⟩ := He.ba h
  refine ⟨fun p hp => of_decide_eq_true (List.all_eq_true.mp h1 p hp), fun p hp => ?_⟩
  obtain ⟨g1, g2⟩ := hg p hp
  exact ⟨_, g1, g2, of_decide_eq_true (List.all_eq_true.mp h2 (He.ga K p.1, p.2) (List.mem_map_of_mem (f := fun p => (He.ga K p.1, p.2)) hp))⟩
end
section
variable {X : Cx} {I : Addr → Value → Option Addr → Prop} {W : WX} {pos : Pos}
def sPar2 (i j : Nat) (fa fb : ESem) : SSem := fun ρ => (fa ρ).sbind fun ra ρ1 => (fb ρ1).sbind fun rb ρ2 => match ra, rb with
  | .fr oa, .fr ob => .nx ((ρ2.set i (some (.ow false oa))).set j (some (.ow false ob)))
  | _, _ => .no
theorem ss_par2 {i j : Nat} {x y : Str} {a b : Expr} {fa fb : ESem} {px py pt : Pos} {kt k2 : Nat} {pt2 : Pos} (hc : X.calm = true) (hN : X.N.Nodup) (hi : X.N[i]? = some x) (hj : X.N[j]? = some y) (hij : i ≠ j)
    (hx : X.env.scope.names.lookup x = some .local) (hy : X.env.scope.names.lookup y = some .local) (ha : SE X I W a fa) (hb : SE X I W b fb)
    (hw : swappedStores [.Tuple [.Name x px, .Name y py] kt pt] (.Tuple [a, b] k2 pt2) X.env = pure (some [x, y]))
    (hs : swapsWithSole [.Tuple [.Name x px, .Name y py] kt pt] (.Tuple [a, b] k2 pt2) pos.line X.env = pure false := by rfl)
    (h1 : starEach [a, b] X.env = (false, eval a X.env) :: starEach [b] X.env := by rfl) (h2 : starEach [b] X.env = (false, eval b X.env) :: starEach [] X.env := by rfl) :
    SS X I W (.Assign [.Tuple [.Name x px, .Name y py] kt pt] (.Tuple [a, b] k2 pt2) pos) (sPar2 i j fa fb) := by
  obtain ⟨t, p, m⟩ := ha
  obtain ⟨u, q, n⟩ := hb
  refine ⟨_, ps_par hc hN hi hj hij hx hy (pa_cons p (pa_cons q pa_nil h2) h1) hw hs, fun F ρ σ H R E hq => ?_⟩
  rw [sPar2, Out.OK_sbind] at hq
  refine m F ρ σ H R _ (hq.imp (fun ra ρ1 hq F1 H1 v S1 L1 R1 r1 => ?_) fun _ _ _ z => PostX.ofZ z)
  rw [Out.OK_sbind] at hq
  refine n F1 ρ1 σ H1 R1 _ (hq.imp (fun rb ρ2 hq F2 H2 w S2 L2 R2 r2 => ?_) fun _ _ _ z => (PostX.ofZ z).back S1)
  have r1' := r1.next S2 L2
  have S3 := S1.trans S2
  cases ra with
  | fr oa =>
    cases rb with
    | fr ob =>
      obtain ⟨aa, ea, ha0, hfa, roa, hha⟩ := r1'
      obtain ⟨ab, eb, hb0, hfb, rob, hhb⟩ := r2
      subst ea eb
      have hne : aa ≠ ab := fun z => by
        obtain ⟨a', ea', _, _, ro', _⟩ := r1
        obtain ⟨o', ho'⟩ := ro'.some
        cases ea'
        rw [z] at ho'
        rw [hb0] at ho'; cases ho'
      obtain ⟨R4, S4⟩ := R2.put (i := i) (sv := .ow false oa) (v := .ref aa) S3 ⟨aa, rfl, hfa, roa⟩ fun _ => ⟨oa, rfl, aa, rfl, ha0, hha⟩
      have hh2 : ∀ k, ¬ HasAt (ρ2.set i (some (.ow false oa))) (σ.set i (some (.ref aa))) k ab := fun k ⟨sv, q1, q2, q3⟩ => by
        rcases get_set q3 with ⟨_, z⟩ | ⟨z, q3⟩
        · injection z with z; injection z with z; exact hne z.symm
        · rcases get_set q1 with ⟨z2, _⟩ | ⟨_, q1⟩
          · exact z z2
          · exact hhb k ⟨sv, q1, q2, q3⟩
      obtain ⟨R5, S5⟩ := R4.put (i := j) (sv := .ow false ob) (v := .ref ab) S4 ⟨ab, rfl, hfb, rob⟩ fun _ => ⟨ob, rfl, ab, rfl, S1.dom _ hb0, hh2⟩
      exact ⟨_, _, rfl, hq F2 _ H2 S5 R5⟩
    | _ => exact hq.elim
  | _ => cases rb <;> exact hq.elim
end
theorem noat_of {K : PySem.W.Frag} {C : Addr} {f : Str} (h : decide (PySem.W.findIn K (.ref C) f = some none) = true) : NoAttr K C f := (of_decide_eq_true h : PySem.W.findIn K (.ref C) f = some none)
theorem pvN {X : Cx} {x : Str} {pos : Pos} {N : List Str} (i : Nat) (hN : X.N = N) (hv : X.env.scope.names.lookup x = some .local) (h : N[i]? = some x := by rfl) (hd : (x == ("__debug__" : Str)) = false := by decide) (hcd : (x == ("__classdict__" : Str)) = false := by decide) : PE X (.Name x pos) (tVar i) := pe_var (by rw [hN]; exact h) (.inl hv) hd hcd
end DL
end
section
/-! E18: a law's end. -/
namespace DL
open PySem PySem.Spec L2
theorem law_sp {K : PySem.W.Frag} {mg : Str → Option Value} {m : FSem} {n : Nat} (hm : ∀ ns : List Int, ns.length ≤ n → ∃ ρ, m [.fz (.scr ns)] = .ok (.fz (.bl true)) ρ) (H : Hp) (a : Addr) (ns : List Int) (hl : ns.length ≤ n) (hO : Only H) (hS : SqL K H a (ns.map V.int)) :
    spOf ⟨K, mg, I0⟩ 1 m [.ref a] H (fun v _ => v = .bl true) (fun _ _ _ => False) := by
  obtain ⟨ρ, e⟩ := hm ns hl
  let F : Hp := fun b => if b = a then H a else none
  have hF : ∀ b o, F b = some o → H b = some o := fun b o h => by
    by_cases q : b = a
    · subst q; exact (if_pos rfl).symm.trans h
    · have := (if_neg q).symm.trans h; cases this
  have hS2 : SqL K F a (ns.map V.int) := hS.elim (fun h => .inl (h.elim (fun h => .inl ((if_pos rfl).trans h)) fun ⟨o, h⟩ => .inr ⟨o, (if_pos rfl).trans h⟩)) .inr
  refine ⟨F, [.fz (.scr ns)], rfl, rfl, ⟨hF, rfl, fun i sv h => ?_, fun i j b ⟨bb, o, h1, _⟩ => ?_⟩, ?_⟩
  · cases i with
    | zero => cases h; exact ⟨.ref a, rfl, .scr hS2⟩
    | succ i => simp [envOf] at h
  · cases i with
    | zero => cases h1
    | succ i => simp [envOf] at h1
  · rw [e]
    exact fun F' H' v f r => by cases r; rfl
theorem cx_false {P : Program} {w : World} {H : Hp} {s : Shared} {e : Value} {s' : Shared} (z : L2.CX P w [] H s (fun _ _ _ => False) e s') : False := by
  obtain ⟨_, _, _, _, _, _, _, _, _, _, _, _, h⟩ := z
  exact h
end DL
end
section
/-! G1: comprehensions of any number of clauses, of lists, sets, dicts: the turns. -/
namespace DL
open PySem PySem.Spec L2 PyProof.Rows

/-- which of the three -/
inductive CK where
  | lst (elt : Expr) | set (elt : Expr) | dct (kx vx : Expr)
abbrev Cpn := PySem.Comprehension
def CK.ex (k : CK) (gs : List Cpn) (sc : Scope) (p : Pos) : Expr := match k with
  | .lst e => .ListComp e gs sc p
  | .set e => .SetComp e gs sc p
  | .dct a b => .DictComp a b gs sc p
/-- the tests of a clause -/
def tstS (f0 : List Expr) (env : PySem.Env) : Sem Bool := forIn f0 true fun c r => if r = true then (do let b ← PySem.isTrue c env (eval c env); pure (.yield b)) else pure (.yield r)
/-- a turn whose inner part is m -/
def trn (t0 i0 : Expr) (f0 : List Expr) (m : Sem PySem.Fin → Sem PySem.Fin) (c : Code) (it : Value) (env : PySem.Env) : Sem PySem.Fin := do standAt i0.pos; let o ← pyNext it; match o with | none => pure (.done .next) | some v => do letOwnedTupleGo t0 it v; assign t0 env v; let b ← tstS f0 env; (if b = true then m (again c) else again c)
/-- the inner part of a clause with another behind it -/
def mNext (e : Expr) (k : Nat) (acc : Value) (env : PySem.Env) (i1 : Expr) (z : Sem PySem.Fin) : Sem PySem.Fin := do let x ← eval i1 env; standAt i1.pos; let y ← foldedSetIterable i1 env x; let j ← holding [y] (pyIter y); let _ ← runOwn (.compStart e (k + 1) j acc env) env; z
/-- the item is handed on -/
def mThen (m : Sem Unit) (z : Sem PySem.Fin) : Sem PySem.Fin := do m; z
def mLst (acc : Value) (env : PySem.Env) (elt : Expr) : Sem Unit := do let x ← eval elt env; let _ ← call (.builtin "list.append") [acc, x]
def mSet (acc : Value) (env : PySem.Env) (elt : Expr) : Sem Unit := do let x ← eval elt env; standAt elt.pos; let _ ← call (.builtin "set.add") [acc, x]
def mDct (D : Addr) (env : PySem.Env) (kx vx : Expr) : Sem Unit := do let a ← eval kx env; let b ← holding [a] (eval vx env); standAt { kx.pos with endLine := vx.pos.endLine, endCol := vx.pos.endCol }; holding [a, b] (dictSet D a b)
section
variable {gs : List Cpn} {sc : Scope} {p : Pos} {it acc : Value} {env : PySem.Env} {k : Nat} {t0 i0 t1 i1 : Expr} {f0 f1 : List Expr}
theorem trn_next (ck : CK) (hk : gs[k]? = some ⟨t0, i0, f0, 0⟩) (h1 : gs[k + 1]? = some ⟨t1, i1, f1, 0⟩) : compTurn (ck.ex gs sc p) k it acc env = trn t0 i0 f0 (mNext (ck.ex gs sc p) k acc env i1) (.compLoop (ck.ex gs sc p) k it acc env) it env := by
  cases ck <;> (unfold compTurn; simp only [CK.ex, hk, h1]; rfl)
theorem trn_lst {elt : Expr} (hk : gs[k]? = some ⟨t0, i0, f0, 0⟩) (h1 : gs[k + 1]? = none) : compTurn (.ListComp elt gs sc p) k it acc env = trn t0 i0 f0 (mThen (mLst acc env elt)) (.compLoop (.ListComp elt gs sc p) k it acc env) it env := by
  unfold compTurn; simp only [hk, h1]; rfl
theorem trn_set {elt : Expr} (hk : gs[k]? = some ⟨t0, i0, f0, 0⟩) (h1 : gs[k + 1]? = none) : compTurn (.SetComp elt gs sc p) k it acc env = trn t0 i0 f0 (mThen (mSet acc env elt)) (.compLoop (.SetComp elt gs sc p) k it acc env) it env := by
  unfold compTurn; simp only [hk, h1]; rfl
theorem trn_dct {kx vx : Expr} {D : Addr} (hk : gs[k]? = some ⟨t0, i0, f0, 0⟩) (h1 : gs[k + 1]? = none) : compTurn (.DictComp kx vx gs sc p) k it (.ref D) env = trn t0 i0 f0 (mThen (mDct D env kx vx)) (.compLoop (.DictComp kx vx gs sc p) k it (.ref D) env) it env := by
  unfold compTurn; simp only [hk, h1]; rfl
end
section
variable {prog : Program} {w : World} {A : Around} {R : Result → Shared → Prop} {s : Shared} {ck : CK} {gs : List Cpn} {sc : Scope} {p : Pos} {it acc : Value} {env : PySem.Env} {k : Nat} {t0 i0 : Expr} {f0 : List Expr} {m : Sem PySem.Fin → Sem PySem.Fin}
abbrev NB (prog : Program) (w : World) (A : Around) (env : PySem.Env) (R : Result → Shared → Prop) : Value → Shared → Prop := notedBy (model prog w) A env fun x s' => R (.error x) s'
theorem loop_w (ht : compTurn (ck.ex gs sc p) k it acc env = trn t0 i0 f0 m (.compLoop (ck.ex gs sc p) k it acc env) it env) (J : Nat → Shared → Prop)
    (turn : ∀ n s, J n s → wpAny (model prog w) A (pyNext it) (fun r s1 => match r with
      | none => R (.ok .next) s1
      | some v => wpAny (model prog w) A (letOwnedTupleGo t0 it v) (fun _ s2 => wpAny (model prog w) A (assign t0 env v) (fun _ s3 => wpAny (model prog w) A (tstS f0 env) (fun b s4 =>
          if b = true then wpAny (model prog w) A (m (again (.compLoop (ck.ex gs sc p) k it acc env))) (fun f s5 => f = .again (.compLoop (ck.ex gs sc p) k it acc env) ∧ ∃ j, j < n ∧ J j s5) (NB prog w A env R) s4 else ∃ j, j < n ∧ J j s4) (NB prog w A env R) s3) (NB prog w A env R) s2) (NB prog w A env R) s1) (NB prog w A env R) s)
    (n : Nat) (h : J n s) : codeAny (model prog w) A (.compLoop (ck.ex gs sc p) k it acc env) R s := by
  refine codeAny_loop (by cases ck <;> rfl) J (fun n s hI => ?_) n h
  have ed : (model prog w).den (.compLoop (ck.ex gs sc p) k it acc env) = (compTurn (ck.ex gs sc p) k it acc env).onRaise (fun x => do noteFrame x env; theTreesLotGoes x) := by cases ck <;> rfl
  have eu : A.under (.compLoop (ck.ex gs sc p) k it acc env) = A := by cases ck <;> rfl
  rw [ed, eu]
  refine wpAny_noted ?_
  rw [ht]
  unfold trn
  refine wpAny_bind (wpAny_standAt (wpAny_bind (wpAny_mono (turn n s hI) (fun r s1 h1 => ?_) fun _ _ z => z)))
  cases r with
  | none => exact wpAny_pure h1
  | some v =>
    refine wpAny_bind (wpAny_mono h1 (fun _ s2 h2 => wpAny_bind (wpAny_mono h2 (fun _ s3 h3 => wpAny_bind (wpAny_mono h3 (fun b s4 h4 => ?_) fun _ _ z => z)) fun _ _ z => z)) fun _ _ z => z)
    cases b with
    | false => exact wpAny_pure ⟨rfl, h4⟩
    | true =>
      refine wpAny_mono h4 (fun f s5 h5 => ?_) fun _ _ z => z
      obtain ⟨rfl, h5⟩ := h5
      exact ⟨rfl, h5⟩
/-- a clause's start -/
theorem start_w {t1 i1 : Expr} {f1 : List Expr} (hk : gs[k]? = some ⟨t1, i1, f1, 0⟩) (h0 : codeAny (model prog w) A (.compLoop (ck.ex gs sc p) k it acc env) R s)
    (h : wpAny (model prog w) A (pyIter it) (fun j s' => codeAny (model prog w) A (.compLoop (ck.ex gs sc p) k j acc env) R s') (NB prog w A env R) s) : codeAny (model prog w) A (.compStart (ck.ex gs sc p) k it acc env) R s := by
  have hc : clausesOf (ck.ex gs sc p) = gs := by cases ck <;> rfl
  refine codeAny_of_tree ?_
  have ed : (model prog w).den (.compStart (ck.ex gs sc p) k it acc env) = (compStart (ck.ex gs sc p) k it acc env).onRaise (fun x => do noteFrame x env; standAt theWindowsPlace) := by cases ck <;> rfl
  have eu : A.under (.compStart (ck.ex gs sc p) k it acc env) = A := by cases ck <;> rfl
  rw [ed, eu]
  refine wpAny_notedAt ?_
  unfold compStart
  simp only [hc, hk]
  show wpAny _ _ (ask >>= _) _ _ s
  refine wpAny_bind (wpAny_askSetting (wpAny_ite ?_))
  split
  · exact wpAny_pure (And.intro rfl h0)
  · exact wpAny_bind (wpAny_rule (wpAny_bind (wpAny_standAt (wpAny_bind (wpAny_mono h (fun j s' h' => wpAny_pure (And.intro rfl h')) fun _ _ x => x)))))
end
end DL
end
section
/-! G2: the loops of a comprehension's block, each clause by its own parts. -/
namespace DL
open PySem PySem.Spec L2 PyProof.Rows

/-- from slots and heap on, to what is wanted of both behind -/
abbrev TB := L2.St → Hp → (L2.St → Hp → Prop) → Prop
def BOK (Y : Cx) (m : Sem PySem.Fin → Sem PySem.Fin) (t : TB) : Prop := ∀ (pins : List (Addr × Obj)) (s : Shared) (σ : L2.St) (H : Hp) (N : L2.St → Hp → Prop) (c : Code), Inv Y pins σ H s → t σ H N →
  wpAny (model Y.prog Y.w) Y.A (m (again c)) (fun f s' => f = .again c ∧ ∃ σ' H', Inv Y pins σ' H' s' ∧ N σ' H') (fun _ _ => False) s
def tLoop (g : TG) (tt : TT) (tin : TB) (J : It) : TB := fun σ H N => ∃ W : Nat → Nat → L2.St → Hp → Prop, (∃ m, W 0 m σ H) ∧ ∀ i m σ H, W i m σ H →
  (J.stop i H ∧ N σ H) ∨ (J.go i H ∧ ∃ Nx : L2.St → Hp → Prop, (∀ σ' H', Nx σ' H' → ∃ m', m' < m ∧ W (i + 1) m' σ' H') ∧ ∀ x H', J.yld i H x H' → g x σ H' fun σ2 H2 => tt σ2 H2 fun b H3 => if b = true then tin σ2 H3 Nx else Nx σ2 H3)
/-- what a block's loop is to end as -/
def EndB (Y : Cx) (pins : List (Addr × Obj)) (N : L2.St → Hp → Prop) (r : Result) (s' : Shared) : Prop := match r with
  | .ok _ => ∃ σ' H', Inv Y pins σ' H' s' ∧ N σ' H'
  | .error _ => False
def LOK (Y : Cx) (e : Expr) (k : Nat) (acc : Value) (tg : Expr) (tl : It → TB) : Prop := ∀ (pins : List (Addr × Obj)) (s : Shared) (σ : L2.St) (H : Hp) (N : L2.St → Hp → Prop) (it : Addr) (fp : List Addr) (tn : Nat → Heap → Prop) (J : It),
  Inv Y pins σ H s → Turn Y.prog Y.w Y.K tg J fp it tn → tn 0 s.heap → (∀ b ∈ fp, FpOk Y pins H b) → tl J σ H N → codeAny (model Y.prog Y.w) Y.A (.compLoop e k (.ref it) acc Y.env) (EndB Y pins N) s
section
variable {Y : Cx} {ck : CK} {gs : List Cpn} {sc : Scope} {p : Pos} {acc : Value} {k : Nat} {t0 i0 t1 i1 : Expr} {f0 f1 : List Expr} {m : Sem PySem.Fin → Sem PySem.Fin} {g : TG} {tt : TT} {tin : TB}
theorem lok (hc : Y.calm = true) (hx : Y.xe = fun _ _ => False) (ht : ∀ it, compTurn (ck.ex gs sc p) k it acc Y.env = trn t0 i0 f0 m (.compLoop (ck.ex gs sc p) k it acc Y.env) it Y.env) (pg : PG Y t0 g) (pt : PTs Y f0 tt) (bk : BOK Y m tin) : LOK Y (ck.ex gs sc p) k acc t0 (tLoop g tt tin) := by
  intro pins s σ H N it fp tn J I T st hfp h
  obtain ⟨W, ⟨m0, w0⟩, turn⟩ := h
  have stat : ∀ {H' : Hp}, (∀ b ∈ fp, H' b = none) → ∀ b ∈ fp, FpOk Y pins H' b := fun hn b hb => ⟨hn b hb, (hfp b hb).2⟩
  refine loop_w (ht (.ref it)) (fun n s' => ∃ i σ' H', Inv Y pins σ' H' s' ∧ tn i s'.heap ∧ (∀ b ∈ fp, H' b = none) ∧ W i n σ' H') ?_ m0 ⟨0, σ, H, I, st, fun b hb => (hfp b hb).1, w0⟩
  rintro n s5 ⟨i, σ5, H5, I5, st5, n5, w5⟩
  rcases turn i n σ5 H5 w5 with ⟨stop, qq⟩ | ⟨go, Nx, hNx, step⟩
  · refine thnF (T.done Y rfl rfl rfl hc i pins s5 σ5 H5 (fun _ _ => False) I5 (stat n5) st5 stop) fun r s6 ⟨hr, I6⟩ => ?_
    subst hr
    exact ⟨σ5, H5, I6, qq⟩
  · refine thnF (T.item Y rfl rfl rfl hc i pins s5 σ5 H5 (fun _ _ => False) I5 (stat n5) st5 go) fun r s6 ⟨u, hr, h6⟩ => ?_
    subst hr
    refine thnF h6 fun _ s7 ⟨x, H7, I7, r7, y7, st7, n7⟩ => ?_
    have I7' := I7.pinned (stat n7) (T.obj _ _ st7)
    have hg := pg.run _ s7 σ5 H7 x u _ I7' r7 (step x H7 y7)
    rw [hx] at hg
    refine thnF hg fun _ s8 ⟨σ8, H8, I8, q8⟩ => ?_
    have hp := pt.run _ s8 σ8 H8 _ I8 q8
    rw [hx] at hp
    refine thnF hp fun b s9 ⟨H9, I9, q9⟩ => ?_
    have fin : ∀ {s' : Shared} {σ' : L2.St} {H' : Hp}, Inv Y (pins ++ pinsAt fp s7.heap) σ' H' s' → Nx σ' H' → ∃ j, j < n ∧ ∃ i σ' H', Inv Y pins σ' H' s' ∧ tn i s'.heap ∧ (∀ b ∈ fp, H' b = none) ∧ W i j σ' H' := fun {s' σ' H'} I' nx => by
      obtain ⟨m', hm, w'⟩ := hNx σ' H' nx
      have pn : ∀ b ∈ fp, ∀ o, s7.heap.get? b = some o → s'.heap.get? b = some o ∧ H' b = none := fun b hb o e =>
        let z := I'.pin (b, o) (List.mem_append_right _ (List.mem_append_right _ (mem_pinsAt hb e)))
        ⟨z.1, z.2.1⟩
      refine ⟨m', hm, i + 1, σ', H', I'.unpinned, T.keep _ _ _ st7 fun b hb o e => (pn b hb o e).1, fun b hb => ?_, w'⟩
      obtain ⟨o, e, _⟩ := T.obj _ _ st7 b hb
      exact (pn b hb o e).2
    cases b with
    | false => exact fin I9 q9
    | true =>
      refine wpAny_mono (bk _ s9 σ8 H9 _ _ I9 q9) (fun f s10 ⟨ef, σ', H', I', nx⟩ => ⟨ef, fin I' nx⟩) fun _ _ z => z.elim
/-- another clause within -/
theorem bok_next {wi1 : TI} {tl : It → TB} (hk : gs[k + 1]? = some ⟨t1, i1, f1, 0⟩) (pi : PI Y t1 i1 wi1) (hs : ∀ x, foldedSetIterable i1 Y.env x = pure x) (hx : Y.xe = fun _ _ => False) (lk : LOK Y (ck.ex gs sc p) (k + 1) acc t1 tl) :
    BOK Y (mNext (ck.ex gs sc p) k acc Y.env i1) (fun σ H N => wi1 σ H fun J H1 => tl J σ H1 N) := by
  intro pins s σ H N c I h
  have hr := pi.run pins s σ H _ I h
  rw [hx] at hr
  unfold mNext
  refine wpAny_bind (thnF hr fun x s1 h1 => wpAny_bind (wpAny_standAt (wpAny_bind (wpAny_of_eq (hs x) (wpAny_bind (wpAny_holding (wpAny_mono h1 (fun j s2 h2 => ?_) fun _ _ z => z)))))))
  obtain ⟨it, fp, tn, J, H2, ej, I2, T, st, hfp, q⟩ := h2
  subst ej
  have lp := lk pins s2 σ H2 N it fp tn J I2 T st hfp q
  refine wpAny_bind (wpAny_runOwn ?_)
  rw [Around.mark_none]
  refine codeAny_mono (start_w hk lp (T.self Y.A 0 _ _ _ st lp)) fun r s3 hr => ?_
  cases r with
  | ok f => exact wpAny_pure ⟨rfl, hr⟩
  | error e => exact hr.elim
end
section
variable {Y : Cx} {D : Addr} {elt kx vx : Expr} {te tk tv : TE}
/-- the item goes into a list -/
theorem bok_lst (hx : Y.xe = fun _ _ => False) (pe : PE Y elt te) : BOK Y (mThen (mLst (.ref D) Y.env elt)) (fun σ H N => te σ H fun y H1 => ∃ us, H1 D = some (.lst us) ∧ us.length < sizeLine ∧ N σ (upd H1 D (.lst (us ++ [y])))) := by
  intro pins s σ H N c I h
  have hr := pe.run pins s σ H _ I h
  rw [hx] at hr
  unfold mThen mLst
  refine wpAny_bind (wpAny_bind (thnF hr fun v s1 ⟨y, H1, I1, r1, us, hD, hz, n⟩ => wpAny_bind (app_ok I1 hD hz r1 fun s2 I2 => wpAny_pure (wpAny_pure ⟨rfl, σ, _, I2, n⟩))))
/-- what adds to the set at D -/
def AddR (Y : Cx) (D : Addr) (r : V → Hp → (Hp → Prop) → Prop) : Prop := ∀ (pins : List (Addr × Obj)) (s : Shared) (σ : L2.St) (H : Hp) (y : V) (v : Value) (Q : Hp → Prop), Inv Y pins σ H s → RelV y v → r y H Q →
  wpAny (model Y.prog Y.w) Y.A (call (.builtin "set.add") [.ref D, v]) (fun _ s' => ∃ H', Inv Y pins σ H' s' ∧ Q H') (fun _ _ => False) s
theorem bok_set {r : V → Hp → (Hp → Prop) → Prop} (hx : Y.xe = fun _ _ => False) (pe : PE Y elt te) (ad : AddR Y D r) : BOK Y (mThen (mSet (.ref D) Y.env elt)) (fun σ H N => te σ H fun y H1 => r y H1 (N σ)) := by
  intro pins s σ H N c I h
  have hr := pe.run pins s σ H _ I h
  rw [hx] at hr
  unfold mThen mSet
  refine wpAny_bind (wpAny_bind (thnF hr fun v s1 ⟨y, H1, I1, r1, q⟩ => wpAny_bind (wpAny_standAt (wpAny_bind (thnF (ad pins s1 σ H1 y v _ I1 r1 q) fun _ s2 ⟨H2, I2, n⟩ => wpAny_pure (wpAny_pure ⟨rfl, σ, H2, I2, n⟩))))))
/-- what stores in the dict at D -/
def PutR (Y : Cx) (D : Addr) (r : V → V → Hp → (Hp → Prop) → Prop) : Prop := ∀ (pins : List (Addr × Obj)) (s : Shared) (σ : L2.St) (H : Hp) (y z : V) (u v : Value) (Q : Hp → Prop), Inv Y pins σ H s → RelV y u → RelV z v → r y z H Q →
  wpAny (model Y.prog Y.w) Y.A (dictSet D u v) (fun _ s' => ∃ H', Inv Y pins σ H' s' ∧ Q H') (fun _ _ => False) s
theorem bok_dct {r : V → V → Hp → (Hp → Prop) → Prop} (hx : Y.xe = fun _ _ => False) (pk : PE Y kx tk) (pv : PE Y vx tv) (pu : PutR Y D r) : BOK Y (mThen (mDct D Y.env kx vx)) (fun σ H N => tk σ H fun y H1 => tv σ H1 fun z H2 => r y z H2 (N σ)) := by
  intro pins s σ H N c I h
  have hr := pk.run pins s σ H _ I h
  rw [hx] at hr
  unfold mThen mDct
  refine wpAny_bind (wpAny_bind (thnF hr fun u s1 ⟨y, H1, I1, r1, q1⟩ => ?_))
  have hr2 := pv.run pins s1 σ H1 _ I1 q1
  rw [hx] at hr2
  refine wpAny_bind (wpAny_holding (thnF hr2 fun v s2 ⟨z, H2, I2, r2, q2⟩ => ?_))
  exact wpAny_bind (wpAny_standAt (wpAny_holding (thnF (pu pins s2 σ H2 y z u v _ I2 r1 r2 q2) fun _ s3 ⟨H3, I3, n⟩ => wpAny_pure ⟨rfl, σ, H3, I3, n⟩)))
end
end DL
end
section
/-! G3: a comprehension as a value. -/
namespace DL
open PySem PySem.Spec L2 PyProof.Rows

/-- the new thing that collects -/
def NewA (X : Cx) (u0 : Addr → HO) (mk : Sem Value) : Prop := ∀ (pins : List (Addr × Obj)) (s : Shared) (σ : L2.St) (H : Hp) (Q : Value → Shared → Prop) (E : Value → Shared → Prop), Inv X pins σ H s →
  (∀ s', H s.heap.objs.size = none → s'.heap.objs.size = s.heap.objs.size + 1 → (∀ b o, s.heap.get? b = some o → s'.heap.get? b = some o) → Inv X pins σ (upd H s.heap.objs.size (u0 s.heap.objs.size)) s' → Q (.ref s.heap.objs.size) s') → wpAny (model X.prog X.w) X.A mk Q E s
section
variable {X : Cx}
def tCmp (wi : TI) (u0 : Addr → HO) (tl : Addr → It → TB) (vs : List Nat) : TE := fun σ H Q => wi σ H fun J H1 => ∀ D, H1 D = none → tl D J (wipe σ vs) (upd H1 D (u0 D)) fun _ H2 => Q (.ref D) H2
theorem cmp_core {pins : List (Addr × Obj)} {s : Shared} {σ : L2.St} {H : Hp} {Q : VK} {ck : CK} {tg iter : Expr} {ifs : List Expr} {gs : List Cpn} {scope : Scope} {own : List (Str × Nat)} {pos pos' : Pos} {wi : TI} {u0 : Addr → HO} {mk : Sem Value} {tl : Addr → It → TB} {use : Option (Value → Sem Unit)} {Qf : Value → Shared → Prop}
    (hN : X.N.Nodup) (I : Inv X pins σ H s) (hi : PI X tg iter wi) (ok : BlkOk X.N X.env.scope scope own) (nw : NewA X u0 mk)
    (hl : ∀ (D : Addr) (s : Shared) (H : Hp) (C : Addr) (cl : List (Str × Addr)) (fp : List Addr), LOK (X.blk s H scope (compEnvC scope cl C X.env) fp) (ck.ex (⟨tg, iter, ifs, 0⟩ :: gs) scope pos) 0 (.ref D) tg (tl D))
    (hs : ∀ x, foldedSetIterable iter X.env x = pure x) (h : tCmp wi u0 tl (own.map (·.2)) σ H Q)
    (hRR : ∀ D C s' m H', Inv X pins σ H' s' → Q (.ref D) H' → s'.heap.Ns C m → FpOk X pins H' C → compPost (model X.prog X.w) X.A X.xe use Qf (.ref D) C (.ok .next) s') :
    wpAny (model X.prog X.w) X.A (comprehension (ck.ex (⟨tg, iter, ifs, 0⟩ :: gs) scope pos) scope X.env pos' mk false (eval iter X.env) use) Qf X.xe s := by
  have hfree : ∀ y ∈ scope.names, y.2 = .free → ∃ c, X.env.cells.lookup y.1 = some c := fun y hy e => (ok.free y hy e).elim (fun k => I.ok.has _ (.inl k)) fun k => I.ok.has _ (.inr k)
  have hcl : clausesOf (ck.ex (⟨tg, iter, ifs, 0⟩ :: gs) scope pos) = ⟨tg, iter, ifs, 0⟩ :: gs := by cases ck <;> rfl
  refine wpAny_comprehension_free (use := use) hcl hs (closure_ok hfree) ok.kind (fun y hy e => by rw [ok.uniq y hy, e]) (thn (hi.run pins s σ H _ I h) fun xv s1 hx => thn hx fun itv s2 h2 => ?_)
  obtain ⟨it, fp, tn, J, H2, e, I2, T, st2, f2, q⟩ := h2
  subst e
  refine nw pins s2 σ H2 _ _ I2 fun s3 hDn hsz kp I3 => ?_
  generalize hD : s2.heap.objs.size = D at hDn hsz I3 ⊢
  refine newEnv_comp ?_
  have q := q D hDn
  have sz : ∀ b ∈ fp, b < s2.heap.objs.size := fun b hb => let ⟨o, e, _⟩ := T.obj _ _ st2 b hb; Heap.lt_size e
  have f3 : ∀ b ∈ fp, FpOk X pins (upd H2 D (u0 D)) b ∧ b < s3.heap.objs.size := fun b hb => by
    have hlt := sz b hb
    refine ⟨⟨?_, (f2 b hb).2⟩, by rw [hsz, ← hD]; exact Nat.lt_succ_of_lt hlt⟩
    rw [upd_ne (by rw [← hD]; exact Nat.ne_of_lt hlt)]
    exact (f2 b hb).1
  have st3 : tn 0 s3.heap := T.keep _ _ _ st2 fun b _ o e => kp b o e
  have I4 := block_start I3 ok hN f3
  have lp := hl D s3 (upd H2 D (u0 D)) s3.heap.objs.size (cellsFrom (s3.heap.objs.size + 1) scope.names (cloFrom X.env.cells scope.names [])) fp
  show codeAny _ _ (.compStart (ck.ex (⟨tg, iter, ifs, 0⟩ :: gs) scope pos) 0 (.ref it) (.ref D) (compEnvC scope (cellsFrom (s3.heap.objs.size + 1) scope.names (cloFrom X.env.cells scope.names [])) s3.heap.objs.size X.env)) (compPost (model X.prog X.w) X.A X.xe use Qf (.ref D) s3.heap.objs.size) { s3 with heap := pushCells (s3.heap.push { cls := .type "dict", data := .dict #[] }) scope.names }
  have nfp : ∀ b ∈ fp, (upd H2 D (u0 D)) b = none := fun b hb => (f3 b hb).1.1
  generalize hce : compEnvC scope (cellsFrom (s3.heap.objs.size + 1) scope.names (cloFrom X.env.cells scope.names [])) s3.heap.objs.size X.env = ce at I4 lp ⊢
  have cL : ce.locals = s3.heap.objs.size := by subst hce; rfl
  generalize hH3 : upd H2 D (u0 D) = H3 at I3 I4 lp nfp f3 q
  generalize hs4 : ({ s3 with heap := pushCells (s3.heap.push { cls := .type "dict", data := .dict #[] }) scope.names } : Shared) = s4 at I4 ⊢
  have st4 : tn 0 s4.heap := T.keep _ _ _ st3 fun b _ o e => by rw [← hs4]; exact pushCells_keeps _ _ _ _ (Heap.get?_push_of_some _ e)
  have stat : ∀ b ∈ fp, FpOk (X.blk s3 H3 scope ce fp) [] H3 b := fun b hb =>
    ⟨nfp b hb, (I4.ok.exf b hb).1, I4.ok.exfs b hb, .inl hb, fun x c e => (I4.ok.exf b hb).2 x c e, fun p hp => absurd (show p ∈ ([] : List (Addr × Obj)) ++ [] from hp) (by simp)⟩
  have loop := lp [] s4 (wipe σ (own.map (·.2))) H3 (fun _ H2 => Q (.ref D) H2) it fp tn J I4 T st4 stat q
  have loop' : codeAny (model X.prog X.w) X.A (.compLoop (ck.ex (⟨tg, iter, ifs, 0⟩ :: gs) scope pos) 0 (.ref it) (.ref D) ce) (compPost (model X.prog X.w) X.A X.xe use Qf (.ref D) s3.heap.objs.size) s4 := by
    refine codeAny_mono loop fun r s6 hr => ?_
    cases r with
    | error e => exact hr.elim
    | ok f =>
      obtain ⟨σ6, H5, I6, qq⟩ := hr
      have I7 : Inv X pins σ H5 s6 := I3.call' (ch := fp) I6.os I6.base I6.hok I6.bare fun b hb => ⟨(f3 b hb).1.2.2.2.1, (f3 b hb).1.2.1, (f3 b hb).1.2.2.2.2.1, (f3 b hb).1.2.2.2.2.2⟩
      have nC : H5 s3.heap.objs.size = none := by
        have z : H5 ce.locals = none := I6.free
        rw [cL] at z
        exact z
      obtain ⟨m, hn, _⟩ := I6.loc
      have hn : s6.heap.Ns ce.locals m := hn
      rw [cL] at hn
      have z := hRR D s3.heap.objs.size s6 m H5 I7 qq hn (I3.fpOk (Nat.le_refl _) nC)
      cases use <;> exact z
  exact start_w rfl loop' (T.self X.A 0 _ _ _ st4 loop')
theorem new_lst : NewA X (fun _ => .lst []) (PySem.newList []) := by
  intro pins s σ H Q E I q
  refine wpAny_newObj_type (q _ (I.hok.fresh (Nat.le_refl _)) (Heap.size_push ..) (fun b o e => Heap.get?_push_of_some _ e) ?_) (by show 0 ≤ sizeLine; decide)
  exact I.laid (t' := s.toks) (fun b o e => Heap.get?_push_of_some _ e) (Nat.le_refl _) ⟨Nat.zero_le _, [], 0, .nil, Heap.get?_push_size _ rfl⟩
/-- as a value -/
theorem pe_cmp {ck : CK} {tg iter : Expr} {ifs : List Expr} {gs : List Cpn} {scope : Scope} {own : List (Str × Nat)} {pos pos' : Pos} {wi : TI} {u0 : Addr → HO} {mk : Sem Value} {tl : Addr → It → TB}
    (he : eval (ck.ex (⟨tg, iter, ifs, 0⟩ :: gs) scope pos) X.env = comprehension (ck.ex (⟨tg, iter, ifs, 0⟩ :: gs) scope pos) scope X.env pos' mk false (eval iter X.env) none)
    (hN : X.N.Nodup) (hi : PI X tg iter wi) (ok : BlkOk X.N X.env.scope scope own) (nw : NewA X u0 mk)
    (hl : ∀ (D : Addr) (s : Shared) (H : Hp) (C : Addr) (cl : List (Str × Addr)) (fp : List Addr), LOK (X.blk s H scope (compEnvC scope cl C X.env) fp) (ck.ex (⟨tg, iter, ifs, 0⟩ :: gs) scope pos) 0 (.ref D) tg (tl D))
    (hs : ∀ x, foldedSetIterable iter X.env x = pure x) : PE X (ck.ex (⟨tg, iter, ifs, 0⟩ :: gs) scope pos) (tCmp wi u0 tl (own.map (·.2))) := by
  refine ⟨fun pins s σ H Q I h => ?_⟩
  rw [he]
  refine cmp_core hN I hi ok nw hl hs h fun D C s' m H' I' q hn f => ⟨m, hn, fun h'' sb => ?_⟩
  obtain ⟨f0, f1, f2, f3, f4, f5⟩ := f
  exact ⟨.ref D, H', I'.turned (t' := s'.toks) (fun b o hb e => (sb.2 b hb).trans e) f0 f1 f3 f4 f5, rfl, q⟩
/-- stored under a name -/
theorem ps_cmp {ck : CK} {i : Nat} {y : Str} {py : Pos} {tg iter : Expr} {ifs : List Expr} {gs : List Cpn} {scope : Scope} {own : List (Str × Nat)} {pos pos' spos : Pos} {wi : TI} {u0 : Addr → HO} {mk : Sem Value} {tl : Addr → It → TB}
    (he : ∀ use, evalThenUse (ck.ex (⟨tg, iter, ifs, 0⟩ :: gs) scope pos) X.env use = (do let _ ← comprehension (ck.ex (⟨tg, iter, ifs, 0⟩ :: gs) scope pos) scope X.env pos' mk false (eval iter X.env) (some use)))
    (hsw : swapsWith (ck.ex (⟨tg, iter, ifs, 0⟩ :: gs) scope pos) (some (.Name y py)) spos.line X.env = pure true)
    (hN : X.N.Nodup) (hy : X.N[i]? = some y) (hyl : X.env.scope.names.lookup y = some .local) (hi : PI X tg iter wi) (ok : BlkOk X.N X.env.scope scope own) (nw : NewA X u0 mk)
    (hl : ∀ (D : Addr) (s : Shared) (H : Hp) (C : Addr) (cl : List (Str × Addr)) (fp : List Addr), LOK (X.blk s H scope (compEnvC scope cl C X.env) fp) (ck.ex (⟨tg, iter, ifs, 0⟩ :: gs) scope pos) 0 (.ref D) tg (tl D))
    (hs : ∀ x, foldedSetIterable iter X.env x = pure x) : PS X (.Assign [.Name y py] (ck.ex (⟨tg, iter, ifs, 0⟩ :: gs) scope pos) spos) (tAsg (tCmp wi u0 tl (own.map (·.2))) (gName i)) := by
  refine ⟨fun pins s σ H D I h => ?_⟩
  rw [exec_Assign_Name_used _ _ _ _ hsw, he]
  have h : tCmp wi u0 tl (own.map (·.2)) σ H (fun x H1 => gName i x σ H1 D.nx) := h
  refine wpAny_bind (wpAny_standAt (wpAny_bind (wpAny_bind (thn (cmp_core (Qf := fun _ s' => SP X pins D .next s') hN I hi ok nw hl hs h fun L C s' m H' I' q hn f => ?_) fun _ s' hq => wpAny_pure (wpAny_pure hq)))))
  show wpAny _ _ (assign (.Name y py) X.env (.ref L)) _ _ _
  refine wpAny_assign_Name (store_ok2 (v := V.ref L) I' hN hy (.inl hyl) rfl (fun s2 I2 ⟨a, sb, ha⟩ => ?_) (.inr hyl))
  obtain ⟨f0, f1, f2, f3, f4, f5⟩ := f
  have haC : C ≠ a := ha.elim (fun z => by rw [z]; exact f1) fun z e => f4 y a z e.symm
  refine ⟨m, hn.sameBut sb haC, fun h3 sb3 => ?_⟩
  exact ⟨_, H', I2.turned (t' := s2.toks) (fun b o hb e => (sb3.2 b hb).trans e) f0 f1 f3 f4 f5, q⟩
end
end DL
end
section
/-! G4: what is walked, as data. -/
namespace DL
open PySem PySem.Spec L2

/-- what an iterator hands out: plain data, or a new tuple -/
inductive Made (B : Bas) (F H : Hp) (x : V) (d : D) (H' : Hp) : Prop
  | old : H' = H → Rep B F x d → Made B F H x d H'
  | tup (q : Addr) (us : List V) (es : List D) : H q = none → H' = upd H q (.tup us) → x = .ref q → d = .tup es → RepL B F us es → Made B F H x d H'
/-- J walks ds wherever Ok holds -/
structure Yl (B : Bas) (J : It) (ds : List D) (F : Hp) (Ok : Hp → Prop) : Prop where
  go : ∀ i H', Ok H' → i < ds.length → J.go i H'
  stop : ∀ H', Ok H' → J.stop ds.length H'
  yld : ∀ i H' x H'' d, Ok H' → ds[i]? = some d → J.yld i H' x H'' → Made B F H' x d H''
/-- what no slot owns stands as it stood, but for Ex -/
def Stands (Ex : Addr → Prop) (ρ : Env) (σ : L2.St) (H H' : Hp) : Prop := ∀ a o, H a = some o → (∀ k, ¬ OwnAt ρ σ k a) → ¬ Ex a → H' a = some o
theorem Stands.refl {Ex : Addr → Prop} {ρ : Env} {σ : L2.St} {H : Hp} : Stands Ex ρ σ H H := fun _ _ h _ _ => h
/-- slots locked while they are walked -/
def lock1 (ρ : Env) (r : RV) : Env := match r with
  | .sl k => (match ρ[k]? with
    | some (some (.ow _ o)) => ρ.set k (some (.lk o))
    | _ => ρ)
  | _ => ρ
def unl1 (ρ0 : Env) (r : RV) (ρ : Env) : Env := match r with
  | .sl k => (match ρ0[k]? with
    | some (some (.ow w _)) => unl k w ρ
    | _ => ρ)
  | _ => ρ
def lockL : Env → List RV → Env
  | ρ, [] => ρ
  | ρ, r :: rs => lockL (lock1 ρ r) rs
def unlL : Env → List RV → Env → Env
  | _, [], ρ => ρ
  | ρ0, r :: rs, ρ => unl1 ρ0 r (unlL (lock1 ρ0 r) rs ρ)
section
variable {B : Bas} {F F' H H' : Hp} {ρ ρ' : Env} {σ σ' : L2.St} {r : RV} {rs : List RV}
theorem lock1_rel (R : Rel B F ρ σ H) : Rel B F (lock1 ρ r) σ H := by
  unfold lock1
  cases r with
  | sl k => 
    dsimp only
    split
    · rename_i w o e; exact lock_rel R e
    · exact R
  | _ => exact R
theorem unl1_ok (R : Rel B F ρ σ H) (S : Stp F (lock1 ρ r) σ H F' ρ' σ' H') (R' : Rel B F' ρ' σ' H') : Stp F ρ σ H F' (unl1 ρ r ρ') σ' H' ∧ Rel B F' (unl1 ρ r ρ') σ' H' := by
  unfold lock1 at S
  unfold unl1
  cases r with
  | sl k =>
    dsimp only at S ⊢
    split at S
    · rename_i w o e
      exact unlock R e S R'
    · exact ⟨S, R'⟩
  | _ => exact ⟨S, R'⟩
theorem lockL_rel : ∀ {rs : List RV} {ρ : Env}, Rel B F ρ σ H → Rel B F (lockL ρ rs) σ H
  | [], _, R => R
  | r :: rs, _, R => lockL_rel (rs := rs) (lock1_rel R)
theorem unlL_ok : ∀ {rs : List RV} {ρ : Env}, Rel B F ρ σ H → Stp F (lockL ρ rs) σ H F' ρ' σ' H' → Rel B F' ρ' σ' H' → Stp F ρ σ H F' (unlL ρ rs ρ') σ' H' ∧ Rel B F' (unlL ρ rs ρ') σ' H'
  | [], _, R, S, R' => ⟨S, R'⟩
  | r :: rs, _, R, S, R' => by
    obtain ⟨S1, R1⟩ := unlL_ok (rs := rs) (lock1_rel (r := r) R) S R'
    exact unl1_ok R S1 R1
/-- a locked slot owns nothing; the others own what they owned -/
theorem lock1_own {k : Nat} {a : Addr} (h : OwnAt (lock1 ρ r) σ k a) : OwnAt ρ σ k a := by
  unfold lock1 at h
  cases r with
  | sl j =>
    dsimp only at h
    split at h
    · rename_i w o e
      obtain ⟨b, o1, h1, h2⟩ := h
      rcases get_set h1 with ⟨_, z⟩ | ⟨_, z⟩
      · cases z
      · exact ⟨b, o1, z, h2⟩
    · exact h
  | _ => exact h
theorem lockL_own : ∀ {rs : List RV} {ρ : Env} {k : Nat} {a : Addr}, OwnAt (lockL ρ rs) σ k a → OwnAt ρ σ k a
  | [], _, _, _, h => h
  | r :: rs, _, _, _, h => lock1_own (lockL_own (rs := rs) h)
theorem lock1_has {k : Nat} {a : Addr} (h : HasAt (lock1 ρ r) σ k a) : HasAt ρ σ k a := by
  unfold lock1 at h
  cases r with
  | sl j =>
    dsimp only at h
    split at h
    · rename_i w o e
      obtain ⟨s, h1, h2, h3⟩ := h
      rcases get_set h1 with ⟨q, z⟩ | ⟨_, z⟩
      · subst q; exact ⟨_, e, rfl, h3⟩
      · exact ⟨s, z, h2, h3⟩
    · exact h
  | _ => exact h
theorem lockL_has : ∀ {rs : List RV} {ρ : Env} {k : Nat} {a : Addr}, HasAt (lockL ρ rs) σ k a → HasAt ρ σ k a
  | [], _, _, _, h => h
  | r :: rs, _, _, _, h => lock1_has (lockL_has (rs := rs) h)
end
/-! ### data that is read stands still -/
/-- no thing of Ex is told by data, slots, or is new -/
def ExOk (Ex : Addr → Prop) (H0 F : Hp) (ρ : Env) (σ : L2.St) (H : Hp) : Prop := ∀ a, Ex a → H a = none ∨ (H0 a ≠ none ∧ F a = none ∧ ∀ k, ¬ HasAt ρ σ k a)
/-- what r reads, as a thing of the heap that stands -/
def Rst (B : Bas) (H0 F H : Hp) (ρ ρl : Env) (σ : L2.St) (x : V) (d : D) : Prop := ∀ ds, itemsD d = some ds →
  (∃ a xs, x = .ref a ∧ RepL B F xs ds ∧ ∀ Ex, ExOk Ex H0 F ρ σ H → ∀ H', Stands Ex ρl σ H H' → SqL B.K H' a xs) ∨ (∃ a xs, x = .ref a ∧ RepL B F xs ds ∧ ∀ Ex, ExOk Ex H0 F ρ σ H → ∀ H', Stands Ex ρl σ H H' → SqT B.K H' a xs) ∨ ∃ z, x = .str z ∧ d = .str z
theorem stands_rd {Ex : Addr → Prop} {ρ : Env} {σ : L2.St} {H H' : Hp} {a : Addr} {u : HO} (S : Stands Ex ρ σ H H') (n : ∀ k, ¬ OwnAt ρ σ k a) (e : ¬ Ex a) (h : Rd H a u) : Rd H' a u := h.elim (fun h => .inl (S a _ h n e)) fun ⟨o, h⟩ => .inr ⟨o, S a _ h n e⟩
section
variable {B : Bas} {F H H0 : Hp} {ρ : Env} {σ : L2.St} {v : V} {d : D} {rs : List RV}
theorem rst_rep (R : Rel B F ρ σ H) (h : Rep B F v d) : Rst B H0 F H ρ (lockL ρ rs) σ v d := by
  intro ds e
  have nx : ∀ {a : Addr} {u : HO}, Rd F a u → ∀ Ex, ExOk Ex H0 F ρ σ H → ¬ Ex a := fun {a u} h Ex hx z => by
    have hF : F a ≠ none := h.elim (fun h => by rw [h]; exact fun z => nomatch z) fun ⟨o, h⟩ => by rw [h]; exact fun z => nomatch z
    have hH : H a ≠ none := h.elim (fun h => by rw [R.ext _ _ h]; exact fun z => nomatch z) fun ⟨o, h⟩ => by rw [R.ext _ _ h]; exact fun z => nomatch z
    rcases hx a z with q | ⟨_, q, _⟩
    · exact hH q
    · exact hF q
  have no : ∀ {a : Addr} {u : HO}, Rd F a u → ∀ k, ¬ OwnAt (lockL ρ rs) σ k a := fun h k z => h.elim (fun h => own_free R h k (lockL_own z)) fun ⟨o, h⟩ => own_free R h k (lockL_own z)
  cases h with
  | lst h1 l => cases e; exact .inl ⟨_, _, rfl, l, fun Ex hx H' S => .inl (stands_rd S (no (.inl h1)) (nx (.inl h1) Ex hx) (.inl (R.ext _ _ h1)))⟩
  | str z => exact .inr (.inr ⟨z, rfl, rfl⟩)
  | tup h1 l => cases e; exact .inr (.inl ⟨_, _, rfl, l, fun Ex hx H' S => .inl (stands_rd S (no (.inl h1)) (nx (.inl h1) Ex hx) (.inl (R.ext _ _ h1)))⟩)
  | ktp h1 => cases e; exact .inr (.inl ⟨_, _, rfl, RepL.strs _, fun Ex hx H' S => .inr h1⟩)
  | scr h1 => cases e; exact .inl ⟨_, _, rfl, RepL.ints _, fun Ex hx H' S => h1.elim (fun h => .inl (stands_rd S (no h) (nx h Ex hx) (rd_mono R.ext h))) .inr⟩
  | _ => cases e
theorem rst_obj {a : Addr} {o : OB} (hr : RepO B F H a o) (n : ∀ k, ¬ OwnAt (lockL ρ rs) σ k a) (nx : ∀ Ex, ExOk Ex H0 F ρ σ H → ¬ Ex a) (e : o.d = some d) : Rst B H0 F H ρ (lockL ρ rs) σ (.ref a) d := by
  intro ds e2
  cases o with
  | ob c fs => cases e
  | lst es =>
    obtain ⟨xs, h1, l⟩ := hr
    cases e; cases e2
    exact .inl ⟨a, xs, rfl, l, fun Ex hx H' S => .inl (.inl (S a _ h1 n (nx Ex hx)))⟩
  | dK _ => cases e; cases e2
  | dT _ => cases e; cases e2
/-- a slot's own list, locked -/
theorem lock_no {k : Nat} {a : Addr} {b : Bool} {o : OB} (hs : σ[k]? = some (some (.ref a))) : ∀ (rs : List RV) (ρ : Env), Rel B F ρ σ H → (ρ[k]? = some (some (.ow b o)) ∨ ρ[k]? = some (some (.lk o))) → .sl k ∈ rs → ∀ j, ¬ OwnAt (lockL ρ rs) σ j a
  | [], _, _, _, m, _, _ => nomatch m
  | r :: rs, ρ, R, hk, m, j, z => by
    have R1 := lock1_rel (r := r) R
    by_cases q : r = .sl k
    · subst q
      have hk' : (lock1 ρ (.sl k))[k]? = some (some (.lk o)) := by
        unfold lock1
        rcases hk with hk | hk
        · simp only [hk]; rw [List.getElem?_set, if_pos rfl, if_pos (List.getElem?_eq_some_iff.mp hk).1]
        · simp only [hk]
      have hz := lockL_own (rs := rs) (ρ := lock1 ρ (.sl k)) z
      obtain ⟨b1, o1, z1, z2⟩ := hz
      have := R1.sep j k a ⟨b1, o1, z1, z2⟩ ⟨_, hk', rfl, hs⟩
      subst this
      rw [hk'] at z1; cases z1
    · rcases List.mem_cons.mp m with m | m
      · exact q m.symm
      · refine lock_no (b := b) (o := o) hs rs (lock1 ρ r) R1 ?_ m j z
        unfold lock1
        cases r with
        | sl i =>
          dsimp only
          split
          · rename_i w o2 e
            by_cases hi : i = k
            · exact absurd (by rw [hi]) q
            · rw [List.getElem?_set, if_neg hi]; exact hk
          · exact hk
        | _ => exact hk
theorem rst_of {H1 : Hp} {r : RV} (R : Rel B F ρ σ H1) (h : RvR B F ρ σ H0 H1 v r) (e : rd ρ r = some d) (m : r ∈ rs) : Rst B H0 F H1 ρ (lockL ρ rs) σ v d := by
  cases r with
  | fz d' => cases e; exact rst_rep R h
  | fr ob =>
    obtain ⟨a, ea, hn0, hF, ho, hn⟩ := h
    subst ea
    refine rst_obj ho (fun k z => hn k (lockL_own z).has) (fun Ex hx z => ?_) e
    rcases hx a z with q | ⟨q, _, _⟩
    · obtain ⟨u, hu⟩ := ho.some; rw [hu] at q; cases q
    · exact q hn0
  | sl k =>
    obtain ⟨g1, sv, g2⟩ := h
    obtain ⟨v', w1, w2⟩ := R.sl k sv g2
    rw [g1] at w1; cases w1
    simp only [rd, g2] at e
    have nx : ∀ {a : Addr} {o : OB}, v = .ref a → sv.obj = true → RepO B F H1 a o → ∀ Ex, ExOk Ex H0 F ρ σ H1 → ¬ Ex a := fun {a o} ea ho hr Ex hx z => by
      subst ea
      rcases hx a z with q | ⟨_, _, q⟩
      · obtain ⟨u, hu⟩ := hr.some; rw [hu] at q; cases q
      · exact q k ⟨sv, g2, ho, g1⟩
    cases sv with
    | fz d' => cases e; exact rst_rep R w2
    | lk ob =>
      obtain ⟨a, ea, _, ho⟩ := w2
      have nx2 := nx ea rfl ho
      subst ea
      refine rst_obj ho (fun j z => ?_) nx2 e
      have z := lockL_own z
      have z2 := R.sep j k a z ⟨_, g2, rfl, g1⟩
      subst z2
      obtain ⟨b', o1, z3, _⟩ := z
      rw [g2] at z3; cases z3
    | ow b ob =>
      obtain ⟨a, ea, _, ho⟩ := w2
      have nx2 := nx ea rfl ho
      subst ea
      exact rst_obj ho (lock_no g1 rs ρ R (.inl g2) m) nx2 e
    | xn c fs => cases e
    | dd => cases e
end
/-! ### sources -/
abbrev SrcF := Env → Out (List D × List RV)
def SI (X : Cx) (I : Addr → Value → Option Addr → Prop) (W : WX) (tg iter : Expr) (src : SrcF) : Prop := ∃ wi, PI X tg iter wi ∧ ∀ F ρ σ H, Rel (bas X I) F ρ σ H → ∀ P : It → Hp → Prop,
  (src ρ).OK (fun r ρ1 => ∀ F1 H1 J, Stp F ρ σ H F1 ρ1 σ H1 → Live ρ ρ1 → Rel (bas X I) F1 ρ1 σ H1 → (∀ Ex, ExOk Ex H F1 ρ1 σ H1 → Yl (bas X I) J r.1 F1 (Stands Ex (lockL ρ1 r.2) σ H1)) → P J H1) (fun c fs ρ' => PostX (bas X I) F ρ σ H c fs ρ' W) → wi σ H P
def srcD (f : ESem) : SrcF := fun ρ => (f ρ).bind fun r ρ1 => match rd ρ1 r with
  | some d => (match itemsD d with
    | some ds => .ok (ds, [r]) ρ1
    | none => .no)
  | none => .no
def srcR (rg : List D → Option (Int × Int)) (args : List ESem) : SrcF := fun ρ => (eL args ρ).bind fun ds ρ1 => match rg ds with
  | some (i, j) => if smallR i j = true then .ok (rangeD i j, []) ρ1 else .no
  | none => .no
section
variable {B : Bas} {F : Hp} {xs : List V} {ds : List D} {a : Addr} {Ok : Hp → Prop}
theorem yl_l (l : RepL B F xs ds) (h : ∀ H', Ok H' → SqL B.K H' a xs) : Yl B (Itl B.K a) ds F Ok := by
  have hlen := l.length
  refine ⟨fun i H' ok hi => ⟨xs, xs[i]'(by omega), h H' ok, by simp [show i < xs.length by omega]⟩, fun H' ok => ⟨xs, h H' ok, by omega⟩, fun i H' x H'' d ok hd hy => ?_⟩
  obtain ⟨e1, hy⟩ := hy
  obtain ⟨v, w1, w2⟩ := l.get hd
  rw [hy xs (h H' ok)] at w1
  cases w1
  exact .old e1 w2
theorem yl_t (l : RepL B F xs ds) (h : ∀ H', Ok H' → SqT B.K H' a xs) : Yl B (Itt B.K a) ds F Ok := by
  have hlen := l.length
  refine ⟨fun i H' ok hi => ⟨xs, xs[i]'(by omega), h H' ok, by simp [show i < xs.length by omega]⟩, fun H' ok => ⟨xs, h H' ok, by omega⟩, fun i H' x H'' d ok hd hy => ?_⟩
  obtain ⟨e1, hy⟩ := hy
  obtain ⟨v, w1, w2⟩ := l.get hd
  rw [hy xs (h H' ok)] at w1
  cases w1
  exact .old e1 w2
theorem yl_s {z : Str} : Yl B (Its z) (z.cps.toList.map fun c => .str ⟨#[c]⟩) F Ok := by
  have hlen : (z.cps.toList.map fun c => D.str ⟨#[c]⟩).length = z.cps.size := by simp
  refine ⟨fun i H' _ hi => ?_, fun H' _ => ?_, fun i H' x H'' d _ hd hy => ?_⟩
  · show i < z.cps.size
    rw [hlen] at hi; exact hi
  · show z.cps.size ≤ _
    rw [hlen]; exact Nat.le_refl _
  · obtain ⟨e1, c, hc, hv⟩ := hy
    rw [List.getElem?_map] at hd
    have hc' : z.cps.toList[i]? = some c := by simpa using hc
    rw [hc'] at hd
    cases hd
    subst hv
    exact .old e1 (.str _)
theorem yl_r {i j : Int} : Yl B (Itr i (j - i).toNat) (rangeD i j) F Ok := by
  have hlen : (rangeD i j).length = (j - i).toNat := by simp [rangeD]
  refine ⟨fun k H' _ hk => ?_, fun H' _ => ?_, fun k H' x H'' d _ hd hy => ?_⟩
  · rw [hlen] at hk; exact hk
  · rw [hlen]; exact Nat.le_refl _
  · obtain ⟨e1, e2⟩ := hy
    subst e2
    unfold rangeD at hd
    rw [List.getElem?_map] at hd
    cases w : (List.range (j - i).toNat)[k]? with
    | none => rw [w] at hd; cases hd
    | some c =>
      rw [w] at hd
      cases hd
      obtain ⟨h1, h2⟩ := List.getElem?_eq_some_iff.mp w
      rw [List.getElem_range] at h2
      subst h2
      exact .old e1 (.int _)
end
section
variable {X : Cx} {I : Addr → Value → Option Addr → Prop} {W : WX} {tg it : Expr} {f : ESem}
theorem si_data (h : SE X I W it f) : SI X I W tg it (srcD f) := by
  obtain ⟨t, p, m⟩ := h
  refine ⟨_, pi_any p, fun F ρ σ H R P hq => ?_⟩
  rw [srcD, Out.OK_bind] at hq
  refine m F ρ σ H R _ (hq.imp (fun rv ρ1 hq F1 H1 v S1 L1 R1 r1 => ?_) fun _ _ _ z => z)
  cases e : rd ρ1 rv with
  | none => rw [e] at hq; exact hq.elim
  | some d =>
    simp only [e] at hq
    cases e2 : itemsD d with
    | none => rw [e2] at hq; exact hq.elim
    | some ds =>
      rw [e2] at hq
      rcases rst_of (rs := [rv]) R1 r1 e (List.mem_cons_self ..) ds e2 with ⟨a, xs, ea, l, q⟩ | ⟨a, xs, ea, l, q⟩ | ⟨z, ea, ez⟩
      · exact .inl ⟨a, ea, ⟨xs, q (fun _ => False) (fun _ z => z.elim) H1 .refl⟩, hq F1 H1 _ S1 L1 R1 fun Ex hx => yl_l l (q Ex hx)⟩
      · exact .inr (.inl ⟨a, ea, ⟨xs, q (fun _ => False) (fun _ z => z.elim) H1 .refl⟩, hq F1 H1 _ S1 L1 R1 fun Ex hx => yl_t l (q Ex hx)⟩)
      · subst ez
        simp only [itemsD, Option.some.injEq] at e2
        subst e2
        exact .inr (.inr ⟨z, ea, hq F1 H1 _ S1 L1 R1 fun Ex hx => yl_s⟩)
theorem si_rng1 {a : Expr} {p0 p1 : Pos} {fa : ESem} (hg : Gl X "range") (hm : X.mg "range" = none) (ha : SL X I W [a] (eL [fa])) (hs1 : starEach [a] X.env = [(false, eval a X.env)] := by rfl) : SI X I W tg (.Call (.Name "range" p0) [a] [] p1) (srcR rngOf1 [fa]) := by
  obtain ⟨t, p, m⟩ := ha
  refine ⟨_, pi_range1 hg hm p hs1, fun F ρ σ H R P hq => ?_⟩
  rw [srcR, Out.OK_bind] at hq
  refine m F ρ σ H R _ (hq.imp (fun ds ρ1 hq F1 H1 vs S1 L1 R1 r1 => ?_) fun _ _ _ z => z)
  cases e : rngOf1 ds with
  | none => rw [e] at hq; exact hq.elim
  | some ij =>
    obtain ⟨i, j⟩ := ij
    simp only [e] at hq
    by_cases z : smallR i j = true
    · rw [if_pos z] at hq
      simp only [smallR, Bool.and_eq_true, decide_eq_true_eq] at z
      cases r1 with
      | nil => cases e
      | cons x1 x2 =>
        cases x2 with
        | nil =>
          cases x1 <;> simp only [rngOf1] at e <;> cases e
          refine ⟨_, rfl, z.2.2.1, z.2.2.2, ?_⟩
          have := hq F1 H1 _ S1 L1 R1 fun Ex hx => yl_r
          rwa [Int.sub_zero] at this
        | cons y1 y2 => cases x1 <;> cases e
    · rw [if_neg z] at hq; exact hq.elim
theorem si_rng2 {a b : Expr} {p0 p1 : Pos} {fa fb : ESem} (hg : Gl X "range") (hm : X.mg "range" = none) (ha : SL X I W [a, b] (eL [fa, fb]))
    (hs1 : starEach [a, b] X.env = [(false, eval a X.env), (false, eval b X.env)] := by rfl) (hs2 : starEach [b] X.env = [(false, eval b X.env)] := by rfl) : SI X I W tg (.Call (.Name "range" p0) [a, b] [] p1) (srcR rngOf2 [fa, fb]) := by
  obtain ⟨t, p, m⟩ := ha
  refine ⟨_, pi_range2 hg hm p hs1 hs2, fun F ρ σ H R P hq => ?_⟩
  rw [srcR, Out.OK_bind] at hq
  refine m F ρ σ H R _ (hq.imp (fun ds ρ1 hq F1 H1 vs S1 L1 R1 r1 => ?_) fun _ _ _ z => z)
  cases e : rngOf2 ds with
  | none => rw [e] at hq; exact hq.elim
  | some ij =>
    obtain ⟨i, j⟩ := ij
    simp only [e] at hq
    by_cases z : smallR i j = true
    · rw [if_pos z] at hq
      simp only [smallR, Bool.and_eq_true, decide_eq_true_eq] at z
      cases r1 with
      | nil => cases e
      | cons x1 x2 =>
        cases x2 with
        | nil => cases x1 <;> cases e
        | cons y1 y2 =>
          cases y2 with
          | cons _ _ => cases x1 <;> cases y1 <;> cases e
          | nil =>
            cases x1 <;> cases y1 <;> simp only [rngOf2] at e <;> cases e
            exact ⟨_, _, rfl, ⟨z.1, z.2.1, z.2.2.1, z.2.2.2⟩, hq F1 H1 _ S1 L1 R1 fun Ex hx => yl_r⟩
    · rw [if_neg z] at hq; exact hq.elim
end
end DL
end
section
/-! G5: the loops of a comprehension over data. -/
namespace DL
open PySem PySem.Spec L2

/-- the heap without the thing at Z -/
def er (Z : Addr) (H : Hp) : Hp := fun a => if a = Z then none else H a
theorem er_at {Z : Addr} {H : Hp} : er Z H Z = none := if_pos rfl
theorem er_ne {Z a : Addr} {H : Hp} (h : a ≠ Z) : er Z H a = H a := if_neg h
theorem er_of {Z a : Addr} {H : Hp} (h : H a = none) : er Z H a = none := by by_cases q : a = Z <;> simp [er, q, h]
theorem er_some {Z a : Addr} {H : Hp} {o : HO} (h : er Z H a = some o) : a ≠ Z ∧ H a = some o := by
  by_cases q : a = Z
  · rw [q, er_at] at h; cases h
  · exact ⟨q, by rwa [er_ne q] at h⟩
theorem er_upd {Z : Addr} {H : Hp} {u : HO} : er Z (upd H Z u) = er Z H := by
  funext a
  by_cases q : a = Z
  · rw [q, er_at, er_at]
  · rw [er_ne q, er_ne q, upd_ne q]
abbrev StpE (Z : Addr) (F : Hp) (ρ : Env) (σ : L2.St) (H F' : Hp) (ρ' : Env) (σ' : L2.St) (H' : Hp) : Prop := Stp F ρ σ (er Z H) F' ρ' σ' (er Z H')
theorem Stp.er {Z : Addr} {F F' H H' : Hp} {ρ ρ' : Env} {σ σ' : L2.St} (S : Stp F ρ σ H F' ρ' σ' H') : StpE Z F ρ σ H F' ρ' σ' H' where
  mono := S.mono
  newF := fun a h => (S.newF a h).imp_right (Or.imp_left fun z => z.elim (fun z => .inl (er_of z)) fun ⟨xs, z⟩ => by
    by_cases q : a = Z
    · exact .inl (by rw [q]; exact er_at)
    · exact .inr ⟨xs, by rw [er_ne q]; exact z⟩)
  keep := fun a o h n => by
    obtain ⟨h1, h2⟩ := er_some h
    rw [er_ne h1]; exact S.keep a o h2 n
  dom := fun a h => by
    by_cases q : a = Z
    · rw [q]; exact er_at
    · rw [er_ne q] at h ⊢; exact S.dom a h
  has := fun k a h => (S.has k a h).imp_left er_of
  own := fun k b o a h1 h2 => (S.own k b o a h1 h2).imp_left fun ⟨e, h⟩ => ⟨e, er_of h⟩
  lks := S.lks
/-- the collected so far: at Z, by u, as acc -/
structure RAcc (β : Type) where
  R : Bas → Addr → Hp → HO → β → Prop
  mono : ∀ {B : Bas} {Z : Addr} {F F' : Hp} {u : HO} {acc : β}, (∀ a o, F a = some o → F' a = some o) → R B Z F u acc → R B Z F' u acc
  noT : ∀ {B : Bas} {Z : Addr} {F : Hp} {u : HO} {acc : β}, R B Z F u acc → ∀ xs, u ≠ .tup xs
variable {β : Type}
structure AccAt (B : Bas) (RA : RAcc β) (Z : Addr) (F : Hp) (ρ : Env) (σ : L2.St) (H : Hp) (acc : β) : Prop where
  nF : F Z = none
  nH : ∀ k, ¬ HasAt ρ σ k Z
  at_ : ∃ u, H Z = some u ∧ RA.R B Z F u acc
section
variable {B : Bas} {RA : RAcc β} {Z : Addr} {F F' H H' : Hp} {ρ ρ' : Env} {σ σ' : L2.St} {acc : β}
theorem AccAt.step (A : AccAt B RA Z F ρ σ H acc) (S : Stp F ρ σ H F' ρ' σ' H') : AccAt B RA Z F' ρ' σ' H' acc := by
  obtain ⟨u, hu, ra⟩ := A.at_
  refine ⟨?_, fun k z => ?_, u, S.keep Z u hu fun k z => A.nH k z.has, RA.mono S.mono ra⟩
  · cases q : F' Z with
    | none => rfl
    | some o =>
      rcases S.newF Z (by rw [q]; exact fun z => nomatch z) with z | z | ⟨k, z⟩
      · exact absurd A.nF z
      · rcases z with z | ⟨xs, z⟩
        · rw [hu] at z; cases z
        · rw [hu] at z; cases z; exact absurd rfl (RA.noT ra xs)
      · exact absurd z.has (A.nH k)
  · rcases S.has k Z z with z | z
    · rw [hu] at z; cases z
    · exact A.nH k z
theorem AccAt.put {u : HO} {acc' : β} (A : AccAt B RA Z F ρ σ H acc) (R : Rel B F ρ σ H) (ra : RA.R B Z F u acc') : AccAt B RA Z F ρ σ (upd H Z u) acc' ∧ Rel B F ρ σ (upd H Z u) := by
  refine ⟨⟨A.nF, A.nH, u, upd_same, ra⟩, ⟨fun a o q => ?_, R.len, fun i sv h => ?_, R.sep⟩⟩
  · rw [upd_ne (fun z => by rw [z, A.nF] at q; cases q)]; exact R.ext a o q
  · obtain ⟨v, g1, g2⟩ := R.sl i sv h
    refine ⟨v, g1, ?_⟩
    have ne : sv.obj = true → ∀ c, v = .ref c → c ≠ Z := fun ho c e z => by subst e; subst z; exact A.nH i ⟨sv, h, ho, g1⟩
    cases sv with
    | fz d => exact g2
    | ow b o => obtain ⟨c, e1, e2, e3⟩ := g2; exact ⟨c, e1, e2, e3.keep (fun _ _ q => q) fun o q => by rw [upd_ne (ne rfl c e1)]; exact q⟩
    | lk o => obtain ⟨c, e1, e2, e3⟩ := g2; exact ⟨c, e1, e2, e3.keep (fun _ _ q => q) fun o q => by rw [upd_ne (ne rfl c e1)]; exact q⟩
    | xn c fs => exact g2
    | dd => trivial
end
/-- a target whose names are among vs -/
def TgV (B : Bas) (vs : List Nat) (t : TG) (g : D → Env → Option Env) : Prop := (∀ d ρ ρ', g d ρ = some ρ' → Live ρ ρ') ∧ ∀ (F0 : Hp) (ρ0 : Env) (σ0 : L2.St) (H0 F : Hp) (ρ : Env) (σ : L2.St) (H : Hp) (v : V) (d : D) (ρ' : Env), Rel B F ρ σ H → Stp F0 ρ0 σ0 H0 F ρ σ H → Rep B F v d → g d ρ = some ρ' → ∀ Q : L2.St → Hp → Prop,
  (∀ σ', Rel B F ρ' σ' H → Stp F0 ρ0 σ0 H0 F ρ' σ' H → wipe σ' vs = wipe σ vs → Q σ' H) → t v σ H Q
def TgsV (B : Bas) (vs : List Nat) (t : TGs) (g : List D → Env → Option Env) : Prop := (∀ d ρ ρ', g d ρ = some ρ' → Live ρ ρ') ∧ ∀ (F0 : Hp) (ρ0 : Env) (σ0 : L2.St) (H0 F : Hp) (ρ : Env) (σ : L2.St) (H : Hp) (v : List V) (d : List D) (ρ' : Env), Rel B F ρ σ H → Stp F0 ρ0 σ0 H0 F ρ σ H → RepL B F v d → g d ρ = some ρ' → ∀ Q : L2.St → Hp → Prop,
  (∀ σ', Rel B F ρ' σ' H → Stp F0 ρ0 σ0 H0 F ρ' σ' H → wipe σ' vs = wipe σ vs → Q σ' H) → t v σ H Q
def SG (X : Cx) (I : Addr → Value → Option Addr → Prop) (vs : List Nat) (e : Expr) (g : D → Env → Option Env) : Prop := ∃ t, PG X e t ∧ TgV (bas X I) vs t g
def SGs (X : Cx) (I : Addr → Value → Option Addr → Prop) (vs : List Nat) (es : List Expr) (g : List D → Env → Option Env) : Prop := ∃ t, PGs X es t ∧ TgsV (bas X I) vs t g
/-- a tuple or a list of n things -/
def tgU (n : Nat) (gs : List D → Env → Option Env) : D → Env → Option Env := fun d ρ => match d with
  | .tup ds => if ds.length = n then gs ds ρ else none
  | .lst ds => if ds.length = n then gs ds ρ else none
  | _ => none
theorem pg_or {X : Cx} {e : Expr} {t u : TG} (h : PG X e t) (k : PG X e u) : PG X e (fun v σ H Q => t v σ H Q ∨ u v σ H Q) := ⟨fun pins s σ H v w Q I r q => q.elim (fun q => h.run pins s σ H v w Q I r q) fun q => k.run pins s σ H v w Q I r q⟩
section
variable {X : Cx} {I : Addr → Value → Option Addr → Prop} {vs : List Nat} {e : Expr} {es : List Expr} {pos : Pos}
theorem sg_name {i : Nat} {x : Str} (h : PG X (.Name x pos) (gName i)) (hv : i ∈ vs) : SG X I vs (.Name x pos) (tgN i) := ⟨_, h, fun d ρ ρ' e => by cases e; exact live_set, fun F0 ρ0 σ0 H0 F ρ σ H v d ρ' R S r e Q q => by
  cases e
  obtain ⟨R2, S2⟩ := R.put (i := i) (sv := .fz d) S r (fun z => nomatch z)
  exact q _ R2 S2 (wipe_set hv)⟩
theorem sgs_nil : SGs X I vs [] tgNil := by
  refine ⟨_, pgs_nil, fun d ρ ρ' e => ?_, fun F0 ρ0 σ0 H0 F ρ σ H v d ρ' R S r e Q q => ?_⟩
  · cases d with
    | nil => simp only [tgNil] at e; cases e; exact Live.refl _
    | cons _ _ => simp only [tgNil] at e; cases e
  · cases r with
    | nil => simp only [tgNil] at e; cases e; exact ⟨rfl, q σ R S rfl⟩
    | cons _ _ => simp only [tgNil] at e; cases e
theorem sgs_cons {g : D → Env → Option Env} {gs : List D → Env → Option Env} (h : SG X I vs e g) (k : SGs X I vs es gs) (hs : (assignEach (e :: es) X.env).map (·.2) = assign e X.env :: (assignEach es X.env).map (·.2) := by rfl) : SGs X I vs (e :: es) (tgCons g gs) := by
  obtain ⟨t, p, l1, m⟩ := h
  obtain ⟨u, q, l2, n⟩ := k
  refine ⟨_, pgs_cons p q hs, fun d ρ ρ' e => ?_, fun F0 ρ0 σ0 H0 F ρ σ H v d ρ' R S r e Q hq => ?_⟩
  · cases d with
    | nil => simp only [tgCons] at e; cases e
    | cons d1 ds =>
      simp only [tgCons] at e
      cases w : g d1 ρ with
      | none => rw [w] at e; cases e
      | some ρ1 => rw [w] at e; exact (l1 _ _ _ w).trans (l2 _ _ _ e)
  · cases r with
    | nil => simp only [tgCons] at e; cases e
    | @cons v1 d1 vs ds r1 r2 =>
      simp only [tgCons] at e
      cases w : g d1 ρ with
      | none => rw [w] at e; cases e
      | some ρ1 =>
        rw [w] at e
        refine ⟨v1, vs, rfl, m F0 ρ0 σ0 H0 F ρ σ H v1 d1 ρ1 R S r1 w _ fun σ1 R1 S1 w1 => ?_⟩
        exact n F0 ρ0 σ0 H0 F ρ1 σ1 H vs ds ρ' R1 S1 r2 e Q fun σ' R' S' w' => hq σ' R' S' (w'.trans w1)
theorem sg_tup {k n : Nat} {gs : List D → Env → Option Env} (hc : X.calm = true) (h : SGs X I vs es gs) (hn : (assignEach es X.env).length = n := by rfl) (hst : (assignEach es X.env).findIdx? (·.1) = none := by rfl) : SG X I vs (.Tuple es k pos) (tgU n gs) := by
  obtain ⟨t, p, l, m⟩ := h
  refine ⟨_, pg_or (pg_tup hc p hn hst) (pg_unl hc p hn hst), fun d ρ ρ' e => ?_, fun F0 ρ0 σ0 H0 F ρ σ H v d ρ' R S r e Q hq => ?_⟩
  · cases d <;> simp only [tgU] at e <;> first | (cases e; done) | (split at e <;> first | exact l _ _ _ e | cases e)
  · cases r with
    | tup h1 l1 =>
      simp only [tgU] at e
      split at e
      · rename_i z
        exact .inl ⟨_, _, rfl, tq (R.ext _ _ h1), by rw [l1.length]; exact z, m F0 ρ0 σ0 H0 F ρ σ H _ _ ρ' R S l1 e Q hq⟩
      · cases e
    | lst h1 l1 =>
      simp only [tgU] at e
      split at e
      · rename_i z
        exact .inr ⟨_, _, rfl, SqL.of (R.ext _ _ h1), by rw [l1.length]; exact z, m F0 ρ0 σ0 H0 F ρ σ H _ _ ρ' R S l1 e Q hq⟩
      · cases e
    | _ => simp only [tgU] at e; cases e
end
/-- what a block's part does -/
def SemB (B : Bas) (RA : RAcc β) (Z : Addr) (vs : List Nat) (tin : TB) (f : β → Env → Out β) : Prop := ∀ F ρ σ H acc N, Rel B F ρ σ H → AccAt B RA Z F ρ σ H acc →
  (f acc ρ).OK (fun acc' ρ' => ∀ F' σ' H', StpE Z F ρ σ H F' ρ' σ' H' → Live ρ ρ' → wipe σ' vs = wipe σ vs → Rel B F' ρ' σ' H' → AccAt B RA Z F' ρ' σ' H' acc' → N σ' H') (fun _ _ _ => False) → tin σ H N
def loopF (tg : D → Env → Option Env) (tt : CSem) (inn : β → Env → Out β) : List D → β → Env → Out β
  | [], acc, ρ => .ok acc ρ
  | x :: r, acc, ρ => match tg x ρ with
    | some ρ0 => (tt ρ0).nox.bind fun k ρ1 => if k = true then (inn acc ρ1).nox.bind fun acc' ρ2 => loopF tg tt inn r acc' ρ2 else loopF tg tt inn r acc ρ1
    | none => .no
theorem loopF_ok {B : Bas} {RA : RAcc β} {Z : Addr} {vs : List Nat} {g : TG} {tgf : D → Env → Option Env} {tt : TT} {tf : CSem} {tin : TB} {inn : β → Env → Out β} {J : It} (hg : TgV B vs g tgf) (hc : SemG B W0 tt tf (PostC B)) (hi : SemB B RA Z vs tin inn)
    {F0 H0 : Hp} {ρ0 : Env} {σ0 : L2.St} {ds : List D} {acc0 : β} {N : L2.St → Hp → Prop} (R0 : Rel B F0 ρ0 σ0 H0) (A0 : AccAt B RA Z F0 ρ0 σ0 H0 acc0) (hy : Yl B J ds F0 (Stands (· = Z) ρ0 σ0 H0))
    (hq : (loopF tgf tf inn ds acc0 ρ0).OK (fun acc' ρ' => ∀ F' σ' H', StpE Z F0 ρ0 σ0 H0 F' ρ' σ' H' → Live ρ0 ρ' → wipe σ' vs = wipe σ0 vs → Rel B F' ρ' σ' H' → AccAt B RA Z F' ρ' σ' H' acc' → N σ' H') (fun _ _ _ => False)) : tLoop g tt tin J σ0 H0 N := by
  let PO : β → Env → Prop := fun acc' ρ' => ∀ F' σ' H', StpE Z F0 ρ0 σ0 H0 F' ρ' σ' H' → Live ρ0 ρ' → wipe σ' vs = wipe σ0 vs → Rel B F' ρ' σ' H' → AccAt B RA Z F' ρ' σ' H' acc' → N σ' H'
  let Pv : Nat → L2.St → Hp → Prop := fun i σ H => ∃ F ρ acc, StpE Z F0 ρ0 σ0 H0 F ρ σ H ∧ Live ρ0 ρ ∧ wipe σ vs = wipe σ0 vs ∧ Rel B F ρ σ H ∧ AccAt B RA Z F ρ σ H acc ∧ (loopF tgf tf inn (ds.drop i) acc ρ).OK PO (fun _ _ _ => False)
  refine ⟨fun i m σ H => m = ds.length - i ∧ i ≤ ds.length ∧ Pv i σ H, ⟨ds.length, by simp, Nat.zero_le _, F0, ρ0, acc0, Stp.refl _ _ _ _, Live.refl _, rfl, R0, A0, hq⟩, ?_⟩
  rintro i m σ H ⟨rfl, hi', p⟩
  obtain ⟨F, ρ, acc, S, L, hw, R, A, h1⟩ := p
  have std : Stands (· = Z) ρ0 σ0 H0 H := fun a o h n e => (er_some (S.keep a o (by rw [er_ne e]; exact h) n)).2
  by_cases hlt : i < ds.length
  · refine .inr ⟨hy.go i H std hlt, Pv (i + 1), fun σ' H' p' => ⟨ds.length - (i + 1), by omega, rfl, hlt, p'⟩, fun x H2 y => ?_⟩
    have made := hy.yld i H x H2 _ std (List.getElem?_eq_getElem hlt) y
    rw [List.drop_eq_getElem_cons hlt] at h1
    simp only [loopF] at h1
    -- the item is there
    obtain ⟨F2, S2, R2, r2⟩ : ∃ F2, Stp F ρ σ H F2 ρ σ H2 ∧ Rel B F2 ρ σ H2 ∧ Rep B F2 x ds[i] := by
      cases made with
      | old e r => subst e; exact ⟨F, Stp.refl _ _ _ _, R, r.mono S.mono⟩
      | tup q us es hn e ex ed l =>
        subst e; subst ex
        obtain ⟨S', R', r'⟩ := newTup R (Stp.refl _ _ _ _) hn (l.mono S.mono)
        rw [ed]
        exact ⟨_, S', R', r'⟩
    cases w : tgf ds[i] ρ with
    | none => rw [w] at h1; exact h1.elim
    | some ρ3 =>
      rw [w] at h1
      dsimp only at h1
      refine hg.2 F ρ σ H F2 ρ σ H2 x ds[i] ρ3 R2 S2 r2 w _ fun σ3 R3 S3 w3 => ?_
      have L3 := L.trans (hg.1 _ _ _ w)
      refine hc F2 ρ3 σ3 H2 R3 _ ((Out.nox_bind _ _ _ _ h1 _).imp (fun k ρ4 h4 F4 H4 S4 L4 R4 => ?_) fun _ _ _ z => z)
      have S14 := S3.trans S4
      have A4 := A.step S14
      have S04 := S.trans S14.er
      cases k with
      | false =>
        rw [if_neg Bool.false_ne_true] at h4
        dsimp only
        rw [if_neg Bool.false_ne_true]
        exact ⟨F4, ρ4, acc, S04, L3.trans L4, w3.trans hw, R4, A4, h4⟩
      | true =>
        rw [if_pos rfl] at h4
        dsimp only
        rw [if_pos rfl]
        refine hi F4 ρ4 σ3 H4 acc _ R4 A4 ((Out.nox_bind _ _ _ _ h4 _).imp (fun acc' ρ5 h5 F5 σ5 H5 S5 L5 w5 R5 A5 => ?_) fun _ _ _ z => z)
        exact ⟨F5, ρ5, acc', S04.trans S5, (L3.trans L4).trans L5, w5.trans (w3.trans hw), R5, A5, h5⟩
  · have e : i = ds.length := by omega
    subst e
    rw [List.drop_eq_nil_of_le (Nat.le_refl _)] at h1
    exact .inl ⟨hy.stop H std, h1 F σ H S L hw R A⟩
/-! ### locks, with a thing taken out of the heap -/
section
variable {B : Bas} {F F' H H' : Hp} {ρ ρ' : Env} {σ σ' : L2.St} {Z : Addr}
theorem Rel.er (R : Rel B F ρ σ H) (nF : F Z = none) (nH : ∀ k, ¬ HasAt ρ σ k Z) : Rel B F ρ σ (er Z H) := by
  refine ⟨fun a o q => by rw [er_ne (fun z => by rw [z, nF] at q; cases q)]; exact R.ext a o q, R.len, fun i sv h => ?_, R.sep⟩
  obtain ⟨v, g1, g2⟩ := R.sl i sv h
  refine ⟨v, g1, ?_⟩
  have ne : sv.obj = true → ∀ c, v = .ref c → c ≠ Z := fun ho c e z => by subst e; subst z; exact nH i ⟨sv, h, ho, g1⟩
  cases sv with
  | fz d => exact g2
  | ow b o => obtain ⟨c, e1, e2, e3⟩ := g2; exact ⟨c, e1, e2, e3.keep (fun _ _ q => q) fun o q => by rw [er_ne (ne rfl c e1)]; exact q⟩
  | lk o => obtain ⟨c, e1, e2, e3⟩ := g2; exact ⟨c, e1, e2, e3.keep (fun _ _ q => q) fun o q => by rw [er_ne (ne rfl c e1)]; exact q⟩
  | xn c fs => exact g2
  | dd => trivial
theorem Rel.unEr (R : Rel B F ρ σ (DL.er Z H)) : Rel B F ρ σ H := by
  refine ⟨fun a o q => (er_some (R.ext a o q)).2, R.len, fun i sv h => ?_, R.sep⟩
  obtain ⟨v, g1, g2⟩ := R.sl i sv h
  refine ⟨v, g1, ?_⟩
  cases sv with
  | fz d => exact g2
  | ow b o => obtain ⟨c, e1, e2, e3⟩ := g2; exact ⟨c, e1, e2, e3.keep (fun _ _ q => q) fun o q => (er_some q).2⟩
  | lk o => obtain ⟨c, e1, e2, e3⟩ := g2; exact ⟨c, e1, e2, e3.keep (fun _ _ q => q) fun o q => (er_some q).2⟩
  | xn c fs => exact g2
  | dd => trivial
theorem unl_has {k : Nat} {b : Bool} {j : Nat} {a : Addr} (h : HasAt (unl k b ρ) σ j a) : HasAt ρ σ j a := by
  unfold unl at h
  split at h
  · rename_i o e
    obtain ⟨s, h1, h2, h3⟩ := h
    rcases get_set h1 with ⟨q, z⟩ | ⟨_, z⟩
    · subst q; exact ⟨_, e, rfl, h3⟩
    · exact ⟨s, z, h2, h3⟩
  · exact h
theorem unl1_has {r : RV} {ρ0 : Env} {j : Nat} {a : Addr} (h : HasAt (unl1 ρ0 r ρ) σ j a) : HasAt ρ σ j a := by
  unfold unl1 at h
  cases r with
  | sl k => dsimp only at h; split at h; exact unl_has h; exact h
  | _ => exact h
theorem unlL_has : ∀ {rs : List RV} {ρ0 : Env} {j : Nat} {a : Addr}, HasAt (unlL ρ0 rs ρ) σ j a → HasAt ρ σ j a
  | [], _, _, _, h => h
  | r :: rs, _, _, _, h => unlL_has (rs := rs) (unl1_has h)
theorem live_lock1 {r : RV} : Live ρ (lock1 ρ r) := by
  unfold lock1
  cases r with
  | sl k => dsimp only; split; exact live_set; exact Live.refl _
  | _ => exact Live.refl _
theorem live_lockL : ∀ {rs : List RV} {ρ : Env}, Live ρ (lockL ρ rs)
  | [], _ => Live.refl _
  | r :: rs, _ => live_lock1.trans (live_lockL (rs := rs))
theorem live_unl {k : Nat} {b : Bool} : Live ρ (unl k b ρ) := by
  unfold unl
  split
  · exact live_set
  · exact Live.refl _
theorem live_unlL : ∀ {rs : List RV} {ρ0 : Env}, Live ρ (unlL ρ0 rs ρ)
  | [], _ => Live.refl _
  | r :: rs, ρ0 => by
    refine (live_unlL (rs := rs) (ρ0 := lock1 ρ0 r)).trans ?_
    show Live _ (unl1 ρ0 r (unlL (lock1 ρ0 r) rs ρ))
    unfold unl1
    cases r with
    | sl k => dsimp only; split; exact live_unl; exact Live.refl _
    | _ => exact Live.refl _
end
end DL
end
section
/-! G6: the clauses of a comprehension, its value. -/
namespace DL
open PySem PySem.Spec L2

variable {β : Type}
structure CL where
  src : SrcF
  tg : D → Env → Option Env
  tt : CSem
def clF : List CL → (β → Env → Out β) → β → Env → Out β
  | [], em => em
  | c :: cs, em => fun acc ρ => (c.src ρ).nox.bind fun r ρ1 => (loopF c.tg c.tt (clF cs em) r.1 acc (lockL ρ1 r.2)).onE (unlL ρ1 r.2)
theorem OK_onE {α : Type} {o : Out α} {f : Env → Env} {p : α → Env → Prop} {x : Str → List (Str × D) → Env → Prop} : (o.onE f).OK p x = o.OK (fun a ρ => p a (f ρ)) (fun c fs ρ => x c fs (f ρ)) := by cases o <;> rfl
/-- a source within a block -/
def SIb (B : Bas) (wi : TI) (src : SrcF) : Prop := ∀ F ρ σ H, Rel B F ρ σ H → ∀ P : It → Hp → Prop,
  (src ρ).OK (fun r ρ1 => ∀ F1 H1 J, Stp F ρ σ H F1 ρ1 σ H1 → Live ρ ρ1 → Rel B F1 ρ1 σ H1 → (∀ Ex, ExOk Ex H F1 ρ1 σ H1 → Yl B J r.1 F1 (Stands Ex (lockL ρ1 r.2) σ H1)) → P J H1) (fun c fs ρ' => PostX B F ρ σ H c fs ρ' W0) → wi σ H P
section
variable {B : Bas} {RA : RAcc β} {Z : Addr} {vs : List Nat}
theorem semB_cl {wi : TI} {c : CL} {g : TG} {tt : TT} {tin : TB} {inn : β → Env → Out β} (hs : SIb B wi c.src) (hg : TgV B vs g c.tg) (hc : SemG B W0 tt c.tt (PostC B)) (hi : SemB B RA Z vs tin inn) :
    SemB B RA Z vs (fun σ H N => wi σ H fun J H1 => tLoop g tt tin J σ H1 N) (fun acc ρ => (c.src ρ).nox.bind fun r ρ1 => (loopF c.tg c.tt inn r.1 acc (lockL ρ1 r.2)).onE (unlL ρ1 r.2)) := by
  intro F ρ σ H acc N R A hq
  refine hs F ρ σ H R _ ((Out.nox_bind _ _ _ _ hq _).imp (fun r ρ1 h1 F1 H1 J S1 L1 R1 hy => ?_) fun _ _ _ z => z)
  rw [OK_onE] at h1
  have A1 := A.step S1
  obtain ⟨u, hu, _⟩ := A.at_
  have nL : ∀ k, ¬ HasAt (lockL ρ1 r.2) σ k Z := fun k z => A1.nH k (lockL_has z)
  refine loopF_ok hg hc hi (lockL_rel R1) ⟨A1.nF, nL, A1.at_⟩ (hy (· = Z) fun a e => .inr (by subst e; exact ⟨(by rw [hu]; exact fun z => nomatch z), A1.nF, A1.nH⟩)) ?_
  refine h1.imp (fun acc' ρ' h2 F' σ' H' S' L' w' R' A' => ?_) fun _ _ _ z => z
  obtain ⟨S2, R2⟩ := unlL_ok (R1.er A1.nF A1.nH) S' (R'.er A'.nF A'.nH)
  exact h2 F' σ' H' (S1.er.trans S2) ((L1.trans live_lockL).trans (L'.trans live_unlL)) w' R2.unEr ⟨A'.nF, fun k z => A'.nH k (unlL_has z), A'.at_⟩
/-- the item goes into the list -/
def lstA : RAcc (List D) := ⟨fun B _ F u acc => ∃ us, u = .lst us ∧ RepL B F us acc, fun m ⟨us, e, l⟩ => ⟨us, e, l.mono m⟩, fun ⟨us, e, _⟩ xs z => by rw [e] at z; cases z⟩
def emL (el : ESem) : List D → Env → Out (List D) := fun acc ρ => (eF el ρ).nox.bind fun d ρ1 => if acc.length < sizeLine then .ok (acc ++ [d]) ρ1 else .no
theorem semB_lst {te : TE} {el : ESem} (he : SemG B W0 te el (PostE B)) : SemB B lstA Z vs (fun σ H N => te σ H fun y H1 => ∃ us, H1 Z = some (.lst us) ∧ us.length < sizeLine ∧ N σ (upd H1 Z (.lst (us ++ [y])))) (emL el) := by
  intro F ρ σ H acc N R A hq
  refine he.frz F ρ σ H R _ ((Out.nox_bind _ _ _ _ hq _).imp (fun d ρ1 h1 F1 H1 y S1 L1 R1 r1 => ?_) fun _ _ _ z => z)
  have A1 := A.step S1
  obtain ⟨u, hu, us, eu, l⟩ := A1.at_
  subst eu
  by_cases hz : acc.length < sizeLine
  · rw [if_pos hz] at h1
    obtain ⟨A2, R2⟩ := A1.put (u := .lst (us ++ [y])) (acc' := acc ++ [d]) R1 ⟨_, rfl, l.append (.cons r1 .nil)⟩
    exact ⟨us, hu, by rw [l.length]; exact hz, h1 F1 σ _ (by show Stp _ _ _ _ _ _ _ (er Z _); rw [er_upd]; exact S1.er) L1 rfl R2 A2⟩
  · rw [if_neg hz] at h1; exact h1.elim
end
/-- the whole: what was collected -/
def cmpO (c : CL) (cs : List CL) (em : β → Env → Out β) (a0 : β) (vs : List Nat) : Env → Out β := fun ρ => (c.src ρ).bind fun r ρ1 => if freeOf (lockL ρ1 r.2) vs = true then ((loopF c.tg c.tt (clF cs em) r.1 a0 (wipeE (lockL ρ1 r.2) vs)).nox.bind fun acc ρ' => .ok acc (unlL ρ1 r.2 (rest (lockL ρ1 r.2) vs (wipeE ρ' vs)))) else .no
/-- a new thing at Z, held by nothing, that acc tells -/
def PostA (RA : RAcc β) (B : Bas) (F : Hp) (ρ : Env) (σ : L2.St) (H : Hp) (acc : β) (ρ' : Env) (Q : VK) : Prop := ∀ F' H' Z u, Stp F ρ σ H F' ρ' σ H' → Live ρ ρ' → Rel B F' ρ' σ H' → H Z = none → F' Z = none → (∀ k, ¬ HasAt ρ' σ k Z) → H' Z = some u → RA.R B Z F' u acc → Q (.ref Z) H'
/-- a list's items -/
def eLG (c : CL) (cs : List CL) (el : ESem) (vs : List Nat) : ESem := fun ρ => (cmpO c cs (emL el) [] vs ρ).bind fun acc ρ' => .ok (.fr (.lst acc)) ρ'
theorem sem_lg {B : Bas} {W : WX} {t : TE} {c : CL} {cs : List CL} {el : ESem} {vs : List Nat} (h : SemG B W t (cmpO c cs (emL el) [] vs) (PostA lstA B)) : SemG B W t (eLG c cs el vs) (PostE B) := by
  intro F ρ σ H R Q hq
  rw [eLG, Out.OK_bind] at hq
  refine h F ρ σ H R Q (hq.imp (fun acc ρ' h1 F' H' Z u S L R' h0 hF hn hu ra => ?_) fun _ _ _ z => z)
  obtain ⟨us, e, l⟩ := ra
  exact h1 F' H' (.ref Z) S L R' ⟨Z, rfl, h0, hF, ⟨us, by rw [hu, e], l⟩, hn⟩
theorem stp_unEr {Z : Addr} {F F' H H' : Hp} {ρ ρ' : Env} {σ σ' : L2.St} (S : Stp F ρ σ H F' ρ' σ' (er Z H')) : Stp F ρ σ H F' ρ' σ' H' :=
  ⟨S.mono, S.newF, fun a o h n => (er_some (S.keep a o h n)).2, fun a h => S.dom a (er_of h), S.has, S.own, S.lks⟩
/-- the top clause -/
theorem sem_cmp {B : Bas} {W : WX} {RA : RAcc β} {wi : TI} {c : CL} {cs : List CL} {em : β → Env → Out β} {a0 : β} {vs : List Nat} {g : TG} {tt : TT} {tin : Addr → TB} {u0 : Addr → HO}
    (hs : ∀ F ρ σ H, Rel B F ρ σ H → ∀ P : It → Hp → Prop, (c.src ρ).OK (fun r ρ1 => ∀ F1 H1 J, Stp F ρ σ H F1 ρ1 σ H1 → Live ρ ρ1 → Rel B F1 ρ1 σ H1 → (∀ Ex, ExOk Ex H F1 ρ1 σ H1 → Yl B J r.1 F1 (Stands Ex (lockL ρ1 r.2) σ H1)) → P J H1) (fun x fs ρ' => PostX B F ρ σ H x fs ρ' W) → wi σ H P)
    (hg : TgV B vs g c.tg) (hc : SemG B W0 tt c.tt (PostC B)) (hi : ∀ Z, SemB B RA Z vs (tin Z) (clF cs em)) (h0 : ∀ F Z, RA.R B Z F (u0 Z) a0) :
    SemG B W (tCmp wi u0 (fun Z => tLoop g tt (tin Z)) vs) (cmpO c cs em a0 vs) (PostA RA B) := by
  intro F ρ σ H R Q hq
  rw [cmpO, Out.OK_bind] at hq
  refine hs F ρ σ H R _ (hq.imp (fun r ρ1 h1 F1 H1 J S1 L1 R1 hy => ?_) fun _ _ _ z => z)
  by_cases fr : freeOf (lockL ρ1 r.2) vs = true
  · rw [if_pos fr] at h1
    intro Z hZ
    have RL := lockL_rel (rs := r.2) R1
    obtain ⟨Rw, Sw⟩ := wipe_rel (vs := vs) RL
    have nZ : ∀ k, ¬ HasAt ρ1 σ k Z := nohas R1 hZ
    have nw : ∀ k, ¬ HasAt (wipeE (lockL ρ1 r.2) vs) (wipe σ vs) k Z := fun k ⟨s, q1, q2, q3⟩ => nZ k (lockL_has ⟨s, (wipeE_some q1).1, q2, (wipe_some q3).1⟩)
    obtain ⟨RA0, SA0⟩ := Rw.alloc (u := u0 Z) hZ
    have erZ : er Z (upd H1 Z (u0 Z)) = H1 := by
      rw [er_upd]; funext a
      by_cases q : a = Z
      · rw [q, er_at, hZ]
      · rw [er_ne q]
    refine loopF_ok (RA := RA) hg hc (hi Z) RA0 ⟨noF R1 hZ, nw, u0 Z, upd_same, h0 _ _⟩ ?_ ((Out.nox_bind _ _ _ _ h1 _).imp (fun acc ρ' h2 F' σ' H' S' L' w' R' A' => ?_) fun _ _ _ z => z)
    · have y := hy (fun _ => False) fun a z => z.elim
      have st : ∀ H', Stands (· = Z) (wipeE (lockL ρ1 r.2) vs) (wipe σ vs) (upd H1 Z (u0 Z)) H' → Stands (fun _ => False) (lockL ρ1 r.2) σ H1 H' := fun H' s a o q n _ => by
        have ne : a ≠ Z := fun z => by rw [z, hZ] at q; cases q
        refine s a o (by rw [upd_ne ne]; exact q) (fun k z => ?_) ne
        obtain ⟨b, ob, z1, z2⟩ := z
        exact n k ⟨b, ob, (wipeE_some z1).1, (wipe_some z2).1⟩
      exact ⟨fun i H' ok hi => y.go i H' (st H' ok) hi, fun H' ok => y.stop H' (st H' ok), fun i H' x H'' d ok hd h => y.yld i H' x H'' d (st H' ok) hd h⟩
    · rw [wipe_wipe] at w'
      have S' : Stp F1 (wipeE (lockL ρ1 r.2) vs) (wipe σ vs) H1 F' ρ' σ' (er Z H') := by
        have := S'; unfold StpE at this; rwa [erZ] at this
      have RE := R'.er A'.nF A'.nH
      -- the block's own names forgotten
      obtain ⟨R3, S3⟩ := wipe_rel (vs := vs) RE
      rw [w'] at R3 S3
      have S4 := S'.trans S3
      obtain ⟨R5, S5⟩ := rest_rel RL fr S4 R3
      obtain ⟨S6, R6⟩ := unlL_ok R1 S5 R5
      have L5 : Live (lockL ρ1 r.2) (rest (lockL ρ1 r.2) vs (wipeE ρ' vs)) := rest_live (by rw [← R3.len, ← RL.len, wipe_length]) ((wipeE_live.trans L'.x).trans wipeE_live)
      obtain ⟨u, hu, ra⟩ := A'.at_
      exact h2 F' H' Z u (S1.trans (stp_unEr S6)) ((L1.trans live_lockL).trans (L5.trans live_unlL)) R6.unEr (S1.dom Z hZ) A'.nF (nohas R6 er_at) hu ra
  · rw [if_neg fr] at h1; exact h1.elim
end DL
end
section
/-! G7: comprehensions as expressions and stores. -/
namespace DL
open PySem PySem.Spec L2

variable {β : Type}
theorem uni_S {C : Type} {X : C → Cx} {B : Bas} {W : WX} {tg it : Expr} {src : SrcF} (h : ∀ c, ∃ wi, PI (X c) tg it wi ∧ ∀ F ρ σ H, Rel B F ρ σ H → ∀ P : It → Hp → Prop, (src ρ).OK (fun r ρ1 => ∀ F1 H1 J, Stp F ρ σ H F1 ρ1 σ H1 → Live ρ ρ1 → Rel B F1 ρ1 σ H1 → (∀ Ex, ExOk Ex H F1 ρ1 σ H1 → Yl B J r.1 F1 (Stands Ex (lockL ρ1 r.2) σ H1)) → P J H1) (fun x fs ρ' => PostX B F ρ σ H x fs ρ' W) → wi σ H P) :
    ∃ wi, (∀ c, PI (X c) tg it wi) ∧ ∀ F ρ σ H, Rel B F ρ σ H → ∀ P : It → Hp → Prop, (src ρ).OK (fun r ρ1 => ∀ F1 H1 J, Stp F ρ σ H F1 ρ1 σ H1 → Live ρ ρ1 → Rel B F1 ρ1 σ H1 → (∀ Ex, ExOk Ex H F1 ρ1 σ H1 → Yl B J r.1 F1 (Stands Ex (lockL ρ1 r.2) σ H1)) → P J H1) (fun x fs ρ' => PostX B F ρ σ H x fs ρ' W) → wi σ H P :=
  ⟨fun σ H R => ∀ c, Classical.choose (h c) σ H R, fun c => ⟨fun pins s σ H R I q => (Classical.choose_spec (h c)).1.run pins s σ H R I (q c)⟩, fun F ρ σ H R P hq c => (Classical.choose_spec (h c)).2 F ρ σ H R P hq⟩
theorem uni_G {C : Type} {X : C → Cx} {B : Bas} {vs : List Nat} {e : Expr} {g : D → Env → Option Env} (h0 : C) (h : ∀ c, ∃ t, PG (X c) e t ∧ TgV B vs t g) : ∃ t, (∀ c, PG (X c) e t) ∧ TgV B vs t g :=
  ⟨fun v σ H Q => ∀ c, Classical.choose (h c) v σ H Q, fun c => ⟨fun pins s σ H v u Q I r q => (Classical.choose_spec (h c)).1.run pins s σ H v u Q I r (q c)⟩, (Classical.choose_spec (h h0)).2.1, fun F0 ρ0 σ0 H0 F ρ σ H v d ρ' R S r e Q q c => (Classical.choose_spec (h c)).2.2 F0 ρ0 σ0 H0 F ρ σ H v d ρ' R S r e Q q⟩
abbrev Ctx := Shared × Hp × Addr × List (Str × Addr) × List Addr
def ctx0 : Ctx := ({}, fun _ => none, 0, [], [])
section
variable {X : Cx} {I : Addr → Value → Option Addr → Prop} {W : WX} {scope : Scope} {vs : List Nat} {RA : RAcc β}
/-- what is done behind a clause's tests -/
def InB (X : Cx) (I : Addr → Value → Option Addr → Prop) (scope : Scope) (vs : List Nat) (RA : RAcc β) (m : Addr → PySem.Env → Sem PySem.Fin → Sem PySem.Fin) (f : β → Env → Out β) : Prop := ∀ Z, ∃ tin : TB, (∀ c, BOK (BlkX X scope c) (m Z (BlkX X scope c).env) tin) ∧ SemB (bas X I) RA Z vs tin f
theorem in_lst {elt : Expr} {el : ESem} (he : ∀ c, SE (BlkX X scope c) I W0 elt el) : InB X I scope vs lstA (fun Z env => mThen (mLst (.ref Z) env elt)) (emL el) := fun Z => by
  obtain ⟨t, p, m⟩ := uni_E (X := BlkX X scope) (B := bas X I) he
  exact ⟨_, fun c => bok_lst rfl (p c), semB_lst m⟩
/-- the parts of one clause within a block -/
theorem in_next {ck : CK} {G : List Cpn} {p : Pos} {k : Nat} {t1 i1 : Expr} {f1 : List Expr} {m : Addr → PySem.Env → Sem PySem.Fin → Sem PySem.Fin} {c : CL} {inn : β → Env → Out β} (hc : X.calm = true)
    (hk : G[k + 1]? = some ⟨t1, i1, f1, 0⟩) (ht : ∀ Z it env, compTurn (ck.ex G scope p) (k + 1) it (.ref Z) env = trn t1 i1 f1 (m Z env) (.compLoop (ck.ex G scope p) (k + 1) it (.ref Z) env) it env)
    (src : ∀ x, SI (BlkX X scope x) I W0 t1 i1 c.src) (tg : ∀ x, SG (BlkX X scope x) I vs t1 c.tg) (tt : ∀ x, SPT (BlkX X scope x) I W0 f1 c.tt) (h : InB X I scope vs RA m inn) (hs : ∀ env x, foldedSetIterable i1 env x = pure x) :
    InB X I scope vs RA (fun Z env => mNext (ck.ex G scope p) k (.ref Z) env i1) (fun acc ρ => (c.src ρ).nox.bind fun r ρ1 => (loopF c.tg c.tt inn r.1 acc (lockL ρ1 r.2)).onE (unlL ρ1 r.2)) := fun Z => by
  obtain ⟨tin, bk, sb⟩ := h Z
  obtain ⟨wi, pi, si⟩ := uni_S (X := BlkX X scope) (B := bas X I) (W := W0) src
  obtain ⟨g, pg, sg⟩ := uni_G (X := BlkX X scope) (B := bas X I) ctx0 tg
  obtain ⟨u, pt, st⟩ := uni_C (X := BlkX X scope) (B := bas X I) tt
  exact ⟨_, fun x => bok_next hk (pi x) (hs _) rfl (lok hc rfl (fun it => ht Z it _) (pg x) (pt x) (bk x)), semB_cl si sg st sb⟩
/-- the whole, as a value: its reading and what it collects -/
theorem cmp_sem {ck : CK} {tgt it : Expr} {ifs : List Expr} {gs : List Cpn} {own : List (Str × Nat)} {pos pos' : Pos} {c : CL} {cs : List CL} {em : β → Env → Out β} {a0 : β} {u0 : Addr → HO} {mk : Sem Value} {m : Addr → PySem.Env → Sem PySem.Fin → Sem PySem.Fin}
    (he : eval (ck.ex (⟨tgt, it, ifs, 0⟩ :: gs) scope pos) X.env = comprehension (ck.ex (⟨tgt, it, ifs, 0⟩ :: gs) scope pos) scope X.env pos' mk false (eval it X.env) none)
    (ht : ∀ Z j env, compTurn (ck.ex (⟨tgt, it, ifs, 0⟩ :: gs) scope pos) 0 j (.ref Z) env = trn tgt it ifs (m Z env) (.compLoop (ck.ex (⟨tgt, it, ifs, 0⟩ :: gs) scope pos) 0 j (.ref Z) env) j env)
    (nw : NewA X u0 mk) (h0 : ∀ B F Z, RA.R B Z F (u0 Z) a0)
    (hc : X.calm = true) (hN : X.N.Nodup) (ok : BlkOk X.N X.env.scope scope own) (src : SI X I W tgt it c.src) (tg : ∀ x, SG (BlkX X scope x) I (own.map (·.2)) tgt c.tg) (tt : ∀ x, SPT (BlkX X scope x) I W0 ifs c.tt) (h : InB X I scope (own.map (·.2)) RA m (clF cs em))
    (hs : ∀ x, foldedSetIterable it X.env x = pure x) : ∃ t, PE X (ck.ex (⟨tgt, it, ifs, 0⟩ :: gs) scope pos) t ∧ SemG (bas X I) W t (cmpO c cs em a0 (own.map (·.2))) (PostA RA (bas X I)) := by
  obtain ⟨wi, pi, si⟩ := src
  obtain ⟨g, pg, sg⟩ := uni_G (X := BlkX X scope) (B := bas X I) ctx0 tg
  obtain ⟨u, pt, st⟩ := uni_C (X := BlkX X scope) (B := bas X I) tt
  exact ⟨_, pe_cmp he hN pi ok nw (tl := fun Z => tLoop g u (Classical.choose (h Z))) (fun D s H C cl fp => lok hc rfl (fun j => ht D j _) (pg (s, H, C, cl, fp)) (pt (s, H, C, cl, fp)) ((Classical.choose_spec (h D)).1 (s, H, C, cl, fp))) hs, sem_cmp si sg st (fun Z => (Classical.choose_spec (h Z)).2) (h0 _)⟩
/-- stored under a name -/
theorem cmp_set {ck : CK} {i : Nat} {y : Str} {py spos : Pos} {tgt it : Expr} {ifs : List Expr} {gs : List Cpn} {own : List (Str × Nat)} {pos pos' : Pos} {c : CL} {cs : List CL} {em : β → Env → Out β} {a0 : β} {u0 : Addr → HO} {mk : Sem Value} {m : Addr → PySem.Env → Sem PySem.Fin → Sem PySem.Fin}
    (he : ∀ use, evalThenUse (ck.ex (⟨tgt, it, ifs, 0⟩ :: gs) scope pos) X.env use = (do let _ ← comprehension (ck.ex (⟨tgt, it, ifs, 0⟩ :: gs) scope pos) scope X.env pos' mk false (eval it X.env) (some use)))
    (ht : ∀ Z j env, compTurn (ck.ex (⟨tgt, it, ifs, 0⟩ :: gs) scope pos) 0 j (.ref Z) env = trn tgt it ifs (m Z env) (.compLoop (ck.ex (⟨tgt, it, ifs, 0⟩ :: gs) scope pos) 0 j (.ref Z) env) j env)
    (nw : NewA X u0 mk) (h0 : ∀ B F Z, RA.R B Z F (u0 Z) a0) (hsw : swapsWith (ck.ex (⟨tgt, it, ifs, 0⟩ :: gs) scope pos) (some (.Name y py)) spos.line X.env = pure true) (hy : X.N[i]? = some y) (hyl : X.env.scope.names.lookup y = some .local)
    (hc : X.calm = true) (hN : X.N.Nodup) (ok : BlkOk X.N X.env.scope scope own) (src : SI X I W tgt it c.src) (tg : ∀ x, SG (BlkX X scope x) I (own.map (·.2)) tgt c.tg) (tt : ∀ x, SPT (BlkX X scope x) I W0 ifs c.tt) (h : InB X I scope (own.map (·.2)) RA m (clF cs em))
    (hs : ∀ x, foldedSetIterable it X.env x = pure x) : ∃ t, PS X (.Assign [.Name y py] (ck.ex (⟨tgt, it, ifs, 0⟩ :: gs) scope pos) spos) (tAsg t (gName i)) ∧ SemG (bas X I) W t (cmpO c cs em a0 (own.map (·.2))) (PostA RA (bas X I)) := by
  obtain ⟨wi, pi, si⟩ := src
  obtain ⟨g, pg, sg⟩ := uni_G (X := BlkX X scope) (B := bas X I) ctx0 tg
  obtain ⟨u, pt, st⟩ := uni_C (X := BlkX X scope) (B := bas X I) tt
  exact ⟨_, ps_cmp he hsw hN hy hyl pi ok nw (tl := fun Z => tLoop g u (Classical.choose (h Z))) (fun D s H C cl fp => lok hc rfl (fun j => ht D j _) (pg (s, H, C, cl, fp)) (pt (s, H, C, cl, fp)) ((Classical.choose_spec (h D)).1 (s, H, C, cl, fp))) hs, sem_cmp si sg st (fun Z => (Classical.choose_spec (h Z)).2) (h0 _)⟩
/-! ### lists -/
theorem lst0 : ∀ (B : Bas) (F : Hp) (Z : Addr), lstA.R B Z F ((fun _ => HO.lst []) Z) [] := fun _ _ _ => ⟨[], rfl, .nil⟩
section
variable {elt tgt it t1 i1 : Expr} {ifs f1 : List Expr} {own : List (Str × Nat)} {pos py spos : Pos} {c c1 : CL} {el : ESem} {i : Nat} {y : Str}
theorem se_lg1 (hc : X.calm = true) (hN : X.N.Nodup) (src : SI X I W tgt it c.src) (ok : BlkOk X.N X.env.scope scope own) (tg : ∀ x, SG (BlkX X scope x) I (own.map (·.2)) tgt c.tg) (tt : ∀ x, SPT (BlkX X scope x) I W0 ifs c.tt) (e : ∀ x, SE (BlkX X scope x) I W0 elt el) (hs : ∀ x, foldedSetIterable it X.env x = pure x := by intro _; rfl) :
    SE X I W (.ListComp elt [⟨tgt, it, ifs, 0⟩] scope pos) (eLG c [] el (own.map (·.2))) :=
  let ⟨t, p, m⟩ := cmp_sem (ck := .lst elt) (gs := []) rfl (fun Z j env => trn_lst rfl rfl) new_lst lst0 hc hN ok src tg tt (in_lst e) hs; ⟨t, p, sem_lg m⟩
theorem ss_lg1 (hc : X.calm = true) (hN : X.N.Nodup) (hy : X.N[i]? = some y) (hyl : X.env.scope.names.lookup y = some .local) (hsw : swapsWith (.ListComp elt [⟨tgt, it, ifs, 0⟩] scope pos) (some (.Name y py)) spos.line X.env = pure true)
    (src : SI X I W tgt it c.src) (ok : BlkOk X.N X.env.scope scope own) (tg : ∀ x, SG (BlkX X scope x) I (own.map (·.2)) tgt c.tg) (tt : ∀ x, SPT (BlkX X scope x) I W0 ifs c.tt) (e : ∀ x, SE (BlkX X scope x) I W0 elt el) (hs : ∀ x, foldedSetIterable it X.env x = pure x := by intro _; rfl) :
    SS X I W (.Assign [.Name y py] (.ListComp elt [⟨tgt, it, ifs, 0⟩] scope pos) spos) (sA i (eLG c [] el (own.map (·.2)))) :=
  let ⟨t, p, m⟩ := cmp_set (ck := .lst elt) (gs := []) (fun _ => rfl) (fun Z j env => trn_lst rfl rfl) new_lst lst0 hsw hy hyl hc hN ok src tg tt (in_lst e) hs; ⟨_, p, sem_asg (sem_lg m)⟩
theorem se_lg2 (hc : X.calm = true) (hN : X.N.Nodup) (src : SI X I W tgt it c.src) (ok : BlkOk X.N X.env.scope scope own) (tg : ∀ x, SG (BlkX X scope x) I (own.map (·.2)) tgt c.tg) (tt : ∀ x, SPT (BlkX X scope x) I W0 ifs c.tt)
    (src1 : ∀ x, SI (BlkX X scope x) I W0 t1 i1 c1.src) (tg1 : ∀ x, SG (BlkX X scope x) I (own.map (·.2)) t1 c1.tg) (tt1 : ∀ x, SPT (BlkX X scope x) I W0 f1 c1.tt) (e : ∀ x, SE (BlkX X scope x) I W0 elt el) (hs : ∀ x, foldedSetIterable it X.env x = pure x := by intro _; rfl) (hs1 : ∀ env x, foldedSetIterable i1 env x = pure x := by intro _ _; rfl) :
    SE X I W (.ListComp elt [⟨tgt, it, ifs, 0⟩, ⟨t1, i1, f1, 0⟩] scope pos) (eLG c [c1] el (own.map (·.2))) :=
  let ⟨t, p, m⟩ := cmp_sem (ck := .lst elt) (gs := [⟨t1, i1, f1, 0⟩]) rfl (fun Z j env => trn_next (.lst elt) rfl rfl) new_lst lst0 hc hN ok src tg tt (in_next (ck := .lst elt) hc rfl (fun Z j env => trn_lst rfl rfl) src1 tg1 tt1 (in_lst e) hs1) hs; ⟨t, p, sem_lg m⟩
theorem ss_lg2 (hc : X.calm = true) (hN : X.N.Nodup) (hy : X.N[i]? = some y) (hyl : X.env.scope.names.lookup y = some .local) (hsw : swapsWith (.ListComp elt [⟨tgt, it, ifs, 0⟩, ⟨t1, i1, f1, 0⟩] scope pos) (some (.Name y py)) spos.line X.env = pure true)
    (src : SI X I W tgt it c.src) (ok : BlkOk X.N X.env.scope scope own) (tg : ∀ x, SG (BlkX X scope x) I (own.map (·.2)) tgt c.tg) (tt : ∀ x, SPT (BlkX X scope x) I W0 ifs c.tt)
    (src1 : ∀ x, SI (BlkX X scope x) I W0 t1 i1 c1.src) (tg1 : ∀ x, SG (BlkX X scope x) I (own.map (·.2)) t1 c1.tg) (tt1 : ∀ x, SPT (BlkX X scope x) I W0 f1 c1.tt) (e : ∀ x, SE (BlkX X scope x) I W0 elt el) (hs : ∀ x, foldedSetIterable it X.env x = pure x := by intro _; rfl) (hs1 : ∀ env x, foldedSetIterable i1 env x = pure x := by intro _ _; rfl) :
    SS X I W (.Assign [.Name y py] (.ListComp elt [⟨tgt, it, ifs, 0⟩, ⟨t1, i1, f1, 0⟩] scope pos) spos) (sA i (eLG c [c1] el (own.map (·.2)))) :=
  let ⟨t, p, m⟩ := cmp_set (ck := .lst elt) (gs := [⟨t1, i1, f1, 0⟩]) (fun _ => rfl) (fun Z j env => trn_next (.lst elt) rfl rfl) new_lst lst0 hsw hy hyl hc hN ok src tg tt (in_next (ck := .lst elt) hc rfl (fun Z j env => trn_lst rfl rfl) src1 tg1 tt1 (in_lst e) hs1) hs; ⟨_, p, sem_asg (sem_lg m)⟩
end
end
end DL
end
section
/-! G8: sets of ints, sorted at once. -/
namespace DL
open PySem PySem.Spec L2

theorem new_setI {X : Cx} : NewA X (fun D => SetO X.w D (fun _ => false) 0) (newSet (.type "set")) := by
  intro pins s σ H Q E I q
  refine PpSet.newSet_ok (q _ (I.hok.fresh (Nat.le_refl _)) (Heap.size_push ..) (fun b o e => Heap.get?_push_of_some _ e) ?_)
  exact I.laid (t' := s.toks) (fun b o e => Heap.get?_push_of_some _ e) (Nat.le_refl _) (setO_new (setR_fresh X.w))
/-- the ints in, each once, in the order they came -/
def setIA (w : World) : RAcc (List Int) := ⟨fun _ Z _ u acc => u = SetO w Z (fun k => decide (k ∈ acc)) acc.length ∧ acc.Nodup, fun _ h => h, fun ⟨e, _⟩ xs z => by rw [e] at z; cases z⟩
def addI (acc : List Int) (i : Int) : List Int := if i ∈ acc then acc else acc ++ [i]
def emSI (el : ESem) : List Int → Env → Out (List Int) := fun acc ρ => (eF el ρ).nox.bind fun d ρ1 => match d with
  | .int i => if acc.length < 1000 then .ok (addI acc i) ρ1 else .no
  | _ => .no
theorem addI_nd {acc : List Int} {i : Int} (h : acc.Nodup) : (addI acc i).Nodup := by
  unfold addI
  split
  · exact h
  · rename_i q
    exact List.nodup_append.mpr ⟨h, by simp, fun a ha b hb => by rw [List.mem_singleton.mp hb]; exact fun e => q (e ▸ ha)⟩
theorem setO_addI {w : World} {Z : Addr} {acc : List Int} {i : Int} : SetO w Z (fun j => decide (j ∈ acc) || decide (j = i)) (if decide (i ∈ acc) = true then acc.length else acc.length + 1) = SetO w Z (fun k => decide (k ∈ addI acc i)) (addI acc i).length := by
  have e1 : (fun j => decide (j ∈ acc) || decide (j = i)) = fun k => decide (k ∈ addI acc i) := by
    funext j
    rw [Bool.eq_iff_iff]
    unfold addI
    split
    · rename_i q
      simp only [Bool.or_eq_true, decide_eq_true_eq]
      exact ⟨fun h => h.elim id fun e => e ▸ q, .inl⟩
    · simp
  have e2 : (if decide (i ∈ acc) = true then acc.length else acc.length + 1) = (addI acc i).length := by
    unfold addI
    by_cases q : i ∈ acc <;> simp [q]
  rw [e1, e2]
section
variable {X : Cx} {I : Addr → Value → Option Addr → Prop} {W : WX} {scope : Scope} {vs : List Nat}
def rAddI (w : World) (D : Addr) (y : V) (H : Hp) (Q : Hp → Prop) : Prop := ∃ (k : Int) (S : Int → Bool) (n : Nat), y = .int k ∧ H D = some (SetO w D S n) ∧ n + 1 < scanBound ∧ Q (upd H D (SetO w D (fun j => S j || decide (j = k)) (if S k = true then n else n + 1)))
theorem add_int {Y : Cx} {D : Addr} (hx : Y.xe = fun _ _ => False) : AddR Y D (rAddI Y.w D) := by
  intro pins s σ H y v Q I r h
  obtain ⟨k, S, n, e, hD, hn, q⟩ := h
  have := mt_sadd pins s σ H (.ref D) [y] (.ref D) [v] (fun _ H' => Q H') I rfl (.cons r .nil) ⟨D, k, S, n, rfl, by rw [e], hD, hn, q⟩
  rw [hx] at this
  exact thnF this fun u s' ⟨x, H', I', _, q'⟩ => ⟨H', I', q'⟩
theorem semB_setI {B : Bas} {w : World} {Z : Addr} {te : TE} {el : ESem} (he : SemG B W0 te el (PostE B)) : SemB B (setIA w) Z vs (fun σ H N => te σ H fun y H1 => rAddI w Z y H1 (N σ)) (emSI el) := by
  intro F ρ σ H acc N R A hq
  refine he.frz F ρ σ H R _ ((Out.nox_bind _ _ _ _ hq _).imp (fun d ρ1 h1 F1 H1 y S1 L1 R1 r1 => ?_) fun _ _ _ z => z)
  have A1 := A.step S1
  obtain ⟨u, hu, eu, nd⟩ := A1.at_
  cases d with
  | int i =>
    dsimp only at h1
    by_cases hz : acc.length < 1000
    · rw [if_pos hz] at h1
      cases r1
      refine ⟨i, _, _, rfl, by rw [hu, eu], by unfold scanBound; omega, ?_⟩
      rw [setO_addI]
      obtain ⟨A2, R2⟩ := A1.put (u := SetO w Z (fun k => decide (k ∈ addI acc i)) (addI acc i).length) (acc' := addI acc i) R1 ⟨rfl, addI_nd nd⟩
      exact h1 F1 σ _ (by show Stp _ _ _ _ _ _ _ (er Z _); rw [er_upd]; exact S1.er) L1 rfl R2 A2
    · rw [if_neg hz] at h1; exact h1.elim
  | _ => exact h1.elim
theorem in_setI {elt : Expr} {el : ESem} (he : ∀ c, SE (BlkX X scope c) I W0 elt el) : InB X I scope vs (setIA X.w) (fun Z env => mThen (mSet (.ref Z) env elt)) (emSI el) := fun Z => by
  obtain ⟨t, p, m⟩ := uni_E (X := BlkX X scope) (B := bas X I) he
  exact ⟨fun σ H N => t σ H fun y H1 => rAddI X.w Z y H1 (N σ), fun c => bok_set rfl (p c) (add_int rfl), semB_setI m⟩
theorem setI0 {w : World} : ∀ (B : Bas) (F : Hp) (Z : Addr), (setIA w).R B Z F ((fun D => SetO w D (fun _ => false) 0) Z) [] := fun B F Z => by
  refine ⟨?_, List.nodup_nil⟩
  show SetO w Z _ _ = SetO w Z _ _
  congr 1
/-- sorted at once -/
def eSrtS (f : Env → Out (List Int)) : ESem := fun ρ => (f ρ).bind fun acc ρ' => if acc.length < 64 then .ok (.fr (.lst ((sortI acc).map .int))) ρ' else .no
theorem se_srtSI {e : Expr} {t : TE} {f : Env → Out (List Int)} {p pos : Pos} (hc : X.calm = true) (hg : Gl X "sorted") (hm : X.mg "sorted" = none) (hp : PE X e t) (hs : SemG (bas X I) W t f (PostA (setIA X.w) (bas X I)))
    (he : starEach [e] X.env = (false, eval e X.env) :: starEach [] X.env := by rfl) (hpl : (backTo pos (starEach [] X.env)).any (·.1) = false := by rfl) : SE X I W (.Call (.Name "sorted" p) [e] [] pos) (eSrtS f) := by
  refine ⟨_, pe_callB (cr_sortedSet hc) hg hm (by rfl) (pa_cons hp pa_nil he) (by decide) (by decide) he hpl, fun F ρ σ H R Q hq => ?_⟩
  rw [eSrtS, Out.OK_bind] at hq
  refine hs F ρ σ H R _ (hq.imp (fun acc ρ' h1 F' H' Z u S L R' h0 hF hn hu ra => ?_) fun _ _ _ z => z)
  obtain ⟨eu, nd⟩ := ra
  by_cases hz : acc.length < 64
  · rw [if_pos hz] at h1
    refine ⟨Z, _, _, rfl, by rw [hu, eu], hz, fun ns p hs hm hl hp => ?_⟩
    have e : ns = sortI acc := by
      refine sorted_one ?_ (hs.imp fun h => by omega) (sortI_sorted acc)
      refine ((List.perm_ext_iff_of_nodup (hs.imp fun h => by omega) nd).mpr fun k => ?_).trans (sortI_perm acc).symm
      rw [hm]; exact decide_eq_true_iff
    subst e
    obtain ⟨S2, R2, r2⟩ := newList R' S hp (RepL.ints (sortI acc))
    exact h1 _ _ _ S2 L R2 r2
  · rw [if_neg hz] at h1; exact h1.elim
section
variable {elt tgt it t1 i1 : Expr} {ifs f1 : List Expr} {own : List (Str × Nat)} {pos q0 q1 : Pos} {c c1 : CL} {el : ESem}
abbrev eSI (c : CL) (cs : List CL) (el : ESem) (vs : List Nat) : ESem := eSrtS (cmpO c cs (emSI el) [] vs)
theorem se_si1 (hg : Gl X "sorted") (hm : X.mg "sorted" = none) (hc : X.calm = true) (hN : X.N.Nodup) (src : SI X I W tgt it c.src) (ok : BlkOk X.N X.env.scope scope own) (tg : ∀ x, SG (BlkX X scope x) I (own.map (·.2)) tgt c.tg) (tt : ∀ x, SPT (BlkX X scope x) I W0 ifs c.tt) (e : ∀ x, SE (BlkX X scope x) I W0 elt el) (hs : ∀ x, foldedSetIterable it X.env x = pure x := by intro _; rfl) :
    SE X I W (.Call (.Name "sorted" q0) [.SetComp elt [⟨tgt, it, ifs, 0⟩] scope pos] [] q1) (eSI c [] el (own.map (·.2))) :=
  let ⟨t, p, m⟩ := cmp_sem (ck := .set elt) (gs := []) (W := W) rfl (fun Z j env => trn_set rfl rfl) new_setI setI0 hc hN ok src tg tt (in_setI e) hs
  se_srtSI hc hg hm p m
theorem se_si2 (hg : Gl X "sorted") (hm : X.mg "sorted" = none) (hc : X.calm = true) (hN : X.N.Nodup) (src : SI X I W tgt it c.src) (ok : BlkOk X.N X.env.scope scope own) (tg : ∀ x, SG (BlkX X scope x) I (own.map (·.2)) tgt c.tg) (tt : ∀ x, SPT (BlkX X scope x) I W0 ifs c.tt)
    (src1 : ∀ x, SI (BlkX X scope x) I W0 t1 i1 c1.src) (tg1 : ∀ x, SG (BlkX X scope x) I (own.map (·.2)) t1 c1.tg) (tt1 : ∀ x, SPT (BlkX X scope x) I W0 f1 c1.tt) (e : ∀ x, SE (BlkX X scope x) I W0 elt el) (hs : ∀ x, foldedSetIterable it X.env x = pure x := by intro _; rfl) (hs1 : ∀ env x, foldedSetIterable i1 env x = pure x := by intro _ _; rfl) :
    SE X I W (.Call (.Name "sorted" q0) [.SetComp elt [⟨tgt, it, ifs, 0⟩, ⟨t1, i1, f1, 0⟩] scope pos] [] q1) (eSI c [c1] el (own.map (·.2))) :=
  let ⟨t, p, m⟩ := cmp_sem (ck := .set elt) (gs := [⟨t1, i1, f1, 0⟩]) (W := W) rfl (fun Z j env => trn_next (.set elt) rfl rfl) new_setI setI0 hc hN ok src tg tt (in_next (ck := .set elt) hc rfl (fun Z j env => trn_set rfl rfl) src1 tg1 tt1 (in_setI e) hs1) hs
  se_srtSI hc hg hm p m
end
end
end DL
end
section
/-! G9: dicts: what they hold, in, d[k], d[k] = v, comprehensions. -/
namespace DL
open PySem PySem.Spec L2 PyProof.Rows

/-! ### keys -/
def keyD : D → Option L2.Key
  | .int i => some (.inl i)
  | .str x => some (.inr x)
  | _ => none
def keysD : List D → Option (List L2.Key)
  | [] => some []
  | d :: ds => match keyD d, keysD ds with
    | some k, some ks => some (k :: ks)
    | _, _ => none
def tkeyD : D → Option (List L2.Key)
  | .tup ds => keysD ds
  | _ => none
def dKey : L2.Key → D
  | .inl i => .int i
  | .inr x => .str x
section
variable {κ α : Type} [DecidableEq κ]
def getG (kvs : List (κ × α)) (k : κ) : Option α := (kvs.find? fun p => decide (p.1 = k)).map (·.2)
def putG (kvs : List (κ × α)) (k : κ) (v : α) : List (κ × α) := if (kvs.any fun p => decide (p.1 = k)) = true then kvs.map (fun p => if p.1 = k then (p.1, v) else p) else kvs ++ [(k, v)]
theorem putG_nil {k : κ} {v : α} : putG [] k v = [(k, v)] := rfl
end
section
variable {B : Bas} {F : Hp}
theorem rep_key {v : V} {d : D} {k : L2.Key} (h : Rep B F v d) (e : keyD d = some k) : v = kV k := by
  cases h <;> simp only [keyD] at e <;> cases e <;> rfl
theorem rep_keys : ∀ {vs : List V} {ds : List D} {ks : List L2.Key}, RepL B F vs ds → keysD ds = some ks → vs = ks.map kV
  | _, _, _, .nil, e => by cases e; rfl
  | _, _, _, .cons (d := d) (ds := ds) h l, e => by
    simp only [keysD] at e
    cases e1 : keyD d with
    | none => rw [e1] at e; cases e
    | some k =>
      cases e2 : keysD ds with
      | none => rw [e1, e2] at e; cases e
      | some ks => rw [e1, e2] at e; cases e; rw [rep_key h e1, rep_keys l e2]; rfl
theorem RepT.length : ∀ {vs : List (List L2.Key × V)} {ds : List (List L2.Key × D)}, RepT B F vs ds → vs.length = ds.length
  | _, _, .nil => rfl
  | _, _, .cons _ l => congrArg (· + 1) l.length
theorem RepK.length : ∀ {vs : List (L2.Key × V)} {ds : List (L2.Key × D)}, RepK B F vs ds → vs.length = ds.length
  | _, _, .nil => rfl
  | _, _, .cons _ l => congrArg (· + 1) l.length
theorem RepT.get {k : List L2.Key} : ∀ {vs : List (List L2.Key × V)} {ds : List (List L2.Key × D)}, RepT B F vs ds → (valV vs k = none ∧ getG ds k = none) ∨ ∃ v d, valV vs k = some v ∧ getG ds k = some d ∧ Rep B F v d
  | _, _, .nil => .inl ⟨rfl, rfl⟩
  | _, _, .cons (f := f) (v := v) (d := d) h l => by
    by_cases q : f = k
    · exact .inr ⟨v, d, by simp [valV, List.find?_cons, q], by simp [getG, List.find?_cons, q], h⟩
    · rcases RepT.get (k := k) l with ⟨h1, h2⟩ | ⟨v1, d1, h1, h2, h3⟩
      · exact .inl ⟨by rw [← h1]; simp [valV, List.find?_cons, q], by rw [← h2]; simp [getG, List.find?_cons, q]⟩
      · exact .inr ⟨v1, d1, by rw [← h1]; simp [valV, List.find?_cons, q], by rw [← h2]; simp [getG, List.find?_cons, q], h3⟩
theorem RepK.get {k : L2.Key} : ∀ {vs : List (L2.Key × V)} {ds : List (L2.Key × D)}, RepK B F vs ds → (valV vs k = none ∧ getG ds k = none) ∨ ∃ v d, valV vs k = some v ∧ getG ds k = some d ∧ Rep B F v d
  | _, _, .nil => .inl ⟨rfl, rfl⟩
  | _, _, .cons (f := f) (v := v) (d := d) h l => by
    by_cases q : f = k
    · exact .inr ⟨v, d, by simp [valV, List.find?_cons, q], by simp [getG, List.find?_cons, q], h⟩
    · rcases RepK.get (k := k) l with ⟨h1, h2⟩ | ⟨v1, d1, h1, h2, h3⟩
      · exact .inl ⟨by rw [← h1]; simp [valV, List.find?_cons, q], by rw [← h2]; simp [getG, List.find?_cons, q]⟩
      · exact .inr ⟨v1, d1, by rw [← h1]; simp [valV, List.find?_cons, q], by rw [← h2]; simp [getG, List.find?_cons, q], h3⟩
theorem RepT.any {k : List L2.Key} : ∀ {vs : List (List L2.Key × V)} {ds : List (List L2.Key × D)}, RepT B F vs ds → (vs.any fun p => decide (p.1 = k)) = (ds.any fun p => decide (p.1 = k))
  | _, _, .nil => rfl
  | _, _, .cons h l => by simp only [List.any_cons, RepT.any l]
theorem RepK.any {k : L2.Key} : ∀ {vs : List (L2.Key × V)} {ds : List (L2.Key × D)}, RepK B F vs ds → (vs.any fun p => decide (p.1 = k)) = (ds.any fun p => decide (p.1 = k))
  | _, _, .nil => rfl
  | _, _, .cons h l => by simp only [List.any_cons, RepK.any l]
theorem RepT.upd {k : List L2.Key} {v : V} {d : D} (r : Rep B F v d) : ∀ {vs : List (List L2.Key × V)} {ds : List (List L2.Key × D)}, RepT B F vs ds → RepT B F (vs.map fun p => if p.1 = k then (p.1, v) else p) (ds.map fun p => if p.1 = k then (p.1, d) else p)
  | _, _, .nil => .nil
  | _, _, .cons (f := f) h l => by
    simp only [List.map_cons]
    by_cases q : f = k
    · rw [if_pos q, if_pos q]; exact .cons r (RepT.upd r l)
    · rw [if_neg q, if_neg q]; exact .cons h (RepT.upd r l)
theorem RepK.upd {k : L2.Key} {v : V} {d : D} (r : Rep B F v d) : ∀ {vs : List (L2.Key × V)} {ds : List (L2.Key × D)}, RepK B F vs ds → RepK B F (vs.map fun p => if p.1 = k then (p.1, v) else p) (ds.map fun p => if p.1 = k then (p.1, d) else p)
  | _, _, .nil => .nil
  | _, _, .cons (f := f) h l => by
    simp only [List.map_cons]
    by_cases q : f = k
    · rw [if_pos q, if_pos q]; exact .cons r (RepK.upd r l)
    · rw [if_neg q, if_neg q]; exact .cons h (RepK.upd r l)
theorem RepT.snoc {k : List L2.Key} {v : V} {d : D} (r : Rep B F v d) : ∀ {vs : List (List L2.Key × V)} {ds : List (List L2.Key × D)}, RepT B F vs ds → RepT B F (vs ++ [(k, v)]) (ds ++ [(k, d)])
  | _, _, .nil => .cons r .nil
  | _, _, .cons h l => .cons h (RepT.snoc r l)
theorem RepK.snoc {k : L2.Key} {v : V} {d : D} (r : Rep B F v d) : ∀ {vs : List (L2.Key × V)} {ds : List (L2.Key × D)}, RepK B F vs ds → RepK B F (vs ++ [(k, v)]) (ds ++ [(k, d)])
  | _, _, .nil => .cons r .nil
  | _, _, .cons h l => .cons h (RepK.snoc r l)
theorem RepT.put {k : List L2.Key} {v : V} {d : D} {vs : List (List L2.Key × V)} {ds : List (List L2.Key × D)} (r : Rep B F v d) (l : RepT B F vs ds) : RepT B F (putK vs k v) (putG ds k d) := by
  unfold putK putG
  rw [l.any]
  split
  · exact l.upd r
  · exact l.snoc r
theorem RepK.put {k : L2.Key} {v : V} {d : D} {vs : List (L2.Key × V)} {ds : List (L2.Key × D)} (r : Rep B F v d) (l : RepK B F vs ds) : RepK B F (putK vs k v) (putG ds k d) := by
  unfold putK putG
  rw [l.any]
  split
  · exact l.upd r
  · exact l.snoc r
end
/-! ### in -/
def dctHas (x y : D) : Option Bool := match y with
  | .dT kvs => (tkeyD x).map fun k => (getG kvs k).isSome
  | .dK kvs => (keyD x).map fun k => (getG kvs k).isSome
  | _ => none
def inDD (x y : D) : Option RV := (dctHas x y).map fun b => .fz (.bl b)
def ninDD (x y : D) : Option RV := (dctHas x y).map fun b => .fz (.bl (!b))
def rInDct (n : Bool) : R2 := fun y x H Q => ∃ a o, x = .ref a ∧ DGet H a y o ∧ Q (.bl (if n then !o.isSome else o.isSome)) H
theorem has_rule {B : Bas} {F H : Hp} {v u : V} {x y : D} {b : Bool} (m : ∀ a o, F a = some o → H a = some o) (hv : RdR B F H v x) (hu : RdR B F H u y) (e : dctHas x y = some b) : ∃ a o, u = .ref a ∧ DGet H a v o ∧ o.isSome = b := by
  cases y <;> simp only [dctHas] at e <;> try cases e
  · rename_i kvs
    obtain ⟨a, vs, rfl, h1, l⟩ := hu.dK m
    cases q : keyD x with
    | none => rw [q] at e; cases e
    | some k =>
      rw [q] at e; cases e
      have hv' : v = kV k := by
        rcases hv with hv | ⟨a, o, _, eo, _⟩
        · exact rep_key hv q
        · cases o <;> cases eo <;> cases q
      refine ⟨a, valV vs k, rfl, .inl ⟨vs, k, .inl h1, hv', rfl⟩, ?_⟩
      rcases l.get (k := k) with ⟨q1, q2⟩ | ⟨v1, d1, q1, q2, _⟩ <;> simp only [q1, q2] <;> rfl
  · rename_i kvs
    obtain ⟨a, vs, rfl, h1, l⟩ := hu.dT m
    cases x <;> simp only [tkeyD] at e <;> try cases e
    rename_i ds
    cases q : keysD ds with
    | none => rw [q] at e; cases e
    | some k =>
      rw [q] at e; cases e
      obtain ⟨b, xs, rfl, h2, l2⟩ := hv.tup
      refine ⟨a, valV vs k, rfl, .inr ⟨vs, k, b, .inl h1, rfl, by rw [m _ _ h2, rep_keys l2 q], rfl⟩, ?_⟩
      rcases l.get (k := k) with ⟨q1, q2⟩ | ⟨v1, d1, q1, q2, _⟩ <;> simp only [q1, q2] <;> rfl
section
variable {B : Bas} {X : Cx}
theorem ops_inDD : OpS B (rInDct false) inDD := by
  intro F ρ σ H v u x y rv R hv hu e Q q
  simp only [inDD] at e
  cases e1 : dctHas x y with
  | none => rw [e1] at e; cases e
  | some b =>
    rw [e1] at e; cases e
    obtain ⟨a, o, h1, h2, h3⟩ := has_rule R.ext hv hu e1
    exact ⟨a, o, h1, h2, by simp only [Bool.false_eq_true, if_false, h3]; exact ret1 R q (.bl b)⟩
theorem ops_ninDD : OpS B (rInDct true) ninDD := by
  intro F ρ σ H v u x y rv R hv hu e Q q
  simp only [ninDD] at e
  cases e1 : dctHas x y with
  | none => rw [e1] at e; cases e
  | some b =>
    rw [e1] at e; cases e
    obtain ⟨a, o, h1, h2, h3⟩ := has_rule R.ext hv hu e1
    exact ⟨a, o, h1, h2, by simp only [if_true, h3]; exact ret1 R q (.bl (!b))⟩
theorem op_inDD (hu : X.A.units + 1 < cLine) : OpR X (compareOp .In) (rInDct false) := by
  intro pins s σ H x y v u Q I rx ry h
  obtain ⟨a, o, rfl, g, q⟩ := h
  cases ry
  exact d_in hu I g rx fun s' I' => ⟨.bl o.isSome, H, I', rfl, q⟩
theorem op_ninDD (hu : X.A.units + 1 < cLine) : OpR X (compareOp .NotIn) (rInDct true) := by
  intro pins s σ H x y v u Q I rx ry h
  obtain ⟨a, o, rfl, g, q⟩ := h
  cases ry
  exact d_notIn hu I g rx fun s' I' => ⟨.bl (!o.isSome), H, I', rfl, q⟩
end
section
variable {X : Cx} {I : Addr → Value → Option Addr → Prop} {W : WX} {a b : Expr} {fa fb : ESem} {pos : Pos}
abbrev inA := orO inD inDD
abbrev ninA := orO ninD ninDD
theorem k_inA (hu : X.A.units + 65 < cLine) (h : SE X I W a fa) (k : SE X I W b fb) (hm : behindInMarks .In b = false := by rfl) : SE X I W (.Compare a [.In] [b] pos) (eOp inA fa fb) := se_cmp (OpR.or (op_inA hu) (op_inDD (by omega))) (ops_in.or ops_inDD) h k hm
theorem k_ninA (hu : X.A.units + 65 < cLine) (h : SE X I W a fa) (k : SE X I W b fb) (hm : behindInMarks .NotIn b = false := by rfl) : SE X I W (.Compare a [.NotIn] [b] pos) (eOp ninA fa fb) := se_cmp (OpR.or (op_ninA hu) (op_ninDD (by omega))) (ops_nin.or ops_ninDD) h k hm
theorem q_inA (hu : X.A.units + 65 < cLine) (h : SE X I W a fa) (k : SE X I W b fb) (hm : behindInMarks .In b = false := by rfl) : SC X I W (.Compare a [.In] [b] pos) (cB (eOp inA fa fb)) := sc_cmp (OpR.or (op_inA hu) (op_inDD (by omega))) (ops_in.or ops_inDD) h k hm
theorem q_ninA (hu : X.A.units + 65 < cLine) (h : SE X I W a fa) (k : SE X I W b fb) (hm : behindInMarks .NotIn b = false := by rfl) : SC X I W (.Compare a [.NotIn] [b] pos) (cB (eOp ninA fa fb)) := sc_cmp (OpR.or (op_ninA hu) (op_ninDD (by omega))) (ops_nin.or ops_ninDD) h k hm
end
/-! ### comprehensions -/
theorem new_dT {X : Cx} : NewA X (fun _ => .dT []) newDict := by
  intro pins s σ H Q E I q
  refine wpAny_newObj_type (q _ (I.hok.fresh (Nat.le_refl _)) (Heap.size_push ..) (fun b o e => Heap.get?_push_of_some _ e) ?_)
  exact I.laid (t' := s.toks) (fun b o e => Heap.get?_push_of_some _ e) (Nat.le_refl _) (dt_empty s.heap I.big)
theorem new_dK {X : Cx} : NewA X (fun _ => .dK []) newDict := by
  intro pins s σ H Q E I q
  refine wpAny_newObj_type (q _ (I.hok.fresh (Nat.le_refl _)) (Heap.size_push ..) (fun b o e => Heap.get?_push_of_some _ e) ?_)
  exact I.laid (t' := s.toks) (fun b o e => Heap.get?_push_of_some _ e) (Nat.le_refl _) (dk_empty s.heap I.big)
def dTA : RAcc (List (List L2.Key × D)) := ⟨fun B _ F u acc => ∃ vs, u = .dT vs ∧ RepT B F vs acc, fun m ⟨vs, e, l⟩ => ⟨vs, e, l.mono m⟩, fun ⟨vs, e, _⟩ xs z => by rw [e] at z; cases z⟩
def dKA : RAcc (List (L2.Key × D)) := ⟨fun B _ F u acc => ∃ vs, u = .dK vs ∧ RepK B F vs acc, fun m ⟨vs, e, l⟩ => ⟨vs, e, l.mono m⟩, fun ⟨vs, e, _⟩ xs z => by rw [e] at z; cases z⟩
def rPutT (D : Addr) (y z : V) (H : Hp) (Q : Hp → Prop) : Prop := ∃ kvs k b, H D = some (.dT kvs) ∧ y = .ref b ∧ H b = some (.tup (k.map kV)) ∧ kvs.length < sizeLine ∧ Q (upd H D (.dT (putK kvs k z)))
def rPutK (D : Addr) (y z : V) (H : Hp) (Q : Hp → Prop) : Prop := ∃ kvs k, H D = some (.dK kvs) ∧ y = kV k ∧ kvs.length < sizeLine ∧ Q (upd H D (.dK (putK kvs k z)))
theorem put_dT {Y : Cx} {D : Addr} (hu : Y.A.units < cLine) : PutR Y D (rPutT D) := by
  intro pins s σ H y z u v Q I ry rz h
  obtain ⟨kvs, k, b, e, ey, eb, l, q⟩ := h
  subst ey
  cases (show u = Value.ref b from ry)
  obtain ⟨z1, hd, xs, rel, dd⟩ := dt_of I.hok e
  have hz : xs.length ≤ sizeLine := by rw [← Paired.length rel]; exact z1
  have hl : (putK kvs k z).length ≤ sizeLine := by have := length_putK kvs k z; omega
  refine wpAny_dictSet_heap (hsz := hz) (by exact hu) (key_of I.hok eb) dd fun h' dd' hs => ⟨_, ?_, q⟩
  obtain ⟨o, es, ep, hq, h2, h3, h4, _, h5⟩ := dd'
  refine d_write I (by rw [e]; exact True.intro) hs ⟨o, hq⟩ ⟨hl, hd, _, (rel.put k eb rz).keeps fun c ys ec => ?_, o, es, ep, hq, h2, h3, h4, h5⟩
  rw [upd_ne (ne_of ec e (fun z => nomatch z))]
  exact ec
theorem put_dK {Y : Cx} {D : Addr} : PutR Y D (rPutK D) := by
  intro pins s σ H y z u v Q I ry rz h
  obtain ⟨kvs, k, e, ey, l, q⟩ := h
  subst ey
  exact d_dictSet I e l ry rz fun s' I' => ⟨_, I', q⟩
end DL
end
section
/-! G10: dict comprehensions, stores into dicts, sorted() of a dict of pairs. -/
namespace DL
open PySem PySem.Spec L2 PyProof.Rows PySem.Builtin PySem.W

/-! ### {k: v for ..} -/
def emDT (fk fv : ESem) : List (List L2.Key × D) → Env → Out (List (List L2.Key × D)) := fun acc ρ => (eF fk ρ).nox.bind fun dk ρ1 => (eF fv ρ1).nox.bind fun dv ρ2 => match tkeyD dk with
  | some k => if acc.length < sizeLine then .ok (putG acc k dv) ρ2 else .no
  | none => .no
def emDK (fk fv : ESem) : List (L2.Key × D) → Env → Out (List (L2.Key × D)) := fun acc ρ => (eF fk ρ).nox.bind fun dk ρ1 => (eF fv ρ1).nox.bind fun dv ρ2 => match keyD dk with
  | some k => if acc.length < sizeLine then .ok (putG acc k dv) ρ2 else .no
  | none => .no
section
variable {B : Bas} {Z : Addr} {vs : List Nat} {tk tv : TE} {fk fv : ESem}
theorem semB_dT (hk : SemG B W0 tk fk (PostE B)) (hv : SemG B W0 tv fv (PostE B)) : SemB B dTA Z vs (fun σ H N => tk σ H fun y H1 => tv σ H1 fun z H2 => rPutT Z y z H2 (N σ)) (emDT fk fv) := by
  intro F ρ σ H acc N R A hq
  refine hk.frz F ρ σ H R _ ((Out.nox_bind _ _ _ _ hq _).imp (fun dk ρ1 h1 F1 H1 y S1 L1 R1 r1 => ?_) fun _ _ _ z => z)
  refine hv.frz F1 ρ1 σ H1 R1 _ ((Out.nox_bind _ _ _ _ h1 _).imp (fun dv ρ2 h2 F2 H2 z S2 V2 R2 r2 => ?_) fun _ _ _ z => z)
  have S := S1.trans S2
  have A1 := A.step S
  obtain ⟨u, hu, us, eu, l⟩ := A1.at_
  subst eu
  cases e : tkeyD dk with
  | none => rw [e] at h2; exact h2.elim
  | some k =>
    rw [e] at h2; dsimp only at h2
    by_cases hz : acc.length < sizeLine
    · rw [if_pos hz] at h2
      cases dk <;> simp only [tkeyD] at e <;> try cases e
      rename_i ds
      cases r1.mono S2.mono with
      | tup hb lb =>
        obtain ⟨A2, R3⟩ := A1.put (u := .dT (putK us k z)) (acc' := putG acc k dv) R2 ⟨_, rfl, l.put r2⟩
        exact ⟨us, k, _, hu, rfl, by rw [R2.ext _ _ hb, rep_keys lb e], by rw [l.length]; exact hz, h2 F2 σ _ (by show Stp _ _ _ _ _ _ _ (er Z _); rw [er_upd]; exact S.er) (L1.trans V2) rfl R3 A2⟩
    · rw [if_neg hz] at h2; exact h2.elim
theorem semB_dK (hk : SemG B W0 tk fk (PostE B)) (hv : SemG B W0 tv fv (PostE B)) : SemB B dKA Z vs (fun σ H N => tk σ H fun y H1 => tv σ H1 fun z H2 => rPutK Z y z H2 (N σ)) (emDK fk fv) := by
  intro F ρ σ H acc N R A hq
  refine hk.frz F ρ σ H R _ ((Out.nox_bind _ _ _ _ hq _).imp (fun dk ρ1 h1 F1 H1 y S1 L1 R1 r1 => ?_) fun _ _ _ z => z)
  refine hv.frz F1 ρ1 σ H1 R1 _ ((Out.nox_bind _ _ _ _ h1 _).imp (fun dv ρ2 h2 F2 H2 z S2 V2 R2 r2 => ?_) fun _ _ _ z => z)
  have S := S1.trans S2
  have A1 := A.step S
  obtain ⟨u, hu, us, eu, l⟩ := A1.at_
  subst eu
  cases e : keyD dk with
  | none => rw [e] at h2; exact h2.elim
  | some k =>
    rw [e] at h2; dsimp only at h2
    by_cases hz : acc.length < sizeLine
    · rw [if_pos hz] at h2
      obtain ⟨A2, R3⟩ := A1.put (u := .dK (putK us k z)) (acc' := putG acc k dv) R2 ⟨_, rfl, l.put r2⟩
      exact ⟨us, k, hu, rep_key r1 e, by rw [l.length]; exact hz, h2 F2 σ _ (by show Stp _ _ _ _ _ _ _ (er Z _); rw [er_upd]; exact S.er) (L1.trans V2) rfl R3 A2⟩
    · rw [if_neg hz] at h2; exact h2.elim
end
section
variable {X : Cx} {I : Addr → Value → Option Addr → Prop} {W : WX} {scope : Scope} {vs : List Nat}
theorem in_dT {kx vx : Expr} {fk fv : ESem} (hu : X.A.units < cLine) (hk : ∀ c, SE (BlkX X scope c) I W0 kx fk) (hv : ∀ c, SE (BlkX X scope c) I W0 vx fv) : InB X I scope vs dTA (fun Z env => mThen (mDct Z env kx vx)) (emDT fk fv) := fun Z => by
  obtain ⟨t, p, m⟩ := uni_E (X := BlkX X scope) (B := bas X I) hk
  obtain ⟨u, q, n⟩ := uni_E (X := BlkX X scope) (B := bas X I) hv
  exact ⟨_, fun c => bok_dct rfl (p c) (q c) (put_dT hu), semB_dT m n⟩
theorem in_dK {kx vx : Expr} {fk fv : ESem} (hk : ∀ c, SE (BlkX X scope c) I W0 kx fk) (hv : ∀ c, SE (BlkX X scope c) I W0 vx fv) : InB X I scope vs dKA (fun Z env => mThen (mDct Z env kx vx)) (emDK fk fv) := fun Z => by
  obtain ⟨t, p, m⟩ := uni_E (X := BlkX X scope) (B := bas X I) hk
  obtain ⟨u, q, n⟩ := uni_E (X := BlkX X scope) (B := bas X I) hv
  exact ⟨_, fun c => bok_dct rfl (p c) (q c) put_dK, semB_dK m n⟩
def eDT (c : CL) (cs : List CL) (fk fv : ESem) (vs : List Nat) : ESem := fun ρ => (cmpO c cs (emDT fk fv) [] vs ρ).bind fun acc ρ' => .ok (.fr (.dT acc)) ρ'
def eDK (c : CL) (cs : List CL) (fk fv : ESem) (vs : List Nat) : ESem := fun ρ => (cmpO c cs (emDK fk fv) [] vs ρ).bind fun acc ρ' => .ok (.fr (.dK acc)) ρ'
theorem sem_dT {B : Bas} {t : TE} {c : CL} {cs : List CL} {fk fv : ESem} (h : SemG B W t (cmpO c cs (emDT fk fv) [] vs) (PostA dTA B)) : SemG B W t (eDT c cs fk fv vs) (PostE B) := by
  intro F ρ σ H R Q hq
  rw [eDT, Out.OK_bind] at hq
  refine h F ρ σ H R Q (hq.imp (fun acc ρ' h1 F' H' Z u S L R' h0 hF hn hu ra => ?_) fun _ _ _ z => z)
  obtain ⟨us, e, l⟩ := ra
  exact h1 F' H' (.ref Z) S L R' ⟨Z, rfl, h0, hF, ⟨us, by rw [hu, e], l⟩, hn⟩
theorem sem_dK {B : Bas} {t : TE} {c : CL} {cs : List CL} {fk fv : ESem} (h : SemG B W t (cmpO c cs (emDK fk fv) [] vs) (PostA dKA B)) : SemG B W t (eDK c cs fk fv vs) (PostE B) := by
  intro F ρ σ H R Q hq
  rw [eDK, Out.OK_bind] at hq
  refine h F ρ σ H R Q (hq.imp (fun acc ρ' h1 F' H' Z u S L R' h0 hF hn hu ra => ?_) fun _ _ _ z => z)
  obtain ⟨us, e, l⟩ := ra
  exact h1 F' H' (.ref Z) S L R' ⟨Z, rfl, h0, hF, ⟨us, by rw [hu, e], l⟩, hn⟩
theorem dT0 : ∀ (B : Bas) (F : Hp) (Z : Addr), dTA.R B Z F ((fun _ => HO.dT []) Z) [] := fun _ _ _ => ⟨[], rfl, .nil⟩
theorem dK0 : ∀ (B : Bas) (F : Hp) (Z : Addr), dKA.R B Z F ((fun _ => HO.dK []) Z) [] := fun _ _ _ => ⟨[], rfl, .nil⟩
variable {kx vx tgt it : Expr} {ifs : List Expr} {own : List (Str × Nat)} {pos py spos : Pos} {c : CL} {fk fv : ESem} {i : Nat} {y : Str}
theorem se_dT1 (hu : X.A.units < cLine) (hc : X.calm = true) (hN : X.N.Nodup) (src : SI X I W tgt it c.src) (ok : BlkOk X.N X.env.scope scope own) (tg : ∀ x, SG (BlkX X scope x) I (own.map (·.2)) tgt c.tg) (tt : ∀ x, SPT (BlkX X scope x) I W0 ifs c.tt) (hk : ∀ x, SE (BlkX X scope x) I W0 kx fk) (hv : ∀ x, SE (BlkX X scope x) I W0 vx fv) (hs : ∀ x, foldedSetIterable it X.env x = pure x := by intro _; rfl) :
    SE X I W (.DictComp kx vx [⟨tgt, it, ifs, 0⟩] scope pos) (eDT c [] fk fv (own.map (·.2))) :=
  let ⟨t, p, m⟩ := cmp_sem (ck := .dct kx vx) (gs := []) rfl (fun Z j env => trn_dct rfl rfl) new_dT dT0 hc hN ok src tg tt (in_dT hu hk hv) hs; ⟨t, p, sem_dT m⟩
theorem se_dK1 (hc : X.calm = true) (hN : X.N.Nodup) (src : SI X I W tgt it c.src) (ok : BlkOk X.N X.env.scope scope own) (tg : ∀ x, SG (BlkX X scope x) I (own.map (·.2)) tgt c.tg) (tt : ∀ x, SPT (BlkX X scope x) I W0 ifs c.tt) (hk : ∀ x, SE (BlkX X scope x) I W0 kx fk) (hv : ∀ x, SE (BlkX X scope x) I W0 vx fv) (hs : ∀ x, foldedSetIterable it X.env x = pure x := by intro _; rfl) :
    SE X I W (.DictComp kx vx [⟨tgt, it, ifs, 0⟩] scope pos) (eDK c [] fk fv (own.map (·.2))) :=
  let ⟨t, p, m⟩ := cmp_sem (ck := .dct kx vx) (gs := []) rfl (fun Z j env => trn_dct rfl rfl) new_dK dK0 hc hN ok src tg tt (in_dK hk hv) hs; ⟨t, p, sem_dK m⟩
theorem ss_dT1 (hu : X.A.units < cLine) (hc : X.calm = true) (hN : X.N.Nodup) (hy : X.N[i]? = some y) (hyl : X.env.scope.names.lookup y = some .local) (hsw : swapsWith (.DictComp kx vx [⟨tgt, it, ifs, 0⟩] scope pos) (some (.Name y py)) spos.line X.env = pure true)
    (src : SI X I W tgt it c.src) (ok : BlkOk X.N X.env.scope scope own) (tg : ∀ x, SG (BlkX X scope x) I (own.map (·.2)) tgt c.tg) (tt : ∀ x, SPT (BlkX X scope x) I W0 ifs c.tt) (hk : ∀ x, SE (BlkX X scope x) I W0 kx fk) (hv : ∀ x, SE (BlkX X scope x) I W0 vx fv) (hs : ∀ x, foldedSetIterable it X.env x = pure x := by intro _; rfl) :
    SS X I W (.Assign [.Name y py] (.DictComp kx vx [⟨tgt, it, ifs, 0⟩] scope pos) spos) (sA i (eDT c [] fk fv (own.map (·.2)))) :=
  let ⟨t, p, m⟩ := cmp_set (ck := .dct kx vx) (gs := []) (fun _ => rfl) (fun Z j env => trn_dct rfl rfl) new_dT dT0 hsw hy hyl hc hN ok src tg tt (in_dT hu hk hv) hs; ⟨_, p, sem_asg (sem_dT m)⟩
theorem ss_dK1 (hc : X.calm = true) (hN : X.N.Nodup) (hy : X.N[i]? = some y) (hyl : X.env.scope.names.lookup y = some .local) (hsw : swapsWith (.DictComp kx vx [⟨tgt, it, ifs, 0⟩] scope pos) (some (.Name y py)) spos.line X.env = pure true)
    (src : SI X I W tgt it c.src) (ok : BlkOk X.N X.env.scope scope own) (tg : ∀ x, SG (BlkX X scope x) I (own.map (·.2)) tgt c.tg) (tt : ∀ x, SPT (BlkX X scope x) I W0 ifs c.tt) (hk : ∀ x, SE (BlkX X scope x) I W0 kx fk) (hv : ∀ x, SE (BlkX X scope x) I W0 vx fv) (hs : ∀ x, foldedSetIterable it X.env x = pure x := by intro _; rfl) :
    SS X I W (.Assign [.Name y py] (.DictComp kx vx [⟨tgt, it, ifs, 0⟩] scope pos) spos) (sA i (eDK c [] fk fv (own.map (·.2)))) :=
  let ⟨t, p, m⟩ := cmp_set (ck := .dct kx vx) (gs := []) (fun _ => rfl) (fun Z j env => trn_dct rfl rfl) new_dK dK0 hsw hy hyl hc hN ok src tg tt (in_dK hk hv) hs; ⟨_, p, sem_asg (sem_dK m)⟩
end
/-! ### x[i] = e, x a list or a dict -/
def putO (o : OB) (di d : D) : Option OB := match o with
  | .lst xs => (match di with
    | .int i => (ixN xs.length i).map fun j => .lst (xs.set j d)
    | _ => none)
  | .dT kvs => (tkeyD di).bind fun k => if kvs.length < sizeLine then some (.dT (putG kvs k d)) else none
  | .dK kvs => (keyD di).bind fun k => if kvs.length < sizeLine then some (.dK (putG kvs k d)) else none
  | .ob _ _ => none
def sIA (k : Nat) (fi fv : ESem) : SSem := fun ρ => (eF fv ρ).sbind fun d ρ1 => match ρ1[k]? with
  | some (some (.ow _ _)) => (eF fi ρ1).sbind fun di ρ2 => (match ρ2[k]? with
    | some (some (.ow b o)) => (match putO o di d with
      | some o' => .nx (ρ2.set k (some (.ow b o')))
      | none => .no)
    | _ => .no)
  | _ => .no
def rSetD : V → V → V → Hp → (Hp → Prop) → Prop := fun o i v H Q => ∃ a H', o = .ref a ∧ DPut H a i v H' ∧ Q H'
def rSetA : V → V → V → Hp → (Hp → Prop) → Prop := fun o i v H Q => rSetL o i v H Q ∨ rSetD o i v H Q
theorem set_any {X : Cx} (hu : X.A.units + 1 < cLine) : PSet X rSetA := by
  intro pins s σ H o i v ov iv u Q I ro ri rv h
  rcases h with h | ⟨a, H', rfl, g, q⟩
  · exact set_list pins s σ H o i v ov iv u Q I ro ri rv h
  · cases ro
    exact d_setItem hu I g ri rv fun s' I' => ⟨H', I', q⟩
theorem putO_ok {B : Bas} {F H : Hp} {a : Addr} {o o' : OB} {di d : D} {w v : V} (m : ∀ a o, F a = some o → H a = some o) (ho : RepO B F H a o) (hw : Rep B F w di) (hv : Rep B F v d) (e : putO o di d = some o') :
    ∃ u, RepO B F (upd H a u) a o' ∧ ∀ Q : Hp → Prop, Q (upd H a u) → rSetA (.ref a) w v H Q := by
  cases o with
  | lst xs =>
    obtain ⟨us, h1, l⟩ := ho
    cases di <;> simp only [putO] at e <;> try cases e
    rename_i i
    cases q : ixN xs.length i with
    | none => rw [q] at e; cases e
    | some j =>
      rw [q] at e; cases e; cases hw
      exact ⟨_, ⟨_, upd_same, RepL.set hv j l⟩, fun Q h => .inl ⟨a, us, i, j, rfl, rfl, h1, by rw [l.length]; exact q, h⟩⟩
  | dT kvs =>
    obtain ⟨us, h1, l⟩ := ho
    cases q : tkeyD di with
    | none => simp only [putO, q, Option.bind] at e; cases e
    | some k =>
      simp only [putO, q, Option.bind] at e
      split at e
      · rename_i hz
        cases e
        cases di <;> simp only [tkeyD] at q <;> try cases q
        cases hw with
        | tup hb lb =>
          exact ⟨_, ⟨_, upd_same, l.put (k := k) hv⟩, fun Q h => .inr ⟨a, _, rfl, .t h1 (by rw [m _ _ hb, rep_keys lb q]) (by rw [l.length]; exact hz), h⟩⟩
      · cases e
  | dK kvs =>
    obtain ⟨us, h1, l⟩ := ho
    cases q : keyD di with
    | none => simp only [putO, q, Option.bind] at e; cases e
    | some k =>
      simp only [putO, q, Option.bind] at e
      split at e
      · rename_i hz
        cases e
        refine ⟨_, ⟨_, upd_same, l.put (k := k) hv⟩, fun Q h => .inr ⟨a, _, rfl, ?_, h⟩⟩
        rw [rep_key hw q]
        exact .k h1 (by rw [l.length]; exact hz)
      · cases e
  | ob c fs => simp only [putO] at e; cases e
section
variable {X : Cx} {I : Addr → Value → Option Addr → Prop} {W : WX} {e i : Expr} {fi fv : ESem} {k : Nat} {x : Str} {p pos pos' : Pos}
theorem ss_itemA (hu : X.A.units + 1 < cLine) (hv : PE X (.Name x p) (tVar k)) (h : SE X I W e fv) (hi : SE X I W i fi)
    (ha : ∀ v, assign (.Subscript (.Name x p) i pos') X.env v = (do
      let ov ← holding [v] (eval (.Name x p) X.env)
      let iv ← holding [v, ov] (eval i X.env)
      standAt pos'
      holding [v, ov, iv] (setItem ov iv v)
      release [v, ov, iv] []) := by intro _; rfl)
    (hs : swapsWithSole [.Subscript (.Name x p) i pos'] e pos.line X.env = pure false := by rfl) (hw : swappedStores [.Subscript (.Name x p) i pos'] e X.env = pure none := by rfl)
    (h1 : (assignEach [.Subscript (.Name x p) i pos'] X.env).map (·.2) = [assign (.Subscript (.Name x p) i pos') X.env] := by rfl) : SS X I W (.Assign [.Subscript (.Name x p) i pos'] e pos) (sIA k fi fv) := by
  obtain ⟨t, q, m⟩ := h
  obtain ⟨u, r, n⟩ := hi
  refine ⟨_, ps_asg q (pg_sub hv r (set_any hu) ha) hs hw h1, fun F ρ σ H R E hq => ?_⟩
  rw [sIA, Out.OK_sbind] at hq
  refine m.frz F ρ σ H R _ (hq.imp (fun d ρ1 hq F1 H1 v S1 L1 R1 r1 => ?_) fun _ _ _ z => PostX.ofZ z)
  cases e1 : ρ1[k]? with
  | none => rw [e1] at hq; exact hq.elim
  | some o =>
    cases o with
    | none => rw [e1] at hq; exact hq.elim
    | some sv =>
      obtain ⟨v', hv', _⟩ := R1.sl k sv e1
      cases sv with
      | ow b o =>
        rw [e1] at hq
        dsimp only at hq
        rw [Out.OK_sbind] at hq
        refine ⟨v', hv', ?_⟩
        refine n.frz F1 ρ1 σ H1 R1 _ (hq.imp (fun di ρ2 hq F2 H2 w S2 V2 R2 r2 => ?_) fun _ _ _ z => (PostX.ofZ z).back S1)
        cases e3 : ρ2[k]? with
        | none => rw [e3] at hq; exact hq.elim
        | some o =>
          cases o with
          | none => rw [e3] at hq; exact hq.elim
          | some sv =>
            cases sv with
            | ow b o =>
              rw [e3] at hq
              dsimp only at hq
              cases e4 : putO o di d with
              | none => rw [e4] at hq; exact hq.elim
              | some o' =>
                rw [e4] at hq
                obtain ⟨v1, g1, a, e5, hf, ho⟩ := R2.sl k _ e3
                rw [hv'] at g1; cases g1
                subst e5
                obtain ⟨u', hu', hset⟩ := putO_ok R2.ext ho r2 (r1.mono S2.mono) e4
                obtain ⟨R3, S3⟩ := R2.mutate (o' := o') (u := u') e3 hv' hu'
                exact hset _ (hq F2 σ _ ((S1.trans S2).trans S3) R3)
            | _ => rw [e3] at hq; exact hq.elim
      | _ => rw [e1] at hq; exact hq.elim
end
end DL
end
section
/-! G11: sorted() of a dict of pairs, of lists of pairs; sets of pairs, sorted at once. -/
namespace DL
open PySem PySem.Spec L2 PyProof.Rows PySem.Builtin PySem.W

section
variable {prog : Program} {w : World} {A : Around} {E : Value → Shared → Prop} {s : Shared} {T : String} {r d : Addr} {n : Nat} {P : Nat → Value → Prop} {OK : Heap → Prop}
theorem kdl_raw {es : Array DictEntry} {ep : Nat} (lo : (d == sysModules) = false) : KdlSrc prog w "dict" d d es.size (fun i v => ∃ hi : i < es.size, v = es[i].key) (fun h => h.DictRaw d es ep) where
  type := fun _ hm => hm.typeIs
  there := fun _ hm => let ⟨o, ho, _⟩ := hm; ⟨Heap.lt_size ho, Heap.lt_size ho⟩
  keep := fun _ _ hm hk => hm.at fun o e => hk d (.inl rfl) o e
  notList := by decide
  notTuple := by decide
  hint := fun _ _ _ _ hm hq => kdl_hint_dict hm.typeIs hq
  iter := fun _ s hh hm => ⟨_, _, (fun _ _ hq => wpAny_pyIter_dict_raw lo hm hq), Walks.rawKeys hh _ d (let ⟨o, ho, _⟩ := hm; Nat.ne_of_lt (Heap.lt_size ho)) es ep, ⟨⟨_, Heap.get?_push_size _ rfl, rfl, rfl⟩, hm.at fun o e => Heap.get?_push_of_some _ e⟩⟩
theorem collect_src {R : List Value → Shared → Prop} (K : KdlSrc prog w T r d n P OK) (hh : A.handled = none) (hok : OK s.heap) (hn : n ≤ sizeLine)
    (h : ∀ (h' : Heap) (tk : Nat) (acc : Array Value), (∀ b o, s.heap.get? b = some o → h'.get? b = some o) → s.heap.objs.size < h'.objs.size → ItemsOf P acc n → R acc.toList { s with heap := h', toks := tk }) :
    wpAny (model prog w) A (collect (.ref r)) R E s := by
  obtain ⟨hr, hd⟩ := K.there _ hok
  unfold collect
  refine wpAny_bind (wpAny_runValue (codeAny_builtin entry_proto_collect' ?_))
  rw [Around.under_plainId PySem.F.plain_proto_collect _]
  show wpAny _ A.in1 (PySem.newList [] >>= fun l => again (.builtin "list.__iadd__" ⟨[l, .ref r], []⟩)) _ _ s
  refine wpAny_bind (wpAny_newObj_type ?_)
  refine wpAny_pure ⟨plainId_quiet PySem.F.plain_list_iadd _, codeAny_builtin entry_list_iadd' ?_⟩
  rw [Around.under_plainId PySem.F.plain_list_iadd _]
  have hS₁ : (s.heap.push { cls := .type "list", data := .seq ([] : List Value).toArray }).get? s.heap.objs.size = some { cls := .type "list", data := .seq #[] } := Heap.get?_push_size _ rfl
  show wpAny _ A.in1 (Builtin.List.listExtendWith (.ref s.heap.objs.size) (.ref r) (.ref s.heap.objs.size)) _ _ _
  have key := kdl_extend (prog := prog) (w := w) (A := A) (s := { s with heap := s.heap.push { cls := .type "list", data := .seq ([] : List Value).toArray } })
    (R := fun (q : Result) (s' : Shared) => ∃ (h' : Heap) (tk : Nat) (acc' : Array Value) (c' : Nat), q = .ok (.ret (.ref s.heap.objs.size)) ∧ s' = { s with heap := h', toks := tk } ∧
      (∀ b o, s.heap.get? b = some o → h'.get? b = some o) ∧ h'.get? s.heap.objs.size = some { cls := .type "list", dict := none, data := .seq acc' c', slots := #[] } ∧ ItemsOf P acc' n)
    K hh (K.keep _ _ hok fun b _ o e => Heap.get?_push_of_some _ e) s.heap.objs.size (Nat.ne_of_gt hr) (Nat.ne_of_gt hd) (.ref s.heap.objs.size) 0 hS₁
    (fun h' tk acc' c' hk hS' hacc => ⟨h', tk, acc', c', rfl, rfl, fun b o e => hk b o (Nat.ne_of_lt (Heap.lt_size e)) (Heap.get?_push_of_some _ e), hS', hacc⟩) hn
  refine wpAny_mono key (fun fin s' x => ?_) fun e s' x => ?_
  · cases fin with
    | done f =>
      obtain ⟨h', tk, acc', c', e, rfl, hk, hS', hacc⟩ := x
      cases e
      show wpAny _ A (load s.heap.objs.size >>= _) _ _ _
      refine wpAny_bind (wpAny_load hS' ?_)
      exact wpAny_pure (h h' tk acc' hk (Heap.lt_size hS') hacc)
    | again c₁ =>
      refine ⟨x.1, codeAny_mono x.2 fun q s₂ y => ?_⟩
      obtain ⟨h', tk, acc', c', rfl, rfl, hk, hS', hacc⟩ := y
      show wpAny _ A (load s.heap.objs.size >>= _) _ _ _
      refine wpAny_bind (wpAny_load hS' ?_)
      exact wpAny_pure (h h' tk acc' hk (Heap.lt_size hS') hacc)
  · obtain ⟨_, _, _, _, e', _⟩ := x
    cases e'
/-- sorted(x), x a thing that is gathered -/
theorem sorted_src {ltv : Value → Value → Bool} {vs : List Value} {Q : Value → Shared → Prop} (O : SrtO.Swo ltv) (K : KdlSrc prog w T r d n P OK) (hh : A.handled = none) (hok : OK s.heap) (hn : n ≤ sizeLine) (hl : vs.length = n)
    (hv : ∀ acc : Array Value, ItemsOf P acc n → acc.toList = vs)
    (hS : 2 ≤ vs.length → ∀ (s1 : Shared) (a : Addr), s1.heap.get? a = some (seqObj "list" vs.toArray 0) → (∀ b o, s.heap.get? b = some o → b ≠ a ∧ s1.heap.get? b = some o) → SrtO.SortableO prog w A.in1.in1 s1 a vs ltv)
    (h : ∀ (h' : Heap) (tk : Nat) (p : Addr) (out : List Value), SrtO.Srtd ltv out → SrtO.Stb ltv out vs → (∀ b o, s.heap.get? b = some o → h'.get? b = some o) → s.heap.objs.size ≤ p → (∃ e, h'.get? p = some (seqObj "list" out.toArray e)) → Q (.ref p) { s with heap := h', toks := tk }) :
    wpAny (model prog w) A (call (.builtin "sorted") [.ref r]) Q E s := by
  refine Calls.call_function_entry kind_sorted plain_sorted entry_sorted (args_sorted1 _) ?_
  unfold Builtin.«sorted»
  refine wpAny_bind (m := checkCount "sorted" 1 1 _) (wpAny_pure ?_)
  refine wpAny_bind (collect_src (A := A.in1) K hh hok hn fun h' tk acc hk hlt hacc => ?_)
  rw [hv acc hacc]
  have hz : vs.length ≤ sizeLine := by rw [hl]; exact hn
  refine wpAny_bind (wpAny_newList ?_ hz)
  have hoL : (h'.push (seqObj "list" vs.toArray 0)).get? h'.objs.size = some (seqObj "list" vs.toArray 0) := Heap.get?_push_size _ rfl
  have keep : ∀ b o, s.heap.get? b = some o → b ≠ h'.objs.size ∧ (h'.push (seqObj "list" vs.toArray 0)).get? b = some o := fun b o q =>
    ⟨Nat.ne_of_lt (Nat.lt_trans (Heap.lt_size q) hlt), Heap.get?_push_of_some _ (hk b o q)⟩
  refine wpAny_bind (wpAny_holding (wpAny_call_entry slot_list_sort ⟨_, hoL, rfl⟩ entry_list_sort (SrtO.list_sort_ord (s := { s with heap := h'.push (seqObj "list" vs.toArray 0), toks := tk }) O hoL hz (fun h2 => hS h2 _ _ hoL keep) fun out hs hb => ⟨_, rfl, ?_⟩) (args_list_sort _)))
  obtain ⟨c, hc⟩ := sortedHeap_at (vs := vs) (out := out.toArray) hoL
  refine wpAny_pure ⟨_, rfl, h _ tk _ out hs hb (fun b u e => ?_) (Nat.le_of_lt hlt) ⟨c, hc⟩⟩
  obtain ⟨q1, q2⟩ := keep b u e
  show (sortedHeap (h'.push (seqObj "list" vs.toArray 0)) h'.objs.size vs out.toArray).get? b = some u
  rw [sortedHeap_old q1 (Heap.lt_size q2)]
  exact q2
end
/-! ### pairs -/
def kPair (p : Int × Int) : List L2.Key := [.inl p.1, .inl p.2]
def vPair (p : Int × Int) : HO := .tup [.int p.1, .int p.2]
/-- the pair at u -/
def pairAt (H : Hp) (u : Value) : Int × Int := match u with
  | .ref b => (match H b with
    | some (.tup [.int i, .int j]) => (i, j)
    | _ => (0, 0))
  | _ => (0, 0)
theorem pairAt_ref {H : Hp} {b : Addr} {p : Int × Int} (e : H b = some (vPair p)) : pairAt H (.ref b) = p := by
  simp only [pairAt, e, vPair]
def adrOf (u : Value) : Addr := match u with
  | .ref b => b
  | _ => 0
abbrev PL := List (Addr × (Int × Int))
abbrev plRef (L : PL) : List Value := L.map fun q => Value.ref q.1
theorem pl_back {H : Hp} {L : PL} (h : ∀ q ∈ L, H q.1 = some (vPair q.2)) {out : List Value} (hp : out.Perm (plRef L)) (hs : SrtO.Srtd (fun v u => SrtO.lexB (pairAt H v) (pairAt H u)) out) :
    ∃ L' : PL, out = plRef L' ∧ (L'.map (·.2)).Perm (L.map (·.2)) ∧ (L'.map (·.2)).Pairwise (fun x y => SrtO.lexB y x = false) ∧ ∀ q ∈ L', H q.1 = some (vPair q.2) := by
  have mem : ∀ u ∈ out, ∃ q ∈ L, u = Value.ref q.1 := fun u hu => by
    obtain ⟨q, hq, e⟩ := List.mem_map.mp (hp.mem_iff.mp hu)
    exact ⟨q, hq, e.symm⟩
  refine ⟨out.map fun u => (adrOf u, pairAt H u), ?_, ?_, ?_, fun q hq => ?_⟩
  · rw [plRef, List.map_map]
    refine (List.map_id' out).symm.trans (List.map_congr_left fun u hu => ?_)
    obtain ⟨q, _, rfl⟩ := mem u hu
    rfl
  · rw [List.map_map]
    refine (hp.map _).trans (List.Perm.of_eq ?_)
    rw [plRef, List.map_map]
    exact List.map_congr_left fun q hq => pairAt_ref (h q hq)
  · rw [List.map_map, List.pairwise_map]
    exact hs
  · obtain ⟨u, hu, rfl⟩ := List.mem_map.mp hq
    obtain ⟨z, hz, rfl⟩ := mem u hu
    show H z.1 = some (vPair (pairAt H (.ref z.1)))
    rw [pairAt_ref (h z hz)]
    exact h z hz
theorem pl_vals : ∀ L : PL, Vals (L.map fun q => V.ref q.1) (plRef L)
  | [] => .nil
  | _ :: L => .cons rfl (pl_vals L)
theorem isPair_of {X : Cx} {pins : List (Addr × Obj)} {σ : L2.St} {H : Hp} {s : Shared} (I : Inv X pins σ H s) {b : Addr} {p : Int × Int} (e : H b = some (vPair p)) : Srt.IsPair s.heap (.ref b) p.1 p.2 := by
  obtain ⟨_, its2, r2, o, ho, hc, n, hd⟩ := I.hok _ _ e
  obtain ⟨u1, u2, rfl, ri, rj⟩ := vals2 r2
  obtain ⟨t1, rfl⟩ := ri
  obtain ⟨t2, rfl⟩ := rj
  exact ⟨b, o, t1, t2, n, rfl, ho, hc, hd⟩
theorem kt_pairs {H : Hp} : ∀ {kvs : List (List L2.Key × V)} {xs : List (List L2.Key × Addr × Value)} {ps : List (Int × Int)}, KT H kvs xs → kvs.map (·.1) = ps.map kPair → ∃ L : PL, L.map (·.1) = xs.map (·.2.1) ∧ L.map (·.2) = ps ∧ ∀ q ∈ L, H q.1 = some (vPair q.2)
  | _, _, [], .nil, _ => ⟨[], rfl, rfl, fun q hq => (by cases hq)⟩
  | _, _, _ :: _, .nil, e => by simp at e
  | _, _, [], .cons _ _, e => by simp at e
  | _, _, p :: ps, .cons (a := x) (b := y) h t, e => by
    simp only [List.map_cons, List.cons.injEq] at e
    obtain ⟨L, h1, h2, h3⟩ := kt_pairs t e.2
    refine ⟨(y.2.1, p) :: L, by simp [h1], by simp [h2], fun q hq => ?_⟩
    rcases List.mem_cons.mp hq with rfl | hq
    · have := h.2.1
      rw [e.1] at this
      exact this
    · exact h3 q hq
/-- sorted(d), d a dict whose keys are pairs of ints -/
def rSortedDT : List V → Hp → VK → Prop := fun vs H Q => ∃ (a : Addr) (kvs : List (List L2.Key × V)) (ps : List (Int × Int)), vs = [V.ref a] ∧ H a = some (.dT kvs) ∧ kvs.map (·.1) = ps.map kPair ∧
  ∀ (L : PL) (p : Addr), (L.map (·.2)).Perm ps → (L.map (·.2)).Pairwise (fun x y => SrtO.lexB y x = false) → (∀ q ∈ L, H q.1 = some (vPair q.2)) → H p = none → Q (.ref p) (upd H p (.lst (L.map fun q => V.ref q.1)))
theorem cr_sortedDT {X : Cx} (hc : X.calm = true) : CallR X (.builtin "sorted") rSortedDT := by
  intro pins s σ H vs us Q I r h
  obtain ⟨a, kvs, ps, rfl, ha, hk, q⟩ := h
  rw [Vals.ref1 r]
  obtain ⟨hz, hd, xs, rel, dd⟩ := dt_of I.hok ha
  obtain ⟨es, ep, raw, hsz, hent⟩ := dd.raw
  obtain ⟨L, l1, l2, l3⟩ := kt_pairs rel hk
  have hxl : xs.length = kvs.length := (Paired.length rel).symm
  have hLl : L.length = es.size := by
    have := congrArg List.length l1
    rw [List.length_map, List.length_map] at this
    omega
  refine sorted_src (SrtO.swo_lex (pairAt H)) (kdl_raw hd) (I.ok.hd hc) raw (vs := plRef L) (by omega) (by rw [List.length_map]; exact hLl) (fun acc hacc => ?_) (fun h2 s1 a' ho kp => ?_) fun h' tk p out hs hb kp hp hn => ?_
  · refine items_out (out := plRef L) (by rw [List.length_map, hLl]; exact hacc) fun j v hj => ?_
    obtain ⟨hi, rfl⟩ := hj
    obtain ⟨y, hy, hkey, _⟩ := hent j hi
    rw [hkey]
    have e := congrArg (fun l : List Addr => l[j]?) l1
    simp only [List.getElem?_map, hy, Option.map_some] at e
    cases q2 : L[j]? with
    | none => rw [q2] at e; cases e
    | some z =>
      rw [q2] at e
      simp only [Option.map_some, Option.some.injEq] at e
      simp [q2, e]
  · refine SrtO.pairs_sortableO (by omega) (fun v hm => ?_) fun o e => ?_
    · obtain ⟨q, hq, rfl⟩ := List.mem_map.mp hm
      rw [pairAt_ref (l3 q hq)]
      exact (isPair_of I (l3 q hq)).keeps fun b o e _ => (kp b o e).2
    · have e' : some o = some (seqObj "list" (plRef L).toArray 0) := e.symm.trans ho
      cases e'
      intro c
      exact absurd (Value.type.inj c) (by decide)
  · obtain ⟨L', e1, e2, e3, e4⟩ := pl_back l3 hb.perm hs
    subst e1
    obtain ⟨n, hn⟩ := hn
    have hlen : (L'.map fun q => V.ref q.1).length ≤ sizeLine := by
      have := e2.length_eq
      simp only [List.length_map] at this ⊢
      omega
    exact ⟨.ref p, upd H p (.lst (L'.map fun q => V.ref q.1)), I.laid (t' := tk) kp hp ⟨hlen, _, n, pl_vals L', hn⟩, rfl, q L' p (e2.trans (List.Perm.of_eq l2)) e3 e4 (I.hok.fresh hp)⟩
end DL
end
section
/-! G12: sorted dicts, sets of pairs, as expressions. -/
namespace DL
open PySem PySem.Spec L2 PyProof.Rows

/-! ### tuples taken in -/
open Classical in
noncomputable def absF (F H : Hp) (T : Addr → Prop) : Hp := fun a => if T a then H a else F a
theorem Rel.absorb {B : Bas} {F H : Hp} {ρ : Env} {σ : L2.St} {T : Addr → Prop} (R : Rel B F ρ σ H) (hT : ∀ a, T a → ∃ xs, H a = some (.tup xs)) : Rel B (absF F H T) ρ σ H ∧ Stp F ρ σ H (absF F H T) ρ σ H := by
  have m : ∀ a o, F a = some o → absF F H T a = some o := fun a o h => by
    unfold absF
    split
    · exact R.ext a o h
    · exact h
  refine ⟨⟨fun a o h => ?_, R.len, fun i sv h => ?_, R.sep⟩, ⟨m, fun a h => ?_, fun _ _ h _ => h, fun _ h => h, fun _ _ h => .inr h, fun _ _ o _ h1 h2 => .inr ⟨o, h1, h2⟩, fun _ o _ h1 h2 => ⟨o, h1, h2⟩⟩⟩
  · unfold absF at h
    split at h
    · exact h
    · exact R.ext a o h
  · obtain ⟨v, h1, h2⟩ := R.sl i sv h
    refine ⟨v, h1, h2.mono m fun a ho e f => ?_⟩
    unfold absF
    split
    · rename_i ha
      have nt : ¬ NewT H a := by
        cases sv with
        | ow b o => obtain ⟨a', e', _, q⟩ := h2; rw [e] at e'; cases e'; exact q.noT
        | lk o => obtain ⟨a', e', _, q⟩ := h2; rw [e] at e'; cases e'; exact q.noT
        | _ => cases ho
      exact absurd (.inr (hT a ha)) nt
    · exact f
  · unfold absF at h
    split at h
    · rename_i ha
      exact .inr (.inl (.inr (hT a ha)))
    · exact .inl h
/-! ### pairs sorted -/
def sortP (ps : List (Int × Int)) : List (Int × Int) := ps.mergeSort fun a b => !SrtO.lexB b a
theorem sortP_perm (ps : List (Int × Int)) : (sortP ps).Perm ps := List.mergeSort_perm _ _
theorem sortP_sorted (ps : List (Int × Int)) : (sortP ps).Pairwise fun x y => SrtO.lexB y x = false := by
  have h := List.pairwise_mergeSort (le := fun a b : Int × Int => !SrtO.lexB b a) (by
    intro a b c h1 h2
    simp only [Bool.not_eq_true'] at *
    have h1 := SrtO.lexB_no.mp h1
    have h2 := SrtO.lexB_no.mp h2
    exact SrtO.lexB_no.mpr (by omega)) (by
    intro a b
    by_cases q : SrtO.lexB b a = true
    · have h1 := SrtO.lexB_iff.mp q
      have : SrtO.lexB a b = false := SrtO.lexB_no.mpr (by omega)
      simp [this]
    · simp [q]) ps
  exact h.imp (by intro a b h; simpa using h)
theorem sortedP_one {ns ms : List (Int × Int)} (hp : ns.Perm ms) (h1 : ns.Pairwise fun x y => SrtO.lexB y x = false) (h2 : ms.Pairwise fun x y => SrtO.lexB y x = false) : ns = ms := hp.eq_of_pairwise (by
  intro a b _ _ h k
  have h := SrtO.lexB_no.mp h
  have k := SrtO.lexB_no.mp k
  refine Prod.ext ?_ ?_ <;> omega) h1 h2
def pairD (p : Int × Int) : D := .tup [.int p.1, .int p.2]
def pairD? : D → Option (Int × Int)
  | .tup [.int i, .int j] => some (i, j)
  | _ => none
theorem pairD?_eq {d : D} {p : Int × Int} (e : pairD? d = some p) : d = pairD p := by
  unfold pairD? at e
  split at e
  · cases e; rfl
  · cases e
def pairs? : List D → Option (List (Int × Int))
  | [] => some []
  | d :: ds => match pairD? d, pairs? ds with
    | some p, some ps => some (p :: ps)
    | _, _ => none
theorem pairs?_eq : ∀ {ds : List D} {ps : List (Int × Int)}, pairs? ds = some ps → ds = ps.map pairD
  | [], _, e => by cases e; rfl
  | d :: ds, ps, e => by
    simp only [pairs?] at e
    cases e1 : pairD? d with
    | none => rw [e1] at e; cases e
    | some p =>
      cases e2 : pairs? ds with
      | none => rw [e1, e2] at e; cases e
      | some qs => rw [e1, e2] at e; cases e; rw [pairD?_eq e1, pairs?_eq e2]; rfl
theorem pairs?_map : ∀ ps : List (Int × Int), pairs? (ps.map pairD) = some ps
  | [] => rfl
  | p :: ps => by simp only [List.map_cons, pairs?, pairs?_map ps, pairD, pairD?]
def pairK? : List L2.Key → Option (Int × Int)
  | [.inl i, .inl j] => some (i, j)
  | _ => none
theorem pairK?_eq {d : List L2.Key} {p : Int × Int} (e : pairK? d = some p) : d = kPair p := by
  unfold pairK? at e
  split at e
  · cases e; rfl
  · cases e
def pairsK? : List (List L2.Key × D) → Option (List (Int × Int))
  | [] => some []
  | d :: ds => match pairK? d.1, pairsK? ds with
    | some p, some ps => some (p :: ps)
    | _, _ => none
theorem pairsK?_eq : ∀ {ds : List (List L2.Key × D)} {ps : List (Int × Int)}, pairsK? ds = some ps → ds.map (·.1) = ps.map kPair
  | [], _, e => by cases e; rfl
  | d :: ds, ps, e => by
    simp only [pairsK?] at e
    cases e1 : pairK? d.1 with
    | none => rw [e1] at e; cases e
    | some p =>
      cases e2 : pairsK? ds with
      | none => rw [e1, e2] at e; cases e
      | some qs => rw [e1, e2] at e; cases e; rw [List.map_cons, pairK?_eq e1, pairsK?_eq e2]; rfl
section
variable {B : Bas} {F H : Hp}
theorem RepT.keys : ∀ {vs : List (List L2.Key × V)} {ds : List (List L2.Key × D)}, RepT B F vs ds → vs.map (·.1) = ds.map (·.1)
  | _, _, .nil => rfl
  | _, _, .cons _ l => by rw [List.map_cons, List.map_cons, RepT.keys l]
theorem rep_pair {b : Addr} {p : Int × Int} (h : F b = some (vPair p)) : Rep B F (.ref b) (pairD p) := .tup h (.cons (.int _) (.cons (.int _) .nil))
theorem rep_pl : ∀ {L : PL}, (∀ q ∈ L, F q.1 = some (vPair q.2)) → RepL B F (L.map fun q => V.ref q.1) ((L.map (·.2)).map pairD)
  | [], _ => .nil
  | q :: L, h => .cons (rep_pair (h q List.mem_cons_self)) (rep_pl fun z hz => h z (List.mem_cons_of_mem _ hz))
theorem rep_pair_inv {v : V} {p : Int × Int} (h : Rep B F v (pairD p)) : ∃ b, v = .ref b ∧ F b = some (vPair p) := by
  cases h with
  | tup h l =>
    cases l with
    | cons h1 l =>
      cases l with
      | cons h2 l =>
        cases l
        cases h1
        cases h2
        exact ⟨_, rfl, h⟩
theorem rep_pl_inv : ∀ {ps : List (Int × Int)} {vs : List V}, RepL B F vs (ps.map pairD) → ∃ L : PL, vs = (L.map fun q => V.ref q.1) ∧ L.map (·.2) = ps ∧ ∀ q ∈ L, F q.1 = some (vPair q.2)
  | [], _, .nil => ⟨[], rfl, rfl, fun q hq => (by cases hq)⟩
  | p :: ps, _, .cons h l => by
    obtain ⟨L, e1, e2, e3⟩ := rep_pl_inv l
    obtain ⟨b, rfl, hb⟩ := rep_pair_inv h
    refine ⟨(b, p) :: L, by rw [e1]; rfl, by rw [List.map_cons, e2], fun q hq => ?_⟩
    rcases List.mem_cons.mp hq with rfl | hq
    · exact hb
    · exact e3 q hq
end
/-- sorted(d) -/
def srtDT : D → Option RV
  | .dT kvs => (pairsK? kvs).map fun ps => .fr (.lst ((sortP ps).map pairD))
  | _ => none
theorem call_srtDT {B : Bas} : CallS1 B rSortedDT srtDT := by
  intro F ρ σ H v x rv R hv e Q q
  cases x <;> simp only [srtDT] at e <;> try cases e
  rename_i kvs
  cases z : pairsK? kvs with
  | none => rw [z] at e; cases e
  | some ps =>
    rw [z] at e; cases e
    obtain ⟨a, vs, rfl, h1, l⟩ := hv.dT R.ext
    refine ⟨a, vs, ps, rfl, h1, by rw [l.keys, pairsK?_eq z], fun L p hp hs hL hn => ?_⟩
    have e' : L.map (·.2) = sortP ps := sortedP_one (hp.trans (sortP_perm ps).symm) hs (sortP_sorted ps)
    obtain ⟨R1, S1⟩ := R.absorb (T := fun a => ∃ q ∈ L, a = q.1) fun a ⟨q, hq, e⟩ => ⟨[.int q.2.1, .int q.2.2], by rw [e]; exact hL q hq⟩
    obtain ⟨S', R', r'⟩ := newList R1 S1 hn (rep_pl (L := L) fun q hq => by
      unfold absF
      rw [if_pos ⟨q, hq, rfl⟩]
      exact hL q hq)
    rw [e'] at r'
    exact q _ _ _ S' R' r'
def srtA (x : D) : Option RV := match srtD x with
  | some y => some y
  | none => srtDT x
section
variable {X : Cx} {I : Addr → Value → Option Addr → Prop} {W : WX} {a : Expr} {f : ESem} {p pos : Pos}
theorem k_sortedA (hc : X.calm = true) (hm : X.mg "sorted" = none) (h : SE X I W a f) (hg : Gl X "sorted" := by rfl) (he : starEach [a] X.env = (false, eval a X.env) :: starEach [] X.env := by rfl) (hpl : (backTo pos (starEach [] X.env)).any (·.1) = false := by rfl) : SE X I W (.Call (.Name "sorted" p) [a] [] pos) (eU srtA f) :=
  se_callB1 (r := fun xs H Q => rSortedA X.K xs H Q ∨ rSortedDT xs H Q) (fun pins s σ H vs us Q I r h => h.elim (cr_sortedA pins s σ H vs us Q I r) (cr_sortedDT hc pins s σ H vs us Q I r)) (CallS1.or call_srtD call_srtDT) hg hm bt_sorted h (by decide) (by decide) he hpl
end
/-! ### sets of pairs -/
def tI (p : Int × Int) : List Int := [p.1, p.2]
abbrev plT (L : PL) : List (Addr × List Int) := L.map fun q => (q.1, tI q.2)
def SetPR (P : Program) (w : World) (Z : Addr) (F : Hp) (u : HO) (acc : List (Int × Int)) : Prop := ∃ L : PL, u = SetTO P w Z (plT L) ∧ (∀ q ∈ L, F q.1 = some (vPair q.2)) ∧ (L.map (·.2)).Perm acc
theorem SetPR.mono {P : Program} {w : World} {Z : Addr} {F F' : Hp} {u : HO} {acc : List (Int × Int)} (m : ∀ a o, F a = some o → F' a = some o) (h : SetPR P w Z F u acc) : SetPR P w Z F' u acc := by
  obtain ⟨L, e, h, p⟩ := h
  exact ⟨L, e, fun q hq => m _ _ (h q hq), p⟩
def setPA (P : Program) (w : World) : RAcc (List (Int × Int)) := ⟨fun _ Z F u acc => SetPR P w Z F u acc, fun m h => h.mono m, fun ⟨L, e, _⟩ xs z => by rw [e] at z; cases z⟩
def addP (acc : List (Int × Int)) (p : Int × Int) : List (Int × Int) := if p ∈ acc then acc else acc ++ [p]
def inB (p : Int × Int) : Prop := 0 ≤ p.1 ∧ p.1 < 64 ∧ 0 ≤ p.2 ∧ p.2 < 64
instance (p : Int × Int) : Decidable (inB p) := by unfold inB; infer_instance
def emSP (el : ESem) : List (Int × Int) → Env → Out (List (Int × Int)) := fun acc ρ => (eF el ρ).nox.bind fun d ρ1 => match pairD? d with
  | some p => if acc.length + 1 < 64 then .ok (addP acc p) ρ1 else .no
  | none => .no
def rAddT (P : Program) (w : World) (D : Addr) (y : V) (H : Hp) (Q : Hp → Prop) : Prop := ∃ (L : List (Addr × List Int)) (k : List Int) (b : Addr), y = .ref b ∧ H D = some (SetTO P w D L) ∧ (∀ p ∈ L, H p.1 = some (.tup (p.2.map V.int))) ∧ H b = some (.tup (k.map V.int)) ∧ L.length + 1 < 64 ∧
  ∀ L', (k ∈ L.map (·.2) → L' = L) → (k ∉ L.map (·.2) → L'.Perm ((b, k) :: L)) → Q (upd H D (SetTO P w D L'))
theorem add_tup {Y : Cx} {D : Addr} (hu : Y.A.units + 1 < cLine) : AddR Y D (rAddT Y.prog Y.w D) := by
  intro pins s σ H y v Q I r h
  obtain ⟨L, k, b, rfl, hD, hL, hb, hz, q⟩ := h
  obtain rfl : v = Value.ref b := r
  have R0 : SetT0 Y.prog Y.w s.heap D L := (I.hok D _ hD).1
  obtain ⟨es, ep, t, R⟩ := R0.full fun p hp => I.isT (tq (hL p hp))
  have hx : IsT Y.prog Y.w s.heap k b := I.isT (tq hb)
  obtain ⟨o, ho, hex, hd⟩ := R.ob
  refine wpAny_call_entry PySem.F.slot_set_add ⟨o, ho, hex.1⟩ PySem.F.entry_set_add ?_ (PySem.F.args_set_add_2 _ _)
  unfold Builtin.«set.add» Builtin.Frozenset.oneOther
  simp only [List.isEmpty_nil, bind_assoc]
  unfold Builtin.Frozenset.addrOf setAdd
  refine wpAny_bind (wpAny_pure ?_)
  try dsimp only
  refine wpAny_bind (wpAny_pure ?_)
  try dsimp only
  refine wpAny_bind ?_
  refine wpAny_holding ?_
  refine wpAny_bind (wpAny_pyHash_tuple (by exact hu) hx ?_)
  refine add_at (s := { s with toks := s.toks + (k.length + 1) }) R hx (by exact hu) hz fun b' h' L' es' ep' t' sb R' c1 c2 => ?_
  show wpAny _ _ (ret Value.none) _ _ _
  have he : ∃ u, h'.get? D = some u := let ⟨o, ho, _⟩ := R'.ob; ⟨o, ho⟩
  exact wpAny_pure ⟨_, rfl, _, I.write (e := D) (t' := s.toks + (k.length + 1)) (by rw [hD]; trivial) (.inl rfl) (fun b u hb hu => (sb.2 b hb).trans hu) he (setTO_new R'.t0), q L' c1 c2⟩
end DL
end
section
/-! G13: sorted({(a, b) for ..}), sorted(set(xs)) of pairs. -/
namespace DL
open PySem PySem.Spec L2 PyProof.Rows

def tI' (k : List Int) : Int × Int := (k.getD 0 0, k.getD 1 0)
theorem plT_of {L : List (Addr × List Int)} {M : PL} (h : ∀ q ∈ L, q ∈ plT M) : L = plT (L.map fun q => (q.1, tI' q.2)) := by
  rw [plT, List.map_map]
  refine (List.map_id' L).symm.trans (List.map_congr_left fun q hq => ?_)
  obtain ⟨z, hz, rfl⟩ := List.mem_map.mp (h q hq)
  rfl
theorem plT_back (M : PL) : (plT M).map (fun q => (q.1, tI' q.2)) = M := by
  rw [plT, List.map_map]
  exact (List.map_congr_left fun q _ => rfl).trans (List.map_id' M)
theorem plT_perm {L : List (Addr × List Int)} {M : PL} (h : L.Perm (plT M)) : ∃ M' : PL, L = plT M' ∧ M'.Perm M :=
  ⟨_, plT_of fun q hq => h.mem_iff.mp hq, (h.map _).trans (List.Perm.of_eq (plT_back M))⟩
theorem tI_inj {p q : Int × Int} (h : tI p = tI q) : p = q := by
  simp only [tI, List.cons.injEq] at h
  exact Prod.ext h.1 h.2.1
theorem mem_plT {M : PL} {p : Int × Int} : tI p ∈ (plT M).map (·.2) ↔ p ∈ M.map (·.2) := by
  simp only [plT, List.map_map, List.mem_map, Function.comp]
  constructor
  · rintro ⟨q, hq, e⟩; exact ⟨q, hq, tI_inj e⟩
  · rintro ⟨q, hq, e⟩; exact ⟨q, hq, by rw [e]⟩
section
variable {P : Program} {w : World} {B : Bas} {Z : Addr} {vs : List Nat} {te : TE} {el : ESem}
theorem semB_setP (he : SemG B W0 te el (PostE B)) : SemB B (setPA P w) Z vs (fun σ H N => te σ H fun y H1 => rAddT P w Z y H1 (N σ)) (emSP el) := by
  intro F ρ σ H acc N R A hq
  refine he.frz F ρ σ H R _ ((Out.nox_bind _ _ _ _ hq _).imp (fun d ρ1 h1 F1 H1 y S1 L1 R1 r1 => ?_) fun _ _ _ z => z)
  have A1 := A.step S1
  obtain ⟨u, hu, L, eu, hL, hp⟩ := A1.at_
  cases e : pairD? d with
  | none => rw [e] at h1; exact h1.elim
  | some p =>
    rw [e] at h1; dsimp only at h1
    by_cases hz : acc.length + 1 < 64
    · rw [if_pos hz] at h1
      rw [pairD?_eq e] at r1
      obtain ⟨b, rfl, hb⟩ := rep_pair_inv r1
      have hl : L.length = acc.length := by have := hp.length_eq; rwa [List.length_map] at this
      refine ⟨plT L, tI p, b, rfl, by rw [hu, eu], fun q hq => ?_, R1.ext _ _ hb, by rw [List.length_map, hl]; exact hz, fun L' c1 c2 => ?_⟩
      · obtain ⟨z, hz, rfl⟩ := List.mem_map.mp hq
        exact R1.ext _ _ (hL z hz)
      · have new : SetPR P w Z F1 (SetTO P w Z L') (addP acc p) := by
          by_cases hm : p ∈ acc
          · rw [c1 (mem_plT.mpr (hp.mem_iff.mpr hm)), addP, if_pos hm]
            exact ⟨L, rfl, hL, hp⟩
          · have pm := c2 fun z => hm (hp.mem_iff.mp (mem_plT.mp z))
            obtain ⟨M', e', pM⟩ := plT_perm (M := (b, p) :: L) pm
            refine ⟨M', by rw [e'], fun q hq => ?_, ?_⟩
            · rcases List.mem_cons.mp (pM.mem_iff.mp hq) with rfl | hq
              · exact hb
              · exact hL q hq
            · rw [addP, if_neg hm]
              refine (pM.map (·.2)).trans ?_
              rw [List.map_cons]
              exact (List.Perm.cons p hp).trans (List.perm_append_comm (l₁ := [p]))
        obtain ⟨A2, R2⟩ := A1.put (u := SetTO P w Z L') (acc' := addP acc p) R1 new
        exact h1 F1 σ _ (by show Stp _ _ _ _ _ _ _ (er Z _); rw [er_upd]; exact S1.er) L1 rfl R2 A2
    · rw [if_neg hz] at h1; exact h1.elim
end
section
variable {X : Cx} {I : Addr → Value → Option Addr → Prop} {W : WX} {scope : Scope} {vs : List Nat}
theorem new_setP : NewA X (fun D => SetTO X.prog X.w D []) (newSet (.type "set")) := by
  intro pins s σ H Q E I q
  refine PpSet.newSet_ok (q _ (I.hok.fresh (Nat.le_refl _)) (Heap.size_push ..) (fun b o e => Heap.get?_push_of_some _ e) ?_)
  exact I.laid (t' := s.toks) (fun b o e => Heap.get?_push_of_some _ e) (Nat.le_refl _) (setTO_new (setTR_fresh (Heap.get?_push_size _ rfl)).t0)
theorem setP0 {P : Program} {w : World} : ∀ (B : Bas) (F : Hp) (Z : Addr), (setPA P w).R B Z F ((fun D => SetTO P w D []) Z) [] := fun B F Z => ⟨[], rfl, fun q hq => (by cases hq), .nil⟩
theorem in_setP {elt : Expr} {el : ESem} (hu : X.A.units + 1 < cLine) (he : ∀ c, SE (BlkX X scope c) I W0 elt el) : InB X I scope vs (setPA X.prog X.w) (fun Z env => mThen (mSet (.ref Z) env elt)) (emSP el) := fun Z => by
  obtain ⟨t, p, m⟩ := uni_E (X := BlkX X scope) (B := bas X I) he
  exact ⟨fun σ H N => t σ H fun y H1 => rAddT X.prog X.w Z y H1 (N σ), fun c => bok_set rfl (p c) (add_tup (by exact hu)), semB_setP m⟩
def eSrtP (f : Env → Out (List (Int × Int))) : ESem := fun ρ => (f ρ).bind fun acc ρ' => if (acc.all fun p => decide (inB p)) = true then .ok (.fr (.lst ((sortP acc).map pairD))) ρ' else .no
theorem code_lex {p q : Int × Int} (hp : inB p) (hq : inB q) (h : TS.code 64 (tI p) ≤ TS.code 64 (tI q)) : SrtO.lexB q p = false := by
  unfold tI at h
  rw [code_pair, code_pair] at h
  obtain ⟨a1, a2, a3, a4⟩ := hp
  obtain ⟨b1, b2, b3, b4⟩ := hq
  exact SrtO.lexB_no.mpr (by omega)
theorem bd_of {p : Int × Int} (hp : inB p) : TS.Bd 64 (tI p) := by
  intro m hm
  obtain ⟨a1, a2, a3, a4⟩ := hp
  simp only [tI, List.mem_cons, List.not_mem_nil, or_false] at hm
  rcases hm with rfl | rfl
  · exact ⟨a1, a2⟩
  · exact ⟨a3, a4⟩
/-- behind sorted(), the set at Z -/
theorem srt_back {B : Bas} {F0 H0 F H : Hp} {ρ0 ρ : Env} {σ0 σ : L2.St} {Z : Addr} {M : PL} {acc : List (Int × Int)} {Q : VK} {P : Program} {w : World} {K : PySem.W.Frag} (R : Rel B F ρ σ H) (S : Stp F0 ρ0 σ0 H0 F ρ σ H) (hZ : H Z = some (SetTO P w Z (plT M))) (hM : ∀ q ∈ M, F q.1 = some (vPair q.2)) (hb : ∀ q ∈ M, inB q.2)
    (he : (M.map (·.2)).Nodup → (M.map (·.2)).Perm acc) (hq : ∀ p xs, Stp F0 ρ0 σ0 H0 F ρ σ (upd H p (.lst xs)) → Rel B F ρ σ (upd H p (.lst xs)) → RvR B F ρ σ H0 (upd H p (.lst xs)) (.ref p) (.fr (.lst ((sortP acc).map pairD))) → Q (.ref p) (upd H p (.lst xs))) : rSortedT K P w [.ref Z] H Q := by
  refine ⟨Z, plT M, 2, 64, rfl, hZ, fun q hq => ?_, by decide, fun q hq => ?_, fun L' p pL nd few pw hpn => ?_⟩
  · obtain ⟨z, hz, rfl⟩ := List.mem_map.mp hq
    exact tq (R.ext _ _ (hM z hz))
  · obtain ⟨z, hz, rfl⟩ := List.mem_map.mp hq
    exact ⟨rfl, bd_of (hb z hz)⟩
  · obtain ⟨M', e', pM⟩ := plT_perm pL
    subst e'
    have hM' : ∀ q ∈ M', q ∈ M := fun q hq => pM.mem_iff.mp hq
    have nd' : (M'.map (·.2)).Nodup := by
      have e : ((plT M').map (·.2)) = (M'.map (·.2)).map tI := by simp [plT]
      rw [e] at nd
      exact List.Pairwise.of_map tI (fun _ _ hne e => hne (congrArg tI e)) nd
    have e1 : M'.map (·.2) = sortP acc := by
      refine sortedP_one (((pM.map _).trans (he (((pM.map (·.2)).nodup_iff).mp nd'))).trans (sortP_perm acc).symm) ?_ (sortP_sorted acc)
      rw [List.pairwise_map]
      have pw2 : M'.Pairwise fun q r => TS.code 64 (tI q.2) ≤ TS.code 64 (tI r.2) := by
        have := pw
        rw [plT, List.pairwise_map] at this
        exact this
      exact pw2.imp_of_mem fun {q r} hq hr h => code_lex (hb q (hM' q hq)) (hb r (hM' r hr)) h
    have e2 : ((plT M').map fun q => V.ref q.1) = M'.map fun q => V.ref q.1 := by simp [plT]
    obtain ⟨S2, R2, r2⟩ := newList R S hpn (rep_pl (B := B) (L := M') fun q hq => hM q (hM' q hq))
    rw [e1] at r2
    rw [e2]
    exact hq p _ S2 R2 r2
theorem se_srtSP {e : Expr} {t : TE} {f : Env → Out (List (Int × Int))} {p pos : Pos} (hc : X.calm = true) (hg : Gl X "sorted") (hm : X.mg "sorted" = none) (hp : PE X e t) (hs : SemG (bas X I) W t f (PostA (setPA X.prog X.w) (bas X I)))
    (he : starEach [e] X.env = (false, eval e X.env) :: starEach [] X.env := by rfl) (hpl : (backTo pos (starEach [] X.env)).any (·.1) = false := by rfl) : SE X I W (.Call (.Name "sorted" p) [e] [] pos) (eSrtP f) := by
  refine ⟨_, pe_callB (cr_sortedT hc) hg hm (by rfl) (pa_cons hp pa_nil he) (by decide) (by decide) he hpl, fun F ρ σ H R Q hq => ?_⟩
  rw [eSrtP, Out.OK_bind] at hq
  refine hs F ρ σ H R _ (hq.imp (fun acc ρ' h1 F' H' Z u S L R' h0 hF hn hu ra => ?_) fun _ _ _ z => z)
  obtain ⟨M, eu, hM, pm⟩ := ra
  by_cases hz : (acc.all fun p => decide (inB p)) = true
  · rw [if_pos hz] at h1
    have hb : ∀ q ∈ M, inB q.2 := fun q hq => of_decide_eq_true (List.all_eq_true.mp hz q.2 (pm.mem_iff.mp (List.mem_map.mpr ⟨q, hq, rfl⟩)))
    exact srt_back (acc := acc) R' S (by rw [hu, eu]) hM hb (fun _ => pm) fun p xs S2 R2 r2 => h1 _ _ _ S2 L R2 r2
  · rw [if_neg hz] at h1; exact h1.elim
variable {elt tgt it : Expr} {ifs : List Expr} {own : List (Str × Nat)} {pos q0 q1 : Pos} {c : CL} {el : ESem}
abbrev eSP (c : CL) (cs : List CL) (el : ESem) (vs : List Nat) : ESem := eSrtP (cmpO c cs (emSP el) [] vs)
theorem se_sp1 (hu : X.A.units + 1 < cLine) (hg : Gl X "sorted") (hm : X.mg "sorted" = none) (hc : X.calm = true) (hN : X.N.Nodup) (src : SI X I W tgt it c.src) (ok : BlkOk X.N X.env.scope scope own) (tg : ∀ x, SG (BlkX X scope x) I (own.map (·.2)) tgt c.tg) (tt : ∀ x, SPT (BlkX X scope x) I W0 ifs c.tt) (e : ∀ x, SE (BlkX X scope x) I W0 elt el) (hs : ∀ x, foldedSetIterable it X.env x = pure x := by intro _; rfl) :
    SE X I W (.Call (.Name "sorted" q0) [.SetComp elt [⟨tgt, it, ifs, 0⟩] scope pos] [] q1) (eSP c [] el (own.map (·.2))) :=
  let ⟨t, p, m⟩ := cmp_sem (ck := .set elt) (gs := []) (W := W) rfl (fun Z j env => trn_set rfl rfl) new_setP setP0 hc hN ok src tg tt (in_setP hu e) hs
  se_srtSP hc hg hm p m
end
/-! ### sorted(set(xs)) -/
def ddP (ps : List (Int × Int)) : List (Int × Int) := ps.foldl addP []
theorem addP_nd {acc : List (Int × Int)} {p : Int × Int} (h : acc.Nodup) : (addP acc p).Nodup := by
  unfold addP
  split
  · exact h
  · rename_i q
    exact List.nodup_append.mpr ⟨h, by simp, fun a ha b hb => by rw [List.mem_singleton.mp hb]; exact fun e => q (e ▸ ha)⟩
theorem mem_addP {acc : List (Int × Int)} {p q : Int × Int} : q ∈ addP acc p ↔ q ∈ acc ∨ q = p := by
  unfold addP
  split
  · rename_i h
    exact ⟨.inl, fun z => z.elim id fun e => e ▸ h⟩
  · simp
theorem fold_addP : ∀ (ps acc : List (Int × Int)), acc.Nodup → (ps.foldl addP acc).Nodup ∧ ∀ q, q ∈ ps.foldl addP acc ↔ q ∈ acc ∨ q ∈ ps
  | [], acc, h => ⟨h, fun q => by simp⟩
  | p :: ps, acc, h => by
    obtain ⟨h1, h2⟩ := fold_addP ps (addP acc p) (addP_nd h)
    refine ⟨h1, fun q => ?_⟩
    rw [List.foldl_cons, h2, mem_addP, List.mem_cons, or_assoc]
theorem ddP_nd (ps : List (Int × Int)) : (ddP ps).Nodup := (fold_addP ps [] List.nodup_nil).1
theorem mem_ddP {ps : List (Int × Int)} {q : Int × Int} : q ∈ ddP ps ↔ q ∈ ps := by rw [ddP, (fold_addP ps [] List.nodup_nil).2]; simp
def srtSet : D → Option RV
  | .lst ds => (pairs? ds).bind fun ps => if ps.length < 64 ∧ (ps.all fun p => decide (inB p)) = true then some (.fr (.lst ((sortP (ddP ps)).map pairD))) else none
  | _ => none
section
variable {X : Cx} {I : Addr → Value → Option Addr → Prop} {W : WX} {a : Expr} {f : ESem} {p p2 pos q : Pos}
theorem k_srtSet (hc : X.calm = true) (hu : X.A.units + 65 < cLine) (hm : X.mg "sorted" = none) (hm2 : X.mg "set" = none) (hg : Gl X "sorted") (hg2 : Gl X "set") (h : SE X I W a f)
    (he2 : starEach [.Call (.Name "set" p2) [a] [] q] X.env = (false, eval (.Call (.Name "set" p2) [a] [] q) X.env) :: starEach [] X.env := by rfl)
    (he : starEach [a] X.env = (false, eval a X.env) :: starEach [] X.env := by rfl) (hpl : (backTo pos (starEach [] X.env)).any (·.1) = false := by rfl) (hpl2 : (backTo q (starEach [] X.env)).any (·.1) = false := by rfl) :
    SE X I W (.Call (.Name "sorted" p) [.Call (.Name "set" p2) [a] [] q] [] pos) (eU srtSet f) := by
  obtain ⟨t, pt, m⟩ := h
  refine ⟨_, pe_callB (cr_sortedT hc) hg hm (by rfl) (pa_cons (pe_callTy (cr_setOfT hc (by omega)) hg2 hm2 PyProof.Rows.boot_set (pa_cons pt pa_nil he) (by decide) (by decide) he hpl2) pa_nil he2) (by decide) (by decide) he2 hpl, fun F ρ σ H R Q hq => ?_⟩
  rw [eU, Out.OK_bind] at hq
  refine m F ρ σ H R _ (hq.imp (fun r ρ1 hq F1 H1 v S1 L1 R1 r1 => ?_) fun _ _ _ z => z)
  cases e : rd ρ1 r with
  | none => rw [e] at hq; exact hq.elim
  | some d =>
    simp only [e] at hq
    have rr := rd_ok R1 r1 e
    cases d <;> simp only [srtSet] at hq <;> try exact hq.elim
    rename_i ds
    cases e2 : pairs? ds with
    | none => rw [e2] at hq; exact hq.elim
    | some ps =>
      rw [e2] at hq
      simp only [Option.bind] at hq
      by_cases hz : ps.length < 64 ∧ (ps.all fun p => decide (inB p)) = true
      · rw [if_pos hz] at hq
        obtain ⟨l, vs, rfl, h1, lr⟩ := rr.lst R1.ext
        rw [pairs?_eq e2] at lr
        obtain ⟨L, rfl, l2, l3⟩ := rep_pl_inv lr
        have hLl : L.length = ps.length := by rw [← l2, List.length_map]
        refine ⟨l, plT L, rfl, ?_, fun q hq => ?_, by rw [List.length_map, hLl]; exact hz.1, fun a M0 ha hM1 hM2 => ?_⟩
        · refine SqL.of ?_
          rw [h1]
          simp [plT]
        · obtain ⟨z, hz, rfl⟩ := List.mem_map.mp hq
          exact tq (R1.ext _ _ (l3 z hz))
        · have eM := plT_of (M := L) hM1
          generalize hM : M0.map (fun q => (q.1, tI' q.2)) = M at eM
          subst eM
          have sub : ∀ q ∈ M, q ∈ L := fun q hq => by
            obtain ⟨z, hz, e⟩ := List.mem_map.mp (hM1 (q.1, tI q.2) (List.mem_map.mpr ⟨q, hq, rfl⟩))
            simp only [Prod.mk.injEq] at e
            have : z = q := Prod.ext e.1 (tI_inj e.2)
            exact this ▸ hz
          obtain ⟨R2, S2⟩ := R1.alloc (u := SetTO X.prog X.w a (plT M)) ha
          refine srt_back (acc := ddP ps) R2 (S1.trans S2) upd_same (fun q hq => l3 q (sub q hq)) (fun q hq => ?_) (fun nd => ?_) fun p xs S3 R3 r3 => hq _ _ _ S3 L1 R3 (r3.base fun _ z => z)
          · refine of_decide_eq_true (List.all_eq_true.mp hz.2 q.2 ?_)
            rw [← l2]
            exact List.mem_map.mpr ⟨q, sub q hq, rfl⟩
          · refine (List.perm_ext_iff_of_nodup nd (ddP_nd ps)).mpr fun q => ?_
            rw [mem_ddP, ← l2]
            constructor
            · intro hm
              obtain ⟨z, hz, rfl⟩ := List.mem_map.mp hm
              exact List.mem_map.mpr ⟨z, sub z hz, rfl⟩
            · intro hm
              obtain ⟨z, hz, rfl⟩ := List.mem_map.mp hm
              exact mem_plT.mp (hM2 (z.1, tI z.2) (List.mem_map.mpr ⟨z, hz, rfl⟩))
      · rw [if_neg hz] at hq; exact hq.elim
end
end DL
end
section
/-! G14: {} and {k: v}; raise X(); calls with one keyword; repr of single values and dicts; written tuples of texts. -/
namespace DL
open PySem PySem.Spec L2 PyProof.Rows

section
variable {X : Cx} {I : Addr → Value → Option Addr → Prop} {W : WX} {x : Str} {p pos pos2 : Pos} {C : Addr}
/-! ### raise X(), X without own __init__ -/
theorem pmk_own0 {bmB : List Value} {B newId initId : String} (F : ExcBaseFacts B newId initId bmB) (q : PySem.W.excIn X.K C bmB newId = true) (gC : X.mg x = some (.ref C)) (kC : PySem.W.keepIn X.K (.ref C) = true) (r : Raises X (.ref C)) (hg : Gl X x)
    (hdb : (x == ("__debug__" : Str)) = false := by decide) : PMk X (.Call (.Name x p) [] [] pos) (fun _ H Q => Q (.ref C) none H) := by
  intro pins s σ H Q I h
  refine wpAny_Call_Name_kw (ld_glob I hg gC ?_ hdb)
  refine PySem.W.callWith_K0 I.kIn kC ?_
  show wpAny _ _ (call (.ref C) []) _ _ _
  obtain ⟨bm, N, nm, qn, bs, hdct, sn, sub, ab, col, dd, k0, k1, k2, k3, k5, mN, hC, hN, hni, T⟩ := exc_obj I.kIn q
  refine wpAny_call_exc_subT F T hC hN hni (fun h' e hm => ?_) (Nat.zero_le _)
  exact mk_of I hm r h (I.hok.gone hm.new)
def sRaise0 (c : Str) : SSem := fun ρ => .ex c [] ρ
def exc0B (K : PySem.W.Frag) (C : Addr) : Bool := PySem.W.excIn K C [.type "ValueError", .type "Exception", .type "BaseException", .type "object"] "ValueError.__new__" && (PySem.W.keepIn K (.ref C) && (decide (PySem.W.subIn K (.ref C) (.type "BaseException") = some true) && decide (PySem.W.typeIn K (.ref C) = some (.type "type"))))
theorem ss_raise0 (h : exc0B X.K C = true) (tk : Takes X W) (hc : X.calm = true) (hg : Gl X x) (hm : X.mg x = some (.ref C)) (hdb : (x == ("__debug__" : Str)) = false := by decide) :
    SS X I W (.Raise (some (.Call (.Name x p) [] [] pos)) none pos2) (sRaise0 x) := by
  unfold exc0B at h
  simp only [Bool.and_eq_true, decide_eq_true_eq] at h
  obtain ⟨h1, h2, h3, h4⟩ := h
  refine ⟨_, L2.ps_raise hc tk (pmk_own0 PySem.F.excBase_ValueError h1 hm h2 (raises_own h3 h4) hg hdb), fun F ρ σ H R E hq => ?_⟩
  exact hq F σ H _ _ (Stp.refl _ _ _ _) R ⟨C, hm, rfl, .inl ⟨rfl, rfl⟩⟩
/-! ### dict displays -/
def eNewK : ESem := fun ρ => .ok (.fr (.dK [])) ρ
theorem k_dict0 : SE X I W (.Dict [] [] pos) eNewK := ⟨_, pe_dnewK, fun F ρ σ H R Q hq p hp => by
  obtain ⟨R2, S2⟩ := R.alloc (u := .dK []) hp
  exact hq F _ _ S2 (Live.refl _) R2 ⟨p, rfl, hp, noF R hp, ⟨[], upd_same, .nil⟩, nohas R hp⟩⟩
def eNewT : ESem := fun ρ => .ok (.fr (.dT [])) ρ
theorem k_dict0T : SE X I W (.Dict [] [] pos) eNewT := ⟨_, pe_dnewT, fun F ρ σ H R Q hq p hp => by
  obtain ⟨R2, S2⟩ := R.alloc (u := .dT []) hp
  exact hq F _ _ S2 (Live.refl _) R2 ⟨p, rfl, hp, noF R hp, ⟨[], upd_same, .nil⟩, nohas R hp⟩⟩
/-- {k: v} of constants -/
def eDic1 (k : L2.Key) (d : D) : ESem := fun ρ => .ok (.fr (.dK [(k, d)])) ρ
theorem k_dict1 {ke ve : Expr} {k : L2.Key} {v : V} {d : D} (hk : PE X ke (tC (kV k))) (hv : PE X ve (tC v)) (hr : ∀ F, Rep (bas X I) F v d) : SE X I W (.Dict [some ke] [ve] pos) (eDic1 k d) :=
  ⟨_, pe_disp (pps_cons hk hv pps_nil) (by rfl) rfl (by simp) (by simp), fun F ρ σ H R Q hq p hp => by
    obtain ⟨R2, S2⟩ := R.alloc (u := .dK (mergeK [] [(k, v)])) hp
    refine ⟨upd_same, [(k, v)], rfl, by simp, ?_⟩
    have := hq F _ _ S2 (Live.refl _) R2 ⟨p, rfl, hp, noF R hp, ⟨[(k, v)], upd_same, .cons (hr _) .nil⟩, nohas R hp⟩
    rw [upd_upd]
    exact this⟩
end
/-! ### repr of single values, of dicts -/
def scalP : D → Option PyData
  | .non => some .none
  | .bl b => some (.bool b)
  | .int i => some (.int i)
  | .str x => some (.str x)
  | _ => none
def keyP : L2.Key → PyData
  | .inl i => .int i
  | .inr x => .str x
def flatKP : List (L2.Key × D) → Option (List (PyData × PyData))
  | [] => some []
  | (k, d) :: r => match scalP d, flatKP r with
    | some p, some ps => some ((keyP k, p) :: ps)
    | _, _ => none
def reprS : D → Option RV
  | .non => some (.fz (.str "None"))
  | .bl b => some (.fz (.str (if b then "True" else "False")))
  | .int i => if i.natAbs.log2 < 1920 then some (.fz (.str (toString i))) else none
  | .str x => if (reprText x).length ≤ sizeLine then some (.fz (.str (reprText x))) else none
  | .dK kvs => (flatKP kvs).bind fun ps => if (PyData.showable (.dict ps) && (decide ((PyData.dict ps).depth ≤ 60) && decide ((PyData.dict ps).shown.length ≤ sizeLine))) = true then some (.fz (.str (PyData.dict ps).shown)) else none
  | _ => none
theorem pairedAt {α β : Type} {F : α → β → Prop} : ∀ {l₁ : List α} {l₂ : List β}, Paired F l₁ l₂ → ∀ (i : Nat) (x : α) (y : β), l₁[i]? = some x → l₂[i]? = some y → F x y
  | _, _, .nil, i, x, y, h, _ => by simp at h
  | _, _, .cons h _, 0, x, y, h1, h2 => by simp at h1 h2; subst h1; subst h2; exact h
  | _, _, .cons _ t, i + 1, x, y, h1, h2 => pairedAt t i x y (by simpa using h1) (by simpa using h2)
theorem readsAll_of {h : Heap} : ∀ (vs : List Value) (ds : List PyData), vs.length = ds.length → (∀ (i : Nat) v d, vs[i]? = some v → ds[i]? = some d → Reads h v d []) → ReadsAll h vs ds []
  | [], [], _, _ => .nil
  | v :: vs, d :: ds, hl, hr => by
    have := ReadsAll.cons (hr 0 v d rfl rfl) (readsAll_of vs ds (by simpa using hl) fun i v d h1 h2 => hr (i + 1) v d (by simpa using h1) (by simpa using h2))
    simpa using this
  | [], _ :: _, hl, _ => by simp at hl
  | _ :: _, [], hl, _ => by simp at hl
theorem scal_reads {B : Bas} {F : Hp} {h : Heap} {v : V} {u : Value} {d : D} {p : PyData} (hr : Rep B F v d) (e : scalP d = some p) (r : RelV v u) : Reads h u p [] := by
  cases hr <;> simp only [scalP] at e <;> try cases e
  · cases r; exact .none
  · cases r; exact .bool _
  · obtain ⟨t, rfl⟩ := r; exact .int _ _
  · obtain ⟨t, rfl⟩ := r; exact .str _ _
theorem key_reads {h : Heap} {P : Program} {w : World} {k : L2.Key} {u : Value} (r : (mixKind P w).is k u = true) : Reads h u (keyP k) [] := by
  cases k with
  | inl i =>
    obtain ⟨t, rfl⟩ := Value.isInt_shape (k := i) (v := u) r
    exact .int _ _
  | inr x =>
    obtain ⟨t, rfl⟩ := Value.isStrOf_shape (x := x) (v := u) r
    exact .str _ _
theorem flat_get {B : Bas} {F : Hp} : ∀ {vs : List (L2.Key × V)} {ds : List (L2.Key × D)} {ps : List (PyData × PyData)}, RepK B F vs ds → flatKP ds = some ps → ps.length = vs.length ∧ ∀ (i : Nat) k v, vs[i]? = some (k, v) → ∃ d p, ps[i]? = some (keyP k, p) ∧ scalP d = some p ∧ Rep B F v d
  | _, _, _, .nil, e => by cases e; exact ⟨rfl, fun i k v h => by simp at h⟩
  | _, _, _, .cons (f := k) (d := d) (ds := ds) h l, e => by
    simp only [flatKP] at e
    cases e1 : scalP d with
    | none => rw [e1] at e; cases e
    | some p =>
      cases e2 : flatKP ds with
      | none => rw [e1, e2] at e; cases e
      | some qs =>
        rw [e1, e2] at e; cases e
        obtain ⟨h1, h2⟩ := flat_get l e2
        refine ⟨by simp [h1], fun i k' v' hi => ?_⟩
        cases i with
        | zero => simp at hi; obtain ⟨rfl, rfl⟩ := hi; exact ⟨d, p, rfl, e1, h⟩
        | succ i => simp at hi; simpa using h2 i k' v' hi
def rReprS : List V → Hp → VK → Prop := fun xs H Q => (xs = [.non] ∧ Q (.str "None") H) ∨ (∃ b : Bool, xs = [.bl b] ∧ Q (.str (if b then "True" else "False")) H) ∨ (∃ i : Int, xs = [.int i] ∧ i.natAbs.log2 < 1920 ∧ Q (.str (toString i)) H) ∨ (∃ x : Str, xs = [.str x] ∧ (reprText x).length ≤ sizeLine ∧ Q (.str (reprText x)) H) ∨
  ∃ (B : Bas) (F : Hp) (a : Addr) (vs : List (L2.Key × V)) (kvs : List (L2.Key × D)) (ps : List (PyData × PyData)), xs = [.ref a] ∧ H a = some (.dK vs) ∧ RepK B F vs kvs ∧ flatKP kvs = some ps ∧ PyData.showable (.dict ps) = true ∧ (PyData.dict ps).depth ≤ 60 ∧ (PyData.dict ps).shown.length ≤ sizeLine ∧ Q (.str (PyData.dict ps).shown) H
theorem call_reprS0 {X : Cx} (hg : NoG X.A) (hu : X.A.units + 64 < cLine) : CallR X (.builtin "repr") rReprS := by
  intro pins s σ H xs us Q I r h
  rcases h with ⟨rfl, q⟩ | ⟨b, rfl, q⟩ | ⟨i, rfl, hz, q⟩ | ⟨x, rfl, hz, q⟩ | ⟨B, F, a, vs, kvs, ps, rfl, ha, l, e, h1, h3, h4, q⟩
  · obtain ⟨u, rfl, rfl⟩ := vals1 r
    exact PySem.P.repr_of_none ⟨.str _, H, I.tok _, ⟨_, rfl⟩, q⟩
  · obtain ⟨u, rfl, rfl⟩ := vals1 r
    exact PySem.P.repr_of_bool ⟨.str _, H, I.tok _, ⟨_, rfl⟩, q⟩
  · obtain ⟨u, rfl, t, rfl⟩ := vals1 r
    exact PySem.P.repr_of_int hz ⟨.str _, H, I.tok _, ⟨_, rfl⟩, q⟩
  · obtain ⟨u, rfl, t, rfl⟩ := vals1 r
    exact PySem.P.repr_of_str ⟨.str _, H, I.tok _, ⟨_, rfl⟩, q⟩ (hsz := hz)
  · obtain ⟨u, rfl, ru⟩ := vals1 r
    obtain rfl : u = Value.ref a := ru
    obtain ⟨hz, hd, ws, rel, dd⟩ := dk_of I.hok ha
    obtain ⟨es, ep, raw, hsz, hent⟩ := dd.raw
    obtain ⟨f1, f2⟩ := flat_get l e
    have hl : ws.length = vs.length := rel.length.symm
    obtain ⟨o, ho, hex, hdat⟩ := raw
    have ent : ∀ (i : Nat) (hi : i < es.size), ∃ k p, ps[i]? = some (k, p) ∧ Reads s.heap es[i].key k [] ∧ Reads s.heap es[i].val p [] := fun i hi => by
      have hi2 : i < vs.length := by omega
      have hi3 : i < ws.length := by omega
      obtain ⟨d, p, g1, g2, g3⟩ := f2 i (vs[i].1) (vs[i].2) (by simp [hi2])
      obtain ⟨k1, k2⟩ := hent i hi (ws[i].1) (ws[i].2) (by simp [hi3])
      have rl := pairedAt rel i vs[i] ws[i] (by simp [hi2]) (by simp [hi3])
      refine ⟨keyP vs[i].1, p, g1, ?_, ?_⟩
      · rw [rl.1]; exact key_reads k1
      · rw [k2]; exact scal_reads g3 g2 rl.2
    have rd : Reads s.heap (.ref a) (.dict ps) [a] := by
      have r1 : ReadsAll s.heap (es.toList.map (·.key)) (ps.map (·.1)) [] := readsAll_of _ _ (by simp; omega) fun i v d e1 e2 => by
        rw [List.getElem?_map] at e1 e2
        cases q1 : es.toList[i]? with
        | none => rw [q1] at e1; cases e1
        | some en =>
          rw [q1] at e1; cases e1
          obtain ⟨hi, rfl⟩ := List.getElem?_eq_some_iff.mp q1
          obtain ⟨k, p, g1, g2, g3⟩ := ent i (by simpa using hi)
          rw [g1] at e2; cases e2
          simpa using g2
      have r2 : ReadsAll s.heap (es.toList.map (·.val)) (ps.map (·.2)) [] := readsAll_of _ _ (by simp; omega) fun i v d e1 e2 => by
        rw [List.getElem?_map] at e1 e2
        cases q1 : es.toList[i]? with
        | none => rw [q1] at e1; cases e1
        | some en =>
          rw [q1] at e1; cases e1
          obtain ⟨hi, rfl⟩ := List.getElem?_eq_some_iff.mp q1
          obtain ⟨k, p, g1, g2, g3⟩ := ent i (by simpa using hi)
          rw [g1] at e2; cases e2
          simpa using g3
      exact Reads.dict ho hex.1 hdat r1 r2
    refine repr_of_reads' rd h1 (fun _ hm => ?_) hg (by omega) (fun _ _ e => e) (fun h' u tk k => ⟨.str _, H, I.kept k, ⟨_, rfl⟩, q⟩) h4
    rw [List.mem_singleton.mp hm] at hd
    simp at hd
theorem call_reprS {B : Bas} : CallS1 B rReprS reprS := by
  intro F ρ σ H v x rv R hv e Q q
  cases x <;> simp only [reprS] at e <;> try cases e
  · exact .inl ⟨by rw [hv.non], ret1 R q (.str _)⟩
  · exact .inr (.inl ⟨_, by rw [hv.bl], ret1 R q (.str _)⟩)
  · split at e
    · rename_i z; cases e; exact .inr (.inr (.inl ⟨_, by rw [hv.int], z, ret1 R q (.str _)⟩))
    · cases e
  · split at e
    · rename_i z; cases e; exact .inr (.inr (.inr (.inl ⟨_, by rw [hv.str], z, ret1 R q (.str _)⟩)))
    · cases e
  · rename_i kvs
    cases e1 : flatKP kvs with
    | none => rw [e1] at e; cases e
    | some ps =>
      rw [e1] at e
      simp only [Option.bind] at e
      split at e
      · rename_i z
        cases e
        simp only [Bool.and_eq_true, decide_eq_true_eq] at z
        obtain ⟨a, vs, rfl, h1, l⟩ := hv.dK R.ext
        exact .inr (.inr (.inr (.inr ⟨B, F, a, vs, kvs, ps, rfl, h1, l, e1, z.1, z.2.1, z.2.2, ret1 R q (.str _)⟩)))
      · cases e
def reprA (x : D) : Option RV := match reprD x with
  | some y => some y
  | none => reprS x
section
variable {X : Cx} {I : Addr → Value → Option Addr → Prop} {W : WX} {a : Expr} {f : ESem} {p pos : Pos}
theorem k_reprA (hgd : NoG X.A) (hu : X.A.units + 65 < cLine) (hm : X.mg "repr" = none) (h : SE X I W a f) (hg : Gl X "repr" := by rfl) (he : starEach [a] X.env = (false, eval a X.env) :: starEach [] X.env := by rfl) (hpl : (backTo pos (starEach [] X.env)).any (·.1) = false := by rfl) : SE X I W (.Call (.Name "repr" p) [a] [] pos) (eU reprA f) :=
  se_callB1 (r := fun xs H Q => rRepr X.K xs H Q ∨ rReprS xs H Q) (fun pins s σ H vs us Q I r h => h.elim (call_repr hgd (by omega) pins s σ H vs us Q I r) (call_reprS0 hgd (by omega) pins s σ H vs us Q I r)) (CallS1.or call_reprD call_reprS) hg hm bt_repr h (by decide) (by decide) he hpl
/-! ### a written tuple of texts -/
theorem ktB_ok {K : PySem.W.Frag} {x : Str} {xs : List Str} (h : He.tupB K x (xs.map He.Dv.str) = true) : KT0 K (He.ga K x) (xs.map V.str) := by
  have e : (xs.map He.Dv.str).map (He.Dv.v K) = xs.map V.str := by rw [List.map_map]; rfl
  have := He.tupB_ok h (fun _ => none)
  rw [e] at this
  rcases this with z | z
  · rcases z with z | ⟨o, z⟩ <;> cases z
  · exact z
theorem k_gtup {x : Str} {g : Addr} {xs : List Str} (hg : Gl X x) (hm : X.mg x = some (.ref g)) (ht : KT0 X.K g (xs.map V.str)) (hdb : (x == ("__debug__" : Str)) = false := by decide) : SE X I W (.Name x p) (eC (.ktp xs)) := se_const (pe_glob (v := .ref g) hg hm rfl hdb) fun _ => .ktp ht
end
end DL
end
section
/-! G15: pop(), insert(i, x), a call with one keyword. -/
namespace DL
open PySem PySem.Spec L2

section
variable {X : Cx} {I : Addr → Value → Option Addr → Prop} {W : WX} {a b : Expr} {f g : ESem} {p apos cpos : Pos}
theorem k_pop0 {x : Str} {k : Nat} (hv : PE X (.Name x p) (tVar k)) (hbase : attributeBase (.Name x p) "pop" X.env (eval (.Name x p) X.env) = eval (.Name x p) X.env := by rfl) (hline : (apos.endLine == cpos.line) = true := by rfl) :
    SE X I W (.Call (.Attribute (.Name x p) "pop" apos) [] [] cpos) (eMut k popM []) := se_mut0 F.slot_list_pop F.type_list_pop (MtR.or mt_pop mt_popAt) mut_pop hv hbase hline
def insM : MSem := fun xs ds => match ds with
  | [.int i, d] => if xs.length < sizeLine ∧ 0 ≤ i ∧ i ≤ (xs.length : Int) ∧ i < 2 ^ 63 then some (.non, xs.take i.toNat ++ d :: xs.drop i.toNat) else none
  | _ => none
abbrev rIns : V → List V → Hp → VK → Prop := fun x vs H Q => ∃ (l : Addr) (xs : List V) (i : Int) (y : V), x = .ref l ∧ vs = [.int i, y] ∧ H l = some (.lst xs) ∧ xs.length < sizeLine ∧ 0 ≤ i ∧ i < 2 ^ 63 ∧
    Q .non (upd H l (.lst (xs.take i.toNat ++ [y] ++ xs.drop i.toNat)))
theorem mut_ins {B : Bas} : MutS B rIns insM := by
  intro F H a us xs vs ds d xs' m hH hl hv e Q q
  unfold insM at e
  split at e
  · rename_i i d'
    split at e
    · rename_i z
      cases e
      cases hv with
      | cons h1 h2 =>
        cases h2 with
        | cons h3 h4 =>
          cases h4
          cases h1
          refine ⟨a, us, i, _, rfl, rfl, hH, by rw [hl.length]; exact z.1, z.2.1, z.2.2.2, ?_⟩
          refine q _ _ ?_ .non
          have := RepL.ins h3 i.toNat hl
          simpa using this
    · cases e
  · cases e
theorem k_insert {x : Str} {k : Nat} (hv : PE X (.Name x p) (tVar k)) (h : SE X I W a f) (h2 : SE X I W b g)
    (hbase : attributeBase (.Name x p) "insert" X.env (eval (.Name x p) X.env) = eval (.Name x p) X.env := by rfl)
    (hfew : ((backTo cpos (starEach [a, b] X.env)).all (fun x => !x.1) && (backToKw cpos (keywordEach [] X.env)).all (fun x => x.1.isSome) && decide ([a, b].length + ([] : List Keyword).length + (if ([] : List Keyword).isEmpty then 0 else 1) < 30)) = true := by rfl)
    (hline : (apos.endLine == cpos.line) = true := by rfl) (hs : starEach [a, b] X.env = (false, eval a X.env) :: starEach [b] X.env := by rfl) (hs2 : starEach [b] X.env = (false, eval b X.env) :: starEach [] X.env := by rfl) (hplain : (backTo cpos (starEach [b] X.env)).any (·.1) = false := by rfl) :
    SE X I W (.Call (.Attribute (.Name x p) "insert" apos) [a, b] [] cpos) (eMut k insM [f, g]) := se_mut F.slot_list_insert F.type_list_insert mt_insert mut_ins hv (sl_cons h (sl_cons h2 sl_nil hs2) hs) hbase hfew hline hs hplain
end
/-! ### f(x, k = y), the default between -/
def gV11 (d : V) (vs zs : List V) : List V := match vs, zs with
  | [v], [z] => [v, d, z]
  | _, _ => []
theorem kb11 {K : PySem.W.Frag} {x qual : Str} {params : Arguments} {body : List Stmt} {scope : Scope} {d1 d2 : V} {kws : List (Str × V)} {f : Addr} {fd : FuncData} {a b c : Str} (Fn : FunD K x qual params body scope [d1, d2] kws f fd)
    (h : ∀ (T : Addr) (kV doc pm : Value) (an : Option Addr) (cdv ct : Value) (u v i1 i2 : Value), ∃ k, bindArgs (PySem.W.fnOf x qual params body scope (.ref T) kV doc pm an cdv ct) ⟨[u], [(c, v)]⟩ = seqItems? (.ref T) >>= k ∧ k (some [i1, i2].toArray) = pure ([a, b, c].zip [u, i1, v])) :
    ∃ g, KBinds K fd [a, b, c] [c] g (gV11 d1) := by
  obtain ⟨oc, od, dV, kV, doc, pm, an, cdv, ct, osl, rfl, lk, hcd, hD, hK⟩ := Fn.ex
  rcases hD with ⟨e, _⟩ | ⟨_, T, o, its, m, rfl, lT, oT, rT⟩
  · cases e
  · obtain ⟨i1, i2, rfl, r1, r2⟩ := vals2 rT
    refine ⟨fun us ws => match us, ws with | [u], [w] => [u, i1, w] | _, _ => [], fun s us ws X hl => ?_, fun {vs us zs ws} rv rz => ?_⟩
    · match us, ws, hl with
      | [u], [w], _ =>
        obtain ⟨k, e1, e2⟩ := h T kV doc pm an cdv ct u w i1 i2
        refine BindsTo.of_looks fun M => ?_
        show PySem.W.Looks M s.heap (bindArgs _ ⟨[u], [(c, w)]⟩) _
        rw [e1]
        exact looks_items X lT oT (.of_pure e2)
      | [], _, hl => simp at hl
      | _ :: _ :: _, _, hl => simp at hl
      | [_], [], hl => simp at hl
      | [_], _ :: _ :: _, hl => simp at hl
    · cases rv with
      | nil => cases rz <;> exact .nil
      | cons a1 t1 =>
        cases t1 with
        | cons _ _ => exact .nil
        | nil =>
          cases rz with
          | nil => exact .nil
          | cons a2 t2 =>
            cases t2 with
            | nil => exact .cons a1 (.cons r1 (.cons a2 .nil))
            | cons _ _ => exact .nil
def eCallK (m : FSem) (d : D) (f g : ESem) : ESem := fun ρ => (eP [f] ρ).bind fun rs ρ1 => (eP [g] ρ1).bind fun zs ρ2 => match rs, zs with
  | [r], [z] => (match argsOf ρ2 [r, .fz d, z] with
    | some as => if (slotsOf [r, .fz d, z]).Nodup then (match m as with
      | .ok q ρa => .ok q (back ρ2 [r, .fz d, z] ρa)
      | _ => .no) else .no
    | none => .no)
  | _, _ => .no
theorem pk_pa {X : Cx} {e : Expr} {t : TE} {nm : Option Str} {kpos : Pos} (h : PE X e t) : PK X [⟨nm, e, kpos⟩] (tCons t tNil) := pk_cons h pk_nil
section
variable {X : Cx} {I : Addr → Value → Option Addr → Prop} {W : WX} {k n : Nat} {f : Addr} {fd : FuncData} {ps ks : List Str} {x : Str} {p pos kpos : Pos} {e0 e1 : Expr} {f0 f1 : ESem} {m : FSem} {dv : V} {d : D} {nm : Option Str} {g : List Value → List Value → List Value}
theorem se_kw11 (G : FnOk X.prog X.w X.K X.mg X.base (L2.CX X.prog X.w) k f fd ps (spOf (bas X I0) 3 m)) (hr : Room k X.A) (hg : Gl X x) (hm : X.mg x = some (.ref f)) (hk : PySem.W.keepIn X.K (.ref f) = true) (hb : KBinds X.K fd ps ks g (gV11 dv)) (hdr : ∀ F, Rep (bas X I) F dv d) (tk : Takes X W)
    (h0 : SE X I W e0 f0) (h1 : SE X I W e1 f1) (hdb : (x == ("__debug__" : Str)) = false := by decide)
    (hall : (backToKw pos (keywordEach [⟨nm, e1, kpos⟩] X.env)).all (·.1.isSome) = true := by rfl) (hks : (backToKw pos (keywordEach [⟨nm, e1, kpos⟩] X.env)).filterMap (·.1) = ks := by rfl)
    (he : starEach [e0] X.env = (false, eval e0 X.env) :: starEach [] X.env := by rfl)
    (hpl : ((backTo pos (starEach [e0] X.env)).any (·.1) || (backToKw pos (keywordEach [⟨nm, e1, kpos⟩] X.env)).any (·.1.isNone)) = false := by rfl) :
    SE X I W (.Call (.Name x p) [e0] [⟨nm, e1, kpos⟩] pos) (eCallK m d f0 f1) := by
  obtain ⟨t0, q0, m0⟩ := sa_cons h0 sa_nil he
  obtain ⟨t1, q1, m1⟩ := h1
  refine ⟨_, pe_callK (E := fun _ _ _ => False) G hr hg hm hk hb (passes_call tk fun _ _ _ _ h => h.elim) q0 (pk_pa q1) hall hks hdb he hpl, fun F ρ σ H R Q hq => ?_⟩
  rw [eCallK, Out.OK_bind] at hq
  refine m0 F ρ σ H R _ (hq.imp (fun rs ρ1 hq F1 H1 vs S1 L1 R1 p1 => ?_) fun _ _ _ z => z)
  rw [Out.OK_bind, eP, Out.OK_bind] at hq
  refine m1 F1 ρ1 σ H1 R1 _ (hq.imp (fun r ρ2 hq F2 H2 z S2 V2 R2 r2 => ?_) fun _ _ _ z => z.back S1)
  cases e2 : prm ρ2 r with
  | none => rw [e2] at hq; exact hq.elim
  | some r' =>
    simp only [e2, eP, Out.bind, Out.OK] at hq
    obtain ⟨F3, S3, R3, p2, m2⟩ := prm_ok R2 S2 r2 e2
    have p1' := p1.next (fun a o h => S3.mono a o h) V2
    match rs, p1', hq with
    | [], _, hq => exact hq.elim
    | r0 :: _ :: _, _, hq => exact hq.elim
    | [r0], p1', hq =>
      dsimp only at hq
      have hl : vs.length = 1 := by
        have : ∀ {vs : List V} {rs : List RV}, PR (bas X I) F3 ρ2 σ vs rs → vs.length = rs.length := fun h => by
          induction h with
          | nil => rfl
          | fz _ _ ih => simp [ih]
          | sl _ _ _ ih => simp [ih]
        exact this p1'
      match vs, hl, p1' with
      | [v0], _, p1' =>
        show spOf (bas X I0) 3 m [v0, dv, z] H2 Q (fun cls d H => W0 cls d σ H)
        have pr : PR (bas X I) F3 ρ2 σ [v0, dv, z] [r0, .fz d, r'] := p1'.app (ws := [dv, z]) (qs := [.fz d, r']) (.fz (hdr F3) p2)
        cases ea : argsOf ρ2 [r0, .fz d, r'] with
        | none => rw [ea] at hq; exact hq.elim
        | some as =>
          rw [ea] at hq
          dsimp only at hq
          by_cases nd : (slotsOf [r0, .fz d, r']).Nodup
          · rw [if_pos nd] at hq
            refine sem_call (t := t0) (W := W0) R (S1.trans S3) (L1.trans V2) R3 pr ea nd ?_ (by rw [args_len ea]; rfl)
            cases em : m as with
            | ok q ρa => rw [em] at hq; exact hq
            | ex c fs ρa => rw [em] at hq; exact hq.elim
            | no => rw [em] at hq; exact hq.elim
          · rw [if_neg nd] at hq; exact hq.elim
end
end DL
end
section
/-! G16: rooms; x is True, x is not False. -/
namespace DL
open PySem PySem.Spec L2
theorem u1_of {n : Nat} (h : n + 65 < cLine) : n + 1 < cLine := by omega
theorem u0_of {n : Nat} (h : n + 65 < cLine) : n < cLine := by omega
def isB : D → D → Option RV
  | .bl a, .bl b => some (.fz (.bl (decide (a = b))))
  | _, _ => none
def isntB : D → D → Option RV
  | .bl a, .bl b => some (.fz (.bl (!decide (a = b))))
  | _, _ => none
abbrev isA := orO isD isB
abbrev isntA := orO isntD isntB
section
variable {B : Bas}
theorem ops_isB : OpS B (fun x y H Q => ∃ a b, x = .bl a ∧ y = .bl b ∧ Q (.bl (decide (a = b))) H) isB := by
  intro F ρ σ H v u x y rv R hv hu e Q q
  cases x <;> cases y <;> simp only [isB] at e <;> cases e
  exact ⟨_, _, hv.bl, hu.bl, ret1 R q (.bl _)⟩
theorem ops_isntB : OpS B (fun x y H Q => ∃ a b, x = .bl a ∧ y = .bl b ∧ Q (.bl (!decide (a = b))) H) isntB := by
  intro F ρ σ H v u x y rv R hv hu e Q q
  cases x <;> cases y <;> simp only [isntB] at e <;> cases e
  exact ⟨_, _, hv.bl, hu.bl, ret1 R q (.bl _)⟩
end
section
variable {X : Cx} {I : Addr → Value → Option Addr → Prop} {W : WX} {a b : Expr} {fa fb : ESem} {pos : Pos}
theorem k_isA (h : SE X I W a fa) (k : SE X I W b fb) : SE X I W (.Compare a [.Is] [b] pos) (eOp isA fa fb) := se_cmp (OpR.or op_isN op_is_bl) (ops_is.or ops_isB) h k
theorem k_isntA (h : SE X I W a fa) (k : SE X I W b fb) : SE X I W (.Compare a [.IsNot] [b] pos) (eOp isntA fa fb) := se_cmp (OpR.or op_notN op_isnot_bl) (ops_isnt.or ops_isntB) h k
theorem q_isA (h : SE X I W a fa) (k : SE X I W b fb) : SC X I W (.Compare a [.Is] [b] pos) (cB (eOp isA fa fb)) := sc_cmp (OpR.or op_isN op_is_bl) (ops_is.or ops_isB) h k
theorem q_isntA (h : SE X I W a fa) (k : SE X I W b fb) : SC X I W (.Compare a [.IsNot] [b] pos) (cB (eOp isntA fa fb)) := sc_cmp (OpR.or op_notN op_isnot_bl) (ops_isnt.or ops_isntB) h k
end
end DL
end
noncomputable section
set_option maxHeartbeats 4000000
namespace K01
open PySem PySem.Spec L2 DL
abbrev P0 : Program := PySem.Challenge.pw_looseorder_k01_names_rules_and_closure
def top (i : Nat) : Stmt := P0.main.body.getD i (.Pass ⟨0, 0, 0, 0⟩)
def meth (i j : Nat) : Stmt := match top i with
  | .ClassDef _ _ _ b _ _ _ _ _ _ _ => b.getD j (.Pass ⟨0, 0, 0, 0⟩)
  | s => s
def d__law_hand : DF := ⟨.glo "_law_hand", "_law_hand", "_law_hand", (top 25), [], false⟩
def d__law_mixed : DF := ⟨.glo "_law_mixed", "_law_mixed", "_law_mixed", (top 26), [], false⟩
def d__law_take : DF := ⟨.glo "_law_take", "_law_take", "_law_take", (top 27), [], false⟩
def d__law_text : DF := ⟨.glo "_law_text", "_law_text", "_law_text", (top 37), [], false⟩
def d__law_as_list : DF := ⟨.glo "_law_as_list", "_law_as_list", "_law_as_list", (top 30), [], false⟩
def d_has_letters : DF := ⟨.glo "has_letters", "has_letters", "has_letters", (top 12), [], false⟩
def d_is_ending : DF := ⟨.glo "is_ending", "is_ending", "is_ending", (top 15), [], false⟩
def d_ending_from : DF := ⟨.glo "ending_from", "ending_from", "ending_from", (top 16), [], false⟩
def d__law_told_ending : DF := ⟨.glo "_law_told_ending", "_law_told_ending", "_law_told_ending", (top 40), [], false⟩
def d__law_all_letters : DF := ⟨.glo "_law_all_letters", "_law_all_letters", "_law_all_letters", (top 38), [], false⟩
def d__law_is_part : DF := ⟨.glo "_law_is_part", "_law_is_part", "_law_is_part", (top 39), [], false⟩
def d__law_endings_hold : DF := ⟨.glo "_law_endings_hold", "_law_endings_hold", "_law_endings_hold", (top 41), [], false⟩
def d__law_thing : DF := ⟨.glo "_law_thing", "_law_thing", "_law_thing", (top 36), [], false⟩
def d_is_whole : DF := ⟨.glo "is_whole", "is_whole", "is_whole", (top 11), [(.non), (.non)], false⟩
def d_is_name : DF := ⟨.glo "is_name", "is_name", "is_name", (top 13), [], false⟩
def d_number_rank : DF := ⟨.glo "number_rank", "number_rank", "number_rank", (top 17), [], false⟩
def d__law_is_int : DF := ⟨.glo "_law_is_int", "_law_is_int", "_law_is_int", (top 29), [], false⟩
def d_is_number : DF := ⟨.glo "is_number", "is_number", "is_number", (top 14), [], false⟩
def d__law_names_hold : DF := ⟨.glo "_law_names_hold", "_law_names_hold", "_law_names_hold", (top 42), [], false⟩
def d__law_shuffled : DF := ⟨.glo "_law_shuffled", "_law_shuffled", "_law_shuffled", (top 28), [], false⟩
def d__law_couples : DF := ⟨.glo "_law_couples", "_law_couples", "_law_couples", (top 32), [], false⟩
def d_closure_of : DF := ⟨.glo "closure_of", "closure_of", "closure_of", (top 20), [], false⟩
def d_has_ring : DF := ⟨.glo "has_ring", "has_ring", "has_ring", (top 21), [], false⟩
def d_BadRulesq_initq : DF := ⟨.met "BadRules" "__init__", "__init__", "BadRules.__init__", (meth 3 0), [], true⟩
def d_is_rule : DF := ⟨.glo "is_rule", "is_rule", "is_rule", (top 22), [], false⟩
def d_check_rules : DF := ⟨.glo "check_rules", "check_rules", "check_rules", (top 23), [], false⟩
def d__law_told : DF := ⟨.glo "_law_told", "_law_told", "_law_told", (top 34), [], false⟩
def d__law_no_role : DF := ⟨.glo "_law_no_role", "_law_no_role", "_law_no_role", (top 31), [], false⟩
def d__law_wrong : DF := ⟨.glo "_law_wrong", "_law_wrong", "_law_wrong", (top 33), [], false⟩
def d__law_reach : DF := ⟨.glo "_law_reach", "_law_reach", "_law_reach", (top 35), [], false⟩
def d_law : DF := ⟨.glo "law", "law", "law", (top 43), [], false⟩
def fs : List Pf := [
  fun K => freeB K "len",
  fun K => freeB K "int",
  fun K => globB K "_law_mixed",
  fun K => globB K "_law_take",
  fun K => freeB K "range",
  fun K => freeB K "list",
  fun K => freeB K "tuple",
  fun K => (He.Fa.str "LETTERS" "abcdefghijklmnopqrstuvwxyz").ok K,
  fun K => kitAB K [.type "list", .type "tuple"] [("NoneType", false), ("bool", false), ("int", false), ("str", false), ("tuple", true), ("list", true), ("dict", false)] [],
  fun K => freeB K "isinstance",
  fun K => (He.Fa.int "MOST_PARTS" (4)).ok K,
  fun K => kitOB K (.type "str") [("NoneType", false), ("bool", false), ("int", false), ("str", true), ("tuple", false), ("list", false), ("dict", false)] [],
  fun K => freeB K "str",
  fun K => (He.Fa.int "LONGEST_PART" (3)).ok K,
  fun K => globB K "has_letters",
  fun K => globB K "is_ending",
  fun K => exc0B K (He.ga K "BadEnding"),
  fun K => globB K "BadEnding",
  fun K => globB K "ending_from",
  fun K => globB K "TongueError",
  fun K => decide (PySem.W.exmOne K (.ref (He.ga K "TongueError")) (.ref (He.ga K "TongueError")) = some true),
  fun K => decide (PySem.W.exmOne K (.ref (He.ga K "BadEnding")) (.ref (He.ga K "TongueError")) = some true),
  fun K => globB K "BadRules",
  fun K => decide (PySem.W.exmOne K (.ref (He.ga K "BadRules")) (.ref (He.ga K "TongueError")) = some true),
  fun K => globB K "BadPattern",
  fun K => decide (PySem.W.exmOne K (.ref (He.ga K "BadPattern")) (.ref (He.ga K "TongueError")) = some true),
  fun K => globB K "BadText",
  fun K => decide (PySem.W.exmOne K (.ref (He.ga K "BadText")) (.ref (He.ga K "TongueError")) = some true),
  fun K => excCB K (He.ga K "TongueError"),
  fun K => decide (PySem.W.kitOne K (.ref (He.ga K "TongueError")) (.ref (He.ga K "BadEnding")) = some false),
  fun K => excCB K (He.ga K "BadEnding"),
  fun K => decide (PySem.W.kitOne K (.ref (He.ga K "BadEnding")) (.ref (He.ga K "BadEnding")) = some true),
  fun K => excCB K (He.ga K "BadRules"),
  fun K => decide (PySem.W.kitOne K (.ref (He.ga K "BadRules")) (.ref (He.ga K "BadEnding")) = some false),
  fun K => excCB K (He.ga K "BadPattern"),
  fun K => decide (PySem.W.kitOne K (.ref (He.ga K "BadPattern")) (.ref (He.ga K "BadEnding")) = some false),
  fun K => excCB K (He.ga K "BadText"),
  fun K => decide (PySem.W.kitOne K (.ref (He.ga K "BadText")) (.ref (He.ga K "BadEnding")) = some false),
  fun K => decide (PySem.W.kitOne K (.ref (He.ga K "TongueError")) (.type "ValueError") = some true),
  fun K => decide (PySem.W.kitOne K (.ref (He.ga K "BadEnding")) (.type "ValueError") = some true),
  fun K => decide (PySem.W.kitOne K (.ref (He.ga K "BadRules")) (.type "ValueError") = some true),
  fun K => decide (PySem.W.kitOne K (.ref (He.ga K "BadPattern")) (.type "ValueError") = some true),
  fun K => decide (PySem.W.kitOne K (.ref (He.ga K "BadText")) (.type "ValueError") = some true),
  fun K => freeB K "ValueError",
  fun K => decide (PySem.W.kitOne K (.ref (He.ga K "TongueError")) (.ref (He.ga K "BadText")) = some false),
  fun K => decide (PySem.W.kitOne K (.ref (He.ga K "BadEnding")) (.ref (He.ga K "BadText")) = some false),
  fun K => decide (PySem.W.kitOne K (.ref (He.ga K "BadRules")) (.ref (He.ga K "BadText")) = some false),
  fun K => decide (PySem.W.kitOne K (.ref (He.ga K "BadPattern")) (.ref (He.ga K "BadText")) = some false),
  fun K => decide (PySem.W.kitOne K (.ref (He.ga K "BadText")) (.ref (He.ga K "BadText")) = some true),
  fun K => globB K "_law_all_letters",
  fun K => globB K "_law_text",
  fun K => globB K "_law_as_list",
  fun K => globB K "_law_is_part",
  fun K => freeB K "repr",
  fun K => kitOB K (.type "bool") [("NoneType", false), ("bool", true), ("int", false), ("str", false), ("tuple", false), ("list", false), ("dict", false)] [],
  fun K => freeB K "bool",
  fun K => globB K "_law_told_ending",
  fun K => kitOB K (.type "tuple") [("NoneType", false), ("bool", false), ("int", false), ("str", false), ("tuple", true), ("list", false), ("dict", false)] [],
  fun K => kitOB K (.type "int") [("NoneType", false), ("bool", true), ("int", true), ("str", false), ("tuple", false), ("list", false), ("dict", false)] [],
  fun K => globB K "NUMBERS",
  fun K => He.tupB K "NUMBERS" ((["one", "many"] : List Str).map He.Dv.str),
  fun K => globB K "number_rank",
  fun K => globB K "_law_thing",
  fun K => globB K "_law_is_int",
  fun K => globB K "is_whole",
  fun K => globB K "is_name",
  fun K => globB K "is_number",
  fun K => globB K "_law_endings_hold",
  fun K => globB K "_law_shuffled",
  fun K => freeB K "sorted",
  fun K => globB K "closure_of",
  fun K => supB P0 K ((d_BadRulesq_initq).at_.ad K) (He.ga K "BadRules"),
  fun K => decide (PySem.W.findIn K (.ref (He.ga K "BadRules")) "index" = some none),
  fun K => decide (PySem.W.findIn K (.ref (He.ga K "BadRules")) "what" = some none),
  fun K => supCB K (He.ga K "BadRules"),
  fun K => freeB K "super",
  fun K => decide (PySem.W.nsIn K cStatics "thirdparty.any" = some none),
  fun K => (He.Fa.int "MOST_RULES" (30)).ok K,
  fun K => initB K (He.ga K "BadRules") ((Pa.met "BadRules" "__init__").ad K),
  fun K => oexB K (He.ga K "BadRules"),
  fun K => globB K "is_rule",
  fun K => globB K "has_ring",
  fun K => globB K "check_rules",
  fun K => decide (PySem.W.kitOne K (.ref (He.ga K "TongueError")) (.ref (He.ga K "BadRules")) = some false),
  fun K => decide (PySem.W.kitOne K (.ref (He.ga K "BadEnding")) (.ref (He.ga K "BadRules")) = some false),
  fun K => decide (PySem.W.kitOne K (.ref (He.ga K "BadRules")) (.ref (He.ga K "BadRules")) = some true),
  fun K => decide (PySem.W.kitOne K (.ref (He.ga K "BadPattern")) (.ref (He.ga K "BadRules")) = some false),
  fun K => decide (PySem.W.kitOne K (.ref (He.ga K "BadText")) (.ref (He.ga K "BadRules")) = some false),
  fun K => decide (PySem.W.kitOne K (.ref (He.ga K "TongueError")) (.ref (He.ga K "BadPattern")) = some false),
  fun K => decide (PySem.W.kitOne K (.ref (He.ga K "BadEnding")) (.ref (He.ga K "BadPattern")) = some false),
  fun K => decide (PySem.W.kitOne K (.ref (He.ga K "BadRules")) (.ref (He.ga K "BadPattern")) = some false),
  fun K => decide (PySem.W.kitOne K (.ref (He.ga K "BadPattern")) (.ref (He.ga K "BadPattern")) = some true),
  fun K => decide (PySem.W.kitOne K (.ref (He.ga K "BadText")) (.ref (He.ga K "BadPattern")) = some false),
  fun K => decide (PySem.W.findIn K (.ref (He.ga K "BadPattern")) "index" = some none),
  fun K => decide (PySem.W.findIn K (.ref (He.ga K "BadPattern")) "what" = some none),
  fun K => decide (PySem.W.findIn K (.ref (He.ga K "BadText")) "what" = some none),
  fun K => globB K "_law_no_role",
  fun K => globB K "_law_hand",
  fun K => globB K "_law_names_hold",
  fun K => globB K "_law_couples",
  fun K => globB K "_law_reach",
  fun K => globB K "_law_wrong",
  fun K => globB K "_law_told",
  fun K => freeB K "set",
  fun K => globB K "law"]
def ds : List DF := [d__law_hand, d__law_mixed, d__law_take, d__law_text, d__law_as_list, d_has_letters, d_is_ending, d_ending_from, d__law_told_ending, d__law_all_letters, d__law_is_part, d__law_endings_hold, d__law_thing, d_is_whole, d_is_name, d_number_rank, d__law_is_int, d_is_number, d__law_names_hold, d__law_shuffled, d__law_couples, d_closure_of, d_has_ring, d_BadRulesq_initq, d_is_rule, d_check_rules, d__law_told, d__law_no_role, d__law_wrong, d__law_reach, d_law]
theorem l0 {K : PySem.W.Frag} {mg : Str → Option Value} (T : Tx fs ds K mg) : IsiOk K mg (fun t => PySem.W.kitAny K t [.type "list", .type "tuple"]) [("NoneType", false), ("bool", false), ("int", false), ("str", false), ("tuple", true), ("list", true), ("dict", false)] [] := isi_ofT (T.c.fact (i := 8) rfl) (by
  intro p hp
  cases hp)

theorem l1 {K : PySem.W.Frag} {mg : Str → Option Value} (T : Tx fs ds K mg) : IsiOk K mg (fun t => PySem.W.kitOne K t (.type "str")) [("NoneType", false), ("bool", false), ("int", false), ("str", true), ("tuple", false), ("list", false), ("dict", false)] [] := isi_of (T.c.fact (i := 11) rfl) (by
  intro p hp
  cases hp)

theorem l2 {K : PySem.W.Frag} {mg : Str → Option Value} (T : Tx fs ds K mg) : ∀ p ∈ ([("TongueError", true), ("BadEnding", true), ("BadRules", true), ("BadPattern", true), ("BadText", true)] : List (Str × Bool)), ∃ C, mg p.1 = some (.ref C) ∧ PySem.W.exmOne K (.ref C) (.ref (He.ga K "TongueError")) = some p.2 := by
  intro p hp
  simp only [List.mem_cons, List.not_mem_nil, or_false] at hp
  rcases hp with rfl | rfl | rfl | rfl | rfl
  · exact ⟨_, (T.glo 19 rfl), of_decide_eq_true (T.c.fact (i := 20) rfl)⟩
  · exact ⟨_, (T.glo 17 rfl), of_decide_eq_true (T.c.fact (i := 21) rfl)⟩
  · exact ⟨_, (T.glo 22 rfl), of_decide_eq_true (T.c.fact (i := 23) rfl)⟩
  · exact ⟨_, (T.glo 24 rfl), of_decide_eq_true (T.c.fact (i := 25) rfl)⟩
  · exact ⟨_, (T.glo 26 rfl), of_decide_eq_true (T.c.fact (i := 27) rfl)⟩

theorem l3 {K : PySem.W.Frag} {mg : Str → Option Value} (T : Tx fs ds K mg) : ∀ p ∈ ([("TongueError", false), ("BadEnding", true), ("BadRules", false), ("BadPattern", false), ("BadText", false)] : List (Str × Bool)), ∃ D, mg p.1 = some (.ref D) ∧ ExcC K D ∧ PySem.W.kitOne K (.ref D) (.ref (He.ga K "BadEnding")) = some p.2 := by
  intro p hp
  simp only [List.mem_cons, List.not_mem_nil, or_false] at hp
  rcases hp with rfl | rfl | rfl | rfl | rfl
  · exact ⟨_, (T.glo 19 rfl), (excCB_ok (T.c.fact (i := 28) rfl)).1, of_decide_eq_true (T.c.fact (i := 29) rfl)⟩
  · exact ⟨_, (T.glo 17 rfl), (excCB_ok (T.c.fact (i := 30) rfl)).1, of_decide_eq_true (T.c.fact (i := 31) rfl)⟩
  · exact ⟨_, (T.glo 22 rfl), (excCB_ok (T.c.fact (i := 32) rfl)).1, of_decide_eq_true (T.c.fact (i := 33) rfl)⟩
  · exact ⟨_, (T.glo 24 rfl), (excCB_ok (T.c.fact (i := 34) rfl)).1, of_decide_eq_true (T.c.fact (i := 35) rfl)⟩
  · exact ⟨_, (T.glo 26 rfl), (excCB_ok (T.c.fact (i := 36) rfl)).1, of_decide_eq_true (T.c.fact (i := 37) rfl)⟩

theorem l4 {K : PySem.W.Frag} {mg : Str → Option Value} (T : Tx fs ds K mg) : ∀ p ∈ ([("TongueError", true), ("BadEnding", true), ("BadRules", true), ("BadPattern", true), ("BadText", true)] : List (Str × Bool)), ∃ D, mg p.1 = some (.ref D) ∧ ExcC K D ∧ PySem.W.kitOne K (.ref D) (.type "ValueError") = some p.2 := by
  intro p hp
  simp only [List.mem_cons, List.not_mem_nil, or_false] at hp
  rcases hp with rfl | rfl | rfl | rfl | rfl
  · exact ⟨_, (T.glo 19 rfl), (excCB_ok (T.c.fact (i := 28) rfl)).1, of_decide_eq_true (T.c.fact (i := 38) rfl)⟩
  · exact ⟨_, (T.glo 17 rfl), (excCB_ok (T.c.fact (i := 30) rfl)).1, of_decide_eq_true (T.c.fact (i := 39) rfl)⟩
  · exact ⟨_, (T.glo 22 rfl), (excCB_ok (T.c.fact (i := 32) rfl)).1, of_decide_eq_true (T.c.fact (i := 40) rfl)⟩
  · exact ⟨_, (T.glo 24 rfl), (excCB_ok (T.c.fact (i := 34) rfl)).1, of_decide_eq_true (T.c.fact (i := 41) rfl)⟩
  · exact ⟨_, (T.glo 26 rfl), (excCB_ok (T.c.fact (i := 36) rfl)).1, of_decide_eq_true (T.c.fact (i := 42) rfl)⟩

theorem l5 {K : PySem.W.Frag} {mg : Str → Option Value} (T : Tx fs ds K mg) : ∀ p ∈ ([("TongueError", false), ("BadEnding", false), ("BadRules", false), ("BadPattern", false), ("BadText", true)] : List (Str × Bool)), ∃ D, mg p.1 = some (.ref D) ∧ ExcC K D ∧ PySem.W.kitOne K (.ref D) (.ref (He.ga K "BadText")) = some p.2 := by
  intro p hp
  simp only [List.mem_cons, List.not_mem_nil, or_false] at hp
  rcases hp with rfl | rfl | rfl | rfl | rfl
  · exact ⟨_, (T.glo 19 rfl), (excCB_ok (T.c.fact (i := 28) rfl)).1, of_decide_eq_true (T.c.fact (i := 44) rfl)⟩
  · exact ⟨_, (T.glo 17 rfl), (excCB_ok (T.c.fact (i := 30) rfl)).1, of_decide_eq_true (T.c.fact (i := 45) rfl)⟩
  · exact ⟨_, (T.glo 22 rfl), (excCB_ok (T.c.fact (i := 32) rfl)).1, of_decide_eq_true (T.c.fact (i := 46) rfl)⟩
  · exact ⟨_, (T.glo 24 rfl), (excCB_ok (T.c.fact (i := 34) rfl)).1, of_decide_eq_true (T.c.fact (i := 47) rfl)⟩
  · exact ⟨_, (T.glo 26 rfl), (excCB_ok (T.c.fact (i := 36) rfl)).1, of_decide_eq_true (T.c.fact (i := 48) rfl)⟩

theorem l6 {K : PySem.W.Frag} {mg : Str → Option Value} (T : Tx fs ds K mg) : IsiOk K mg (fun t => PySem.W.kitOne K t (.type "bool")) [("NoneType", false), ("bool", true), ("int", false), ("str", false), ("tuple", false), ("list", false), ("dict", false)] [] := isi_of (T.c.fact (i := 54) rfl) (by
  intro p hp
  cases hp)

theorem l7 {K : PySem.W.Frag} {mg : Str → Option Value} (T : Tx fs ds K mg) : IsiOk K mg (fun t => PySem.W.kitOne K t (.type "tuple")) [("NoneType", false), ("bool", false), ("int", false), ("str", false), ("tuple", true), ("list", false), ("dict", false)] [] := isi_of (T.c.fact (i := 57) rfl) (by
  intro p hp
  cases hp)

theorem l8 {K : PySem.W.Frag} {mg : Str → Option Value} (T : Tx fs ds K mg) : IsiOk K mg (fun t => PySem.W.kitOne K t (.type "int")) [("NoneType", false), ("bool", true), ("int", true), ("str", false), ("tuple", false), ("list", false), ("dict", false)] [] := isi_of (T.c.fact (i := 58) rfl) (by
  intro p hp
  cases hp)

theorem l9 {K : PySem.W.Frag} {mg : Str → Option Value} (T : Tx fs ds K mg) : ∀ p ∈ ([("TongueError", false), ("BadEnding", false), ("BadRules", true), ("BadPattern", false), ("BadText", false)] : List (Str × Bool)), ∃ D, mg p.1 = some (.ref D) ∧ ExcC K D ∧ PySem.W.kitOne K (.ref D) (.ref (He.ga K "BadRules")) = some p.2 := by
  intro p hp
  simp only [List.mem_cons, List.not_mem_nil, or_false] at hp
  rcases hp with rfl | rfl | rfl | rfl | rfl
  · exact ⟨_, (T.glo 19 rfl), (excCB_ok (T.c.fact (i := 28) rfl)).1, of_decide_eq_true (T.c.fact (i := 83) rfl)⟩
  · exact ⟨_, (T.glo 17 rfl), (excCB_ok (T.c.fact (i := 30) rfl)).1, of_decide_eq_true (T.c.fact (i := 84) rfl)⟩
  · exact ⟨_, (T.glo 22 rfl), (excCB_ok (T.c.fact (i := 32) rfl)).1, of_decide_eq_true (T.c.fact (i := 85) rfl)⟩
  · exact ⟨_, (T.glo 24 rfl), (excCB_ok (T.c.fact (i := 34) rfl)).1, of_decide_eq_true (T.c.fact (i := 86) rfl)⟩
  · exact ⟨_, (T.glo 26 rfl), (excCB_ok (T.c.fact (i := 36) rfl)).1, of_decide_eq_true (T.c.fact (i := 87) rfl)⟩

theorem l10 {K : PySem.W.Frag} {mg : Str → Option Value} (T : Tx fs ds K mg) : ∀ p ∈ ([("TongueError", false), ("BadEnding", false), ("BadRules", false), ("BadPattern", true), ("BadText", false)] : List (Str × Bool)), ∃ D, mg p.1 = some (.ref D) ∧ ExcC K D ∧ PySem.W.kitOne K (.ref D) (.ref (He.ga K "BadPattern")) = some p.2 := by
  intro p hp
  simp only [List.mem_cons, List.not_mem_nil, or_false] at hp
  rcases hp with rfl | rfl | rfl | rfl | rfl
  · exact ⟨_, (T.glo 19 rfl), (excCB_ok (T.c.fact (i := 28) rfl)).1, of_decide_eq_true (T.c.fact (i := 88) rfl)⟩
  · exact ⟨_, (T.glo 17 rfl), (excCB_ok (T.c.fact (i := 30) rfl)).1, of_decide_eq_true (T.c.fact (i := 89) rfl)⟩
  · exact ⟨_, (T.glo 22 rfl), (excCB_ok (T.c.fact (i := 32) rfl)).1, of_decide_eq_true (T.c.fact (i := 90) rfl)⟩
  · exact ⟨_, (T.glo 24 rfl), (excCB_ok (T.c.fact (i := 34) rfl)).1, of_decide_eq_true (T.c.fact (i := 91) rfl)⟩
  · exact ⟨_, (T.glo 26 rfl), (excCB_ok (T.c.fact (i := 36) rfl)).1, of_decide_eq_true (T.c.fact (i := 92) rfl)⟩

theorem l11 {K : PySem.W.Frag} {mg : Str → Option Value} (T : Tx fs ds K mg) : ∀ c ∈ (["BadRules", "BadPattern"] : List Str), ∃ D, mg c = some (.ref D) ∧ XfC K D ∧ PySem.W.findIn K (.ref D) "index" = some none := by
  intro c hc
  simp only [List.mem_cons, List.not_mem_nil, or_false] at hc
  rcases hc with rfl | rfl
  · exact ⟨_, (T.glo 22 rfl), (excCB_ok (T.c.fact (i := 32) rfl)).2, of_decide_eq_true (T.c.fact (i := 72) rfl)⟩
  · exact ⟨_, (T.glo 24 rfl), (excCB_ok (T.c.fact (i := 34) rfl)).2, of_decide_eq_true (T.c.fact (i := 93) rfl)⟩

theorem l12 {K : PySem.W.Frag} {mg : Str → Option Value} (T : Tx fs ds K mg) : ∀ c ∈ (["BadRules", "BadPattern", "BadText"] : List Str), ∃ D, mg c = some (.ref D) ∧ XfC K D ∧ PySem.W.findIn K (.ref D) "what" = some none := by
  intro c hc
  simp only [List.mem_cons, List.not_mem_nil, or_false] at hc
  rcases hc with rfl | rfl | rfl
  · exact ⟨_, (T.glo 22 rfl), (excCB_ok (T.c.fact (i := 32) rfl)).2, of_decide_eq_true (T.c.fact (i := 73) rfl)⟩
  · exact ⟨_, (T.glo 24 rfl), (excCB_ok (T.c.fact (i := 34) rfl)).2, of_decide_eq_true (T.c.fact (i := 94) rfl)⟩
  · exact ⟨_, (T.glo 26 rfl), (excCB_ok (T.c.fact (i := 36) rfl)).2, of_decide_eq_true (T.c.fact (i := 95) rfl)⟩

/-! #### _law_hand -/
def g__law_hand : SSem := (sQ (sA 1 (eOp addD (eU lenD (eN 0)) (eC (.int 31))))
  (sQ (sA 2 (eLst []))
  (sQ (sFor (eN 0) (tgN 3) (sQ (sA 1 (eOp modD (eU intD (eOp addD (eOp mulD (eN 1) (eC (.int 1019))) (eU intD (eN 3)))) (eC (.int 2147483629))))
  (sE (eMut 2 appM [(eIf (cB (eOp geD (eN 3) (eC (.int 0)))) (eU intD (eN 3)) (eNeg (eU intD (eN 3))))]))))
  (sR (eLst [(eN 2), (eC (.int 0)), (eC (.int 0)), (eN 1)])))))
def m__law_hand : FSem := runB g__law_hand 4
theorem sc__law_hand : FnScope ["_law_script", "_law_total", "_law_cells", "_law_cell"] ["_law_script"] (defScope (d__law_hand).st) := ⟨rfl, rfl, rfl, by decide +kernel, rfl, by decide +kernel, by decide +kernel⟩
theorem ok__law_hand {w : World} {K : PySem.W.Frag} {mg : Str → Option Value} (T : Tx fs ds K mg) : ∃ fd, (∀ base : Heap, FnOk P0 w K mg base (L2.CX P0 w) 1 ((d__law_hand).at_.ad K) fd ["_law_script"] (spOf ⟨K, mg, I0⟩ 1 m__law_hand)) ∧ PySem.W.keepIn K (.ref ((d__law_hand).at_.ad K)) = true ∧ (Binds K fd ["_law_script"] []) := by
  obtain ⟨e, c⟩ := T.c.at_ (i := 0) (d := d__law_hand) rfl
  obtain ⟨fd, F⟩ := DF.funD (d := d__law_hand) rfl e c
  have SC := sc__law_hand
  refine ⟨fd, fun base => ?_, F.kp, F.bindsN fun _ _ _ _ _ _ us hl => match us, hl with | [_], _ => rfl⟩
  refine fn_dataD F SC fun cdv A outer s H E hr tk => ?_
  exact (sss_cons (ss_set (i := 1) SC.nd rfl (by first | exact Or.inl rfl | exact Or.inr rfl) (k_add (k_len (T.free 0 rfl) (se_name (pv 0))) se_int))
  (sss_cons (ss_set (i := 2) SC.nd rfl (by first | exact Or.inl rfl | exact Or.inr rfl) (se_lst sl_nil))
  (sss_cons (ss_for (passes_of rfl) rfl (se_name (pv 0)) (st_name (pg_name (i := 3) SC.nd rfl (by first | exact Or.inl rfl | exact Or.inr rfl))) (sss_cons (ss_set (i := 1) SC.nd rfl (by first | exact Or.inl rfl | exact Or.inr rfl) (k_mod (k_int (T.free 1 rfl) (k_add (k_mul (se_name (pv 1)) se_int) (k_int (T.free 1 rfl) (se_name (pv 3))))) se_int))
  (sss_one (ss_expr (k_append (pv 2) (se_if (q_ge (se_name (pv 3)) se_int) (k_int (T.free 1 rfl) (se_name (pv 3))) (se_neg (k_int (T.free 1 rfl) (se_name (pv 3))))))))))
  (sss_one (ss_ret (se_lst (sl_cons (se_name (pv 2)) (sl_cons se_int (sl_cons se_int (sl_cons (se_name (pv 1)) sl_nil))))))))))
/-! #### _law_mixed -/
def g__law_mixed : SSem := (sQ (sA 2 (eOp modD (eU intD (eOp addD (eOp addD (eOp mulD (eN 0) (eC (.int 48271))) (eOp mulD (eN 1) (eC (.int 7919)))) (eC (.int 65537)))) (eC (.int 2147483647))))
  (sQ (sA 3 (eOp modD (eU intD (eOp addD (eOp addD (eOp mulD (eN 2) (eN 2)) (eOp mulD (eN 1) (eC (.int 104729)))) (eOp divD (eN 2) (eC (.int 127))))) (eC (.int 2147483629))))
  (sR (eOp divD (eU intD (eOp modD (eU intD (eOp addD (eOp mulD (eN 3) (eC (.int 69621))) (eOp divD (eN 2) (eC (.int 5))))) (eC (.int 2147483587)))) (eC (.int 16))))))
def m__law_mixed : FSem := runB g__law_mixed 4
theorem sc__law_mixed : FnScope ["_law_number", "_law_turn", "_law_once", "_law_twice"] ["_law_number", "_law_turn"] (defScope (d__law_mixed).st) := ⟨rfl, rfl, rfl, by decide +kernel, rfl, by decide +kernel, by decide +kernel⟩
theorem ok__law_mixed {w : World} {K : PySem.W.Frag} {mg : Str → Option Value} (T : Tx fs ds K mg) : ∃ fd, (∀ base : Heap, FnOk P0 w K mg base (L2.CX P0 w) 1 ((d__law_mixed).at_.ad K) fd ["_law_number", "_law_turn"] (spOf ⟨K, mg, I0⟩ 2 m__law_mixed)) ∧ PySem.W.keepIn K (.ref ((d__law_mixed).at_.ad K)) = true ∧ (Binds K fd ["_law_number", "_law_turn"] []) := by
  obtain ⟨e, c⟩ := T.c.at_ (i := 1) (d := d__law_mixed) rfl
  obtain ⟨fd, F⟩ := DF.funD (d := d__law_mixed) rfl e c
  have SC := sc__law_mixed
  refine ⟨fd, fun base => ?_, F.kp, F.bindsN fun _ _ _ _ _ _ us hl => match us, hl with | [_, _], _ => rfl⟩
  refine fn_dataD F SC fun cdv A outer s H E hr tk => ?_
  exact (sss_cons (ss_set (i := 2) SC.nd rfl (by first | exact Or.inl rfl | exact Or.inr rfl) (k_mod (k_int (T.free 1 rfl) (k_add (k_add (k_mul (se_name (pv 0)) se_int) (k_mul (se_name (pv 1)) se_int)) se_int)) se_int))
  (sss_cons (ss_set (i := 3) SC.nd rfl (by first | exact Or.inl rfl | exact Or.inr rfl) (k_mod (k_int (T.free 1 rfl) (k_add (k_add (k_mul (se_name (pv 2)) (se_name (pv 2))) (k_mul (se_name (pv 1)) se_int)) (k_div (se_name (pv 2)) se_int))) se_int))
  (sss_one (ss_ret (k_div (k_int (T.free 1 rfl) (k_mod (k_int (T.free 1 rfl) (k_add (k_mul (se_name (pv 3)) se_int) (k_div (se_name (pv 2)) se_int))) se_int)) se_int)))))
/-! #### _law_take -/
def g__law_take : SSem := (sQ (sIf (cAnd (cB (eOp eqD (eOp idxD (eN 0) (eC (.int 2))) (eC (.int 0)))) (cB (eOp ltD (eOp idxD (eN 0) (eC (.int 1))) (eU lenD (eOp idxD (eN 0) (eC (.int 0))))))) (sQ (sA 2 (eOp idxD (eOp idxD (eN 0) (eC (.int 0))) (eOp idxD (eN 0) (eC (.int 1)))))
  (sQ (sIA 0 (eC (.int 1)) (eOp addD (eOp idxD (eN 0) (eC (.int 1))) (eC (.int 1))))
  (sQ (sIf (cB (eOp ltD (eN 2) (eOp powD (eC (.int 10)) (eC (.int 18))))) (sR (eOp modD (eU intD (eCallD m__law_mixed [] [(eOp modD (eU intD (eN 2)) (eC (.int 2147483647))), (eOp idxD (eN 0) (eC (.int 1)))])) (eN 1))) sN)
  (sIA 0 (eC (.int 2)) (eN 2))))) sN)
  (sQ (sIf (cB (eOp gtD (eOp idxD (eN 0) (eC (.int 2))) (eC (.int 0)))) (sQ (sA 3 (eOp idxD (eN 0) (eC (.int 2))))
  (sQ (sIA 0 (eC (.int 2)) (eOp divD (eU intD (eN 3)) (eN 1)))
  (sR (eOp modD (eU intD (eN 3)) (eN 1))))) sN)
  (sQ (sIA 0 (eC (.int 3)) (eOp modD (eU intD (eOp addD (eOp idxD (eN 0) (eC (.int 3))) (eC (.int 1)))) (eC (.int 2147483629))))
  (sR (eOp modD (eU intD (eCallD m__law_mixed [] [(eOp idxD (eN 0) (eC (.int 3))), (eOp idxD (eN 0) (eC (.int 1)))])) (eN 1))))))
def m__law_take : FSem := runB g__law_take 4
theorem sc__law_take : FnScope ["_law_hand_here", "_law_many", "_law_cell", "_law_rest"] ["_law_hand_here", "_law_many"] (defScope (d__law_take).st) := ⟨rfl, rfl, rfl, by decide +kernel, rfl, by decide +kernel, by decide +kernel⟩
theorem ok__law_take {w : World} {K : PySem.W.Frag} {mg : Str → Option Value} (T : Tx fs ds K mg) : ∃ fd, (∀ base : Heap, FnOk P0 w K mg base (L2.CX P0 w) 2 ((d__law_take).at_.ad K) fd ["_law_hand_here", "_law_many"] (spOf ⟨K, mg, I0⟩ 2 m__law_take)) ∧ PySem.W.keepIn K (.ref ((d__law_take).at_.ad K)) = true ∧ (Binds K fd ["_law_hand_here", "_law_many"] []) := by
  obtain ⟨e, c⟩ := T.c.at_ (i := 2) (d := d__law_take) rfl
  obtain ⟨fd, F⟩ := DF.funD (d := d__law_take) rfl e c
  obtain ⟨fd__law_mixed, Ga__law_mixed, k__law_mixed, B__law_mixed⟩ := ok__law_mixed (w := w) T
  have SC := sc__law_take
  refine ⟨fd, fun base => ?_, F.kp, F.bindsN fun _ _ _ _ _ _ us hl => match us, hl with | [_, _], _ => rfl⟩
  have G__law_mixed := Ga__law_mixed base
  refine fn_dataD F SC fun cdv A outer s H E hr tk => ?_
  exact (sss_cons (ss_if (SW.sc (sw_and (q_eq (u65 hr) (se_idx (se_name (pv 0)) se_int (fun _ _ => rfl)) se_int) (sw_and1 (q_lt (se_idx (se_name (pv 0)) se_int (fun _ _ => rfl)) (k_len (T.free 0 rfl) (se_idx (se_name (pv 0)) se_int (fun _ _ => rfl))))))) (sss_cons (ss_set (i := 2) SC.nd rfl (by first | exact Or.inl rfl | exact Or.inr rfl) (se_idx (se_idx (se_name (pv 0)) se_int (fun _ _ => rfl)) (se_idx (se_name (pv 0)) se_int (fun _ _ => rfl)) (fun _ _ => rfl)))
  (sss_cons (ss_itemA (u1_of (u65 hr)) (pv 0) (k_add (se_idx (se_name (pv 0)) se_int (fun _ _ => rfl)) se_int) se_int)
  (sss_cons (ss_if (q_lt (se_name (pv 2)) (k_pow se_int se_int)) (sss_one (ss_ret (k_mod (k_int (T.free 1 rfl) (se_callD G__law_mixed (hr.mono (by decide)) rfl (T.glo 2 rfl) k__law_mixed B__law_mixed .nil (fun _ => .nil) tk (sa_cons (k_mod (k_int (T.free 1 rfl) (se_name (pv 2))) se_int) (sa_cons (se_idx (se_name (pv 0)) se_int (fun _ _ => rfl)) sa_nil)) rfl)) (se_name (pv 1))))) sss_nil)
  (sss_one (ss_itemA (u1_of (u65 hr)) (pv 0) (se_name (pv 2)) se_int))))) sss_nil)
  (sss_cons (ss_if (q_gt (se_idx (se_name (pv 0)) se_int (fun _ _ => rfl)) se_int) (sss_cons (ss_set (i := 3) SC.nd rfl (by first | exact Or.inl rfl | exact Or.inr rfl) (se_idx (se_name (pv 0)) se_int (fun _ _ => rfl)))
  (sss_cons (ss_itemA (u1_of (u65 hr)) (pv 0) (k_div (k_int (T.free 1 rfl) (se_name (pv 3))) (se_name (pv 1))) se_int)
  (sss_one (ss_ret (k_mod (k_int (T.free 1 rfl) (se_name (pv 3))) (se_name (pv 1))))))) sss_nil)
  (sss_cons (ss_itemA (u1_of (u65 hr)) (pv 0) (k_mod (k_int (T.free 1 rfl) (k_add (se_idx (se_name (pv 0)) se_int (fun _ _ => rfl)) se_int)) se_int) se_int)
  (sss_one (ss_ret (k_mod (k_int (T.free 1 rfl) (se_callD G__law_mixed (hr.mono (by decide)) rfl (T.glo 2 rfl) k__law_mixed B__law_mixed .nil (fun _ => .nil) tk (sa_cons (se_idx (se_name (pv 0)) se_int (fun _ _ => rfl)) (sa_cons (se_idx (se_name (pv 0)) se_int (fun _ _ => rfl)) sa_nil)) rfl)) (se_name (pv 1))))))))
/-! #### _law_text -/
def g__law_text : SSem := (sQ (sA 2 (eLst []))
  (sQ (sForR rngOf1 [(eCallD m__law_take [] [(eN 0), (eOp addD (eN 1) (eC (.int 1)))])] (tgN 3) (sIf (cB (eOp eqD (eCallD m__law_take [] [(eN 0), (eC (.int 12))]) (eC (.int 0)))) (sE (eMut 2 appM [(eOp idxD (eTup [(eC (.str "A")), (eC (.str "Z")), (eC (.str "1")), (eC (.str "_")), (eC (.str "-")), (eC (.str " ")), (eC (.str ".")), (eC (.str "{"))]) (eCallD m__law_take [] [(eN 0), (eC (.int 8))]))])) (sE (eMut 2 appM [(eOp idxD (eC (.str "abcdefghijklmnopqrstuvwxyz")) (eCallD m__law_take [] [(eN 0), (eC (.int 26))]))]))))
  (sR (eU (joinD "") (eN 2)))))
def m__law_text : FSem := runB g__law_text 4
theorem sc__law_text : FnScope ["_law_hand_here", "_law_longest", "_law_signs", "_law_k"] ["_law_hand_here", "_law_longest"] (defScope (d__law_text).st) := ⟨rfl, rfl, rfl, by decide +kernel, rfl, by decide +kernel, by decide +kernel⟩
theorem ok__law_text {w : World} {K : PySem.W.Frag} {mg : Str → Option Value} (T : Tx fs ds K mg) : ∃ fd, (∀ base : Heap, FnOk P0 w K mg base (L2.CX P0 w) 3 ((d__law_text).at_.ad K) fd ["_law_hand_here", "_law_longest"] (spOf ⟨K, mg, I0⟩ 2 m__law_text)) ∧ PySem.W.keepIn K (.ref ((d__law_text).at_.ad K)) = true ∧ (Binds K fd ["_law_hand_here", "_law_longest"] []) := by
  obtain ⟨e, c⟩ := T.c.at_ (i := 3) (d := d__law_text) rfl
  obtain ⟨fd, F⟩ := DF.funD (d := d__law_text) rfl e c
  obtain ⟨fd__law_take, Ga__law_take, k__law_take, B__law_take⟩ := ok__law_take (w := w) T
  have SC := sc__law_text
  refine ⟨fd, fun base => ?_, F.kp, F.bindsN fun _ _ _ _ _ _ us hl => match us, hl with | [_, _], _ => rfl⟩
  have G__law_take := Ga__law_take base
  refine fn_dataD F SC fun cdv A outer s H E hr tk => ?_
  exact (sss_cons (ss_set (i := 2) SC.nd rfl (by first | exact Or.inl rfl | exact Or.inr rfl) (se_lst sl_nil))
  (sss_cons (ss_for1 (passes_of rfl) rfl rfl (T.free 4 rfl) (sl_cons (se_callD G__law_take (hr.mono (by decide)) rfl (T.glo 3 rfl) k__law_take B__law_take .nil (fun _ => .nil) tk (sa_cons (se_name (pv 0)) (sa_cons (k_add (se_name (pv 1)) se_int) sa_nil)) rfl) sl_nil) (st_name (pg_name (i := 3) SC.nd rfl (by first | exact Or.inl rfl | exact Or.inr rfl))) (sss_one (ss_if (q_eq (u65 hr) (se_callD G__law_take (hr.mono (by decide)) rfl (T.glo 3 rfl) k__law_take B__law_take .nil (fun _ => .nil) tk (sa_cons (se_name (pv 0)) (sa_cons se_int sa_nil)) rfl) se_int) (sss_one (ss_expr (k_append (pv 2) (se_idx (se_tup (sl_cons se_str (sl_cons se_str (sl_cons se_str (sl_cons se_str (sl_cons se_str (sl_cons se_str (sl_cons se_str (sl_cons se_str sl_nil))))))))) (se_callD G__law_take (hr.mono (by decide)) rfl (T.glo 3 rfl) k__law_take B__law_take .nil (fun _ => .nil) tk (sa_cons (se_name (pv 0)) (sa_cons se_int sa_nil)) rfl) (fun _ _ => rfl))))) (sss_one (ss_expr (k_append (pv 2) (se_idx se_str (se_callD G__law_take (hr.mono (by decide)) rfl (T.glo 3 rfl) k__law_take B__law_take .nil (fun _ => .nil) tk (sa_cons (se_name (pv 0)) (sa_cons se_int sa_nil)) rfl) (fun _ _ => rfl))))))))
  (sss_one (ss_ret (se_join (se_name (pv 2)))))))
/-! #### _law_as_list -/
def g__law_as_list : SSem := (sR (eIf (cB (eOp eqD (eCallD m__law_take [] [(eN 0), (eC (.int 2))]) (eC (.int 0)))) (eU listD (eN 1)) (eU tupD (eN 1))))
def m__law_as_list : FSem := runB g__law_as_list 2
theorem sc__law_as_list : FnScope ["_law_hand_here", "_law_row"] ["_law_hand_here", "_law_row"] (defScope (d__law_as_list).st) := ⟨rfl, rfl, rfl, by decide +kernel, rfl, by decide +kernel, by decide +kernel⟩
theorem ok__law_as_list {w : World} {K : PySem.W.Frag} {mg : Str → Option Value} (T : Tx fs ds K mg) : ∃ fd, (∀ base : Heap, FnOk P0 w K mg base (L2.CX P0 w) 3 ((d__law_as_list).at_.ad K) fd ["_law_hand_here", "_law_row"] (spOf ⟨K, mg, I0⟩ 2 m__law_as_list)) ∧ PySem.W.keepIn K (.ref ((d__law_as_list).at_.ad K)) = true ∧ (Binds K fd ["_law_hand_here", "_law_row"] []) := by
  obtain ⟨e, c⟩ := T.c.at_ (i := 4) (d := d__law_as_list) rfl
  obtain ⟨fd, F⟩ := DF.funD (d := d__law_as_list) rfl e c
  obtain ⟨fd__law_take, Ga__law_take, k__law_take, B__law_take⟩ := ok__law_take (w := w) T
  have SC := sc__law_as_list
  refine ⟨fd, fun base => ?_, F.kp, F.bindsN fun _ _ _ _ _ _ us hl => match us, hl with | [_, _], _ => rfl⟩
  have G__law_take := Ga__law_take base
  refine fn_dataD F SC fun cdv A outer s H E hr tk => ?_
  exact (sss_one (ss_ret (se_if (q_eq (u65 hr) (se_callD G__law_take (hr.mono (by decide)) rfl (T.glo 3 rfl) k__law_take B__law_take .nil (fun _ => .nil) tk (sa_cons (se_name (pv 0)) (sa_cons se_int sa_nil)) rfl) se_int) (k_list (T.free 5 rfl) (se_name (pv 1))) (k_tuple (T.free 6 rfl) (se_name (pv 1))))))
/-! #### has_letters -/
def g_has_letters : SSem := (sQ (sFor (eN 0) (tgN 1) (sIf (cB (eOp ninA (eN 1) (eC (.str "abcdefghijklmnopqrstuvwxyz")))) (sR (eC (.bl false))) sN))
  (sR (eC (.bl true))))
def m_has_letters : FSem := runB g_has_letters 2
theorem sc_has_letters : FnScope ["text", "sign"] ["text"] (defScope (d_has_letters).st) := ⟨rfl, rfl, rfl, by decide +kernel, rfl, by decide +kernel, by decide +kernel⟩
theorem ok_has_letters {w : World} {K : PySem.W.Frag} {mg : Str → Option Value} (T : Tx fs ds K mg) : ∃ fd, (∀ base : Heap, FnOk P0 w K mg base (L2.CX P0 w) 1 ((d_has_letters).at_.ad K) fd ["text"] (spOf ⟨K, mg, I0⟩ 1 m_has_letters)) ∧ PySem.W.keepIn K (.ref ((d_has_letters).at_.ad K)) = true ∧ (Binds K fd ["text"] []) := by
  obtain ⟨e, c⟩ := T.c.at_ (i := 5) (d := d_has_letters) rfl
  obtain ⟨fd, F⟩ := DF.funD (d := d_has_letters) rfl e c
  have SC := sc_has_letters
  refine ⟨fd, fun base => ?_, F.kp, F.bindsN fun _ _ _ _ _ _ us hl => match us, hl with | [_], _ => rfl⟩
  refine fn_dataD F SC fun cdv A outer s H E hr tk => ?_
  exact (sss_cons (ss_for (passes_of rfl) rfl (se_name (pv 0)) (st_name (pg_name (i := 1) SC.nd rfl (by first | exact Or.inl rfl | exact Or.inr rfl))) (sss_one (ss_if (q_ninA (u65 hr) (se_name (pv 1)) (k_gstr (T.str 7 rfl))) (sss_one (ss_ret se_bl)) sss_nil)))
  (sss_one (ss_ret se_bl)))
/-! #### is_ending -/
def g_is_ending : SSem := (sQ (sIf (cOr (cNot (cT (eU (isiD [("NoneType", false), ("bool", false), ("int", false), ("str", false), ("tuple", true), ("list", true), ("dict", false)] []) (eN 0)))) (cNot (cB (eChain leD leD (eC (.int 1)) (eU lenD (eN 0)) (eC (.int (4))))))) (sR (eC (.bl false))) sN)
  (sQ (sFor (eN 0) (tgN 1) (sIf (cOr (cNot (cT (eU (isiD [("NoneType", false), ("bool", false), ("int", false), ("str", true), ("tuple", false), ("list", false), ("dict", false)] []) (eN 1)))) (cOr (cB (eOp gtD (eU lenD (eN 1)) (eC (.int (3))))) (cNot (cT (eCallD m_has_letters [] [(eN 1)]))))) (sR (eC (.bl false))) sN))
  (sR (eC (.bl true)))))
def m_is_ending : FSem := runB g_is_ending 2
theorem sc_is_ending : FnScope ["thing", "part"] ["thing"] (defScope (d_is_ending).st) := ⟨rfl, rfl, rfl, by decide +kernel, rfl, by decide +kernel, by decide +kernel⟩
theorem ok_is_ending {w : World} {K : PySem.W.Frag} {mg : Str → Option Value} (T : Tx fs ds K mg) : ∃ fd, (∀ base : Heap, FnOk P0 w K mg base (L2.CX P0 w) 2 ((d_is_ending).at_.ad K) fd ["thing"] (spOf ⟨K, mg, I0⟩ 1 m_is_ending)) ∧ PySem.W.keepIn K (.ref ((d_is_ending).at_.ad K)) = true ∧ (Binds K fd ["thing"] []) := by
  obtain ⟨e, c⟩ := T.c.at_ (i := 6) (d := d_is_ending) rfl
  obtain ⟨fd, F⟩ := DF.funD (d := d_is_ending) rfl e c
  obtain ⟨fd_has_letters, Ga_has_letters, k_has_letters, B_has_letters⟩ := ok_has_letters (w := w) T
  have SC := sc_is_ending
  refine ⟨fd, fun base => ?_, F.kp, F.bindsN fun _ _ _ _ _ _ us hl => match us, hl with | [_], _ => rfl⟩
  have G_has_letters := Ga_has_letters base
  refine fn_dataD F SC fun cdv A outer s H E hr tk => ?_
  exact (sss_cons (ss_if (SW.sc (sw_or (sc_not (q_val (se_isiT (l0 T) (.cons (.ty _) (.cons (.ty _) .nil)) (by decide) (T.free 9 rfl) (se_name (pv 0)) (pa_cons (pe_bltn (v := .ty "list") rfl (T.free 5 rfl) bt_list rfl) (pa_cons (pe_bltn (v := .ty "tuple") rfl (T.free 6 rfl) bt_tuple rfl) pa_nil)) (fun _ _ _ h => h)))) (sw_or1 (sc_not (sc_chain op_le ops_cmp op_le ops_cmp se_int (k_len (T.free 0 rfl) (se_name (pv 0))) (k_gint (T.int 10 rfl))))))) (sss_one (ss_ret se_bl)) sss_nil)
  (sss_cons (ss_for (passes_of rfl) rfl (se_name (pv 0)) (st_name (pg_name (i := 1) SC.nd rfl (by first | exact Or.inl rfl | exact Or.inr rfl))) (sss_one (ss_if (SW.sc (sw_or (sc_not (q_val (se_isi (l1 T) (.ty _) (T.free 9 rfl) (se_name (pv 1)) (pe_bltn (v := .ty "str") rfl (T.free 12 rfl) bt_str rfl)))) (sw_or (q_gt (k_len (T.free 0 rfl) (se_name (pv 1))) (k_gint (T.int 13 rfl))) (sw_or1 (sc_not (q_val (se_callD G_has_letters (hr.mono (by decide)) rfl (T.glo 14 rfl) k_has_letters B_has_letters .nil (fun _ => .nil) tk (sa_cons (se_name (pv 1)) sa_nil) rfl))))))) (sss_one (ss_ret se_bl)) sss_nil)))
  (sss_one (ss_ret se_bl))))
/-! #### ending_from -/
def g_ending_from : SSem := (sQ (sIf (cNot (cT (eCallD m_is_ending [] [(eN 0)]))) (sRaise0 "BadEnding") sN)
  (sR (eU tupD (eN 0))))
def m_ending_from : FSem := runB g_ending_from 1
theorem sc_ending_from : FnScope ["thing"] ["thing"] (defScope (d_ending_from).st) := ⟨rfl, rfl, rfl, by decide +kernel, rfl, by decide +kernel, by decide +kernel⟩
theorem ok_ending_from {w : World} {K : PySem.W.Frag} {mg : Str → Option Value} (T : Tx fs ds K mg) : ∃ fd, (∀ base : Heap, FnOk P0 w K mg base (L2.CX P0 w) 3 ((d_ending_from).at_.ad K) fd ["thing"] (spOf ⟨K, mg, I0⟩ 1 m_ending_from)) ∧ PySem.W.keepIn K (.ref ((d_ending_from).at_.ad K)) = true ∧ (Binds K fd ["thing"] []) := by
  obtain ⟨e, c⟩ := T.c.at_ (i := 7) (d := d_ending_from) rfl
  obtain ⟨fd, F⟩ := DF.funD (d := d_ending_from) rfl e c
  obtain ⟨fd_is_ending, Ga_is_ending, k_is_ending, B_is_ending⟩ := ok_is_ending (w := w) T
  have SC := sc_ending_from
  refine ⟨fd, fun base => ?_, F.kp, F.bindsN fun _ _ _ _ _ _ us hl => match us, hl with | [_], _ => rfl⟩
  have G_is_ending := Ga_is_ending base
  refine fn_dataD F SC fun cdv A outer s H E hr tk => ?_
  exact (sss_cons (ss_if (sc_not (q_val (se_callD G_is_ending (hr.mono (by decide)) rfl (T.glo 15 rfl) k_is_ending B_is_ending .nil (fun _ => .nil) tk (sa_cons (se_name (pv 0)) sa_nil) rfl))) (sss_one (ss_raise0 (T.c.fact (i := 16) rfl) tk rfl rfl (T.glo 17 rfl))) sss_nil)
  (sss_one (ss_ret (k_tuple (T.free 6 rfl) (se_name (pv 0))))))
/-! #### _law_told_ending -/
def g__law_told_ending : SSem := (sQ (sTry (sA 2 (eCallD m_ending_from [] [(eN 0)])) 1 [("TongueError", true), ("BadEnding", true), ("BadRules", true), ("BadPattern", true), ("BadText", true)] (sQ (sA 3 (eAnd (eIsX 1 [("TongueError", false), ("BadEnding", true), ("BadRules", false), ("BadPattern", false), ("BadText", false)]) (eAnd (eIsX 1 [("TongueError", true), ("BadEnding", true), ("BadRules", true), ("BadPattern", true), ("BadText", true)]) (eNot (eIsX 1 [("TongueError", false), ("BadEnding", false), ("BadRules", false), ("BadPattern", false), ("BadText", true)])))))
  (sR (eTup [(eC (.str "bad")), (eN 3)]))))
  (sR (eTup [(eC (.str "good")), (eN 2)])))
def m__law_told_ending : FSem := runB g__law_told_ending 4
theorem sc__law_told_ending : FnScope ["_law_thing_here", "_law_wrong_here", "_law_told_here", "_law_good"] ["_law_thing_here"] (defScope (d__law_told_ending).st) := ⟨rfl, rfl, rfl, by decide +kernel, rfl, by decide +kernel, by decide +kernel⟩
theorem ok__law_told_ending {w : World} {K : PySem.W.Frag} {mg : Str → Option Value} (T : Tx fs ds K mg) : ∃ fd, (∀ base : Heap, FnOk P0 w K mg base (L2.CX P0 w) 4 ((d__law_told_ending).at_.ad K) fd ["_law_thing_here"] (spOf ⟨K, mg, I0⟩ 1 m__law_told_ending)) ∧ PySem.W.keepIn K (.ref ((d__law_told_ending).at_.ad K)) = true ∧ (Binds K fd ["_law_thing_here"] []) := by
  obtain ⟨e, c⟩ := T.c.at_ (i := 8) (d := d__law_told_ending) rfl
  obtain ⟨fd, F⟩ := DF.funD (d := d__law_told_ending) rfl e c
  obtain ⟨fd_ending_from, Ga_ending_from, k_ending_from, B_ending_from⟩ := ok_ending_from (w := w) T
  have SC := sc__law_told_ending
  refine ⟨fd, fun base => ?_, F.kp, F.bindsN fun _ _ _ _ _ _ us hl => match us, hl with | [_], _ => rfl⟩
  have G_ending_from := Ga_ending_from base
  refine fn_dataD F SC fun cdv A outer s H E hr tk => ?_
  exact (sss_cons (ss_try (i := 1) rfl rfl SC.nd rfl rfl ⟨rfl, by decide, Or.inl (T.glo 19 rfl)⟩ tk (l2 T) (fun W pn xe tk po => (sss_one (ss_set (i := 2) SC.nd rfl (by first | exact Or.inl rfl | exact Or.inr rfl) (se_callD G_ending_from (hr.mono (by decide)) rfl (T.glo 18 rfl) k_ending_from B_ending_from .nil (fun _ => .nil) tk (sa_cons (se_name (pv 0)) sa_nil) rfl)))) (fun a oe cls d pn hz hf => (sss_cons (ss_set (i := 3) SC.nd rfl (by first | exact Or.inl rfl | exact Or.inr rfl) (se_and (se_isX hz hf (l3 T) (.own _) (T.free 9 rfl) (pv 1) (pe_glob rfl (T.glo 17 rfl) rfl)) (se_and (se_isX hz hf (l4 T) (.ty _) (T.free 9 rfl) (pv 1) (pe_bltn (v := .ty "ValueError") rfl (T.free 43 rfl) bt_vE rfl)) (se_one (se_not (se_isX hz hf (l5 T) (.own _) (T.free 9 rfl) (pv 1) (pe_glob rfl (T.glo 26 rfl) rfl)))))))
  (sss_one (ss_ret (se_tup (sl_cons se_str (sl_cons (se_name (pv 3)) sl_nil))))))))
  (sss_one (ss_ret (se_tup (sl_cons se_str (sl_cons (se_name (pv 2)) sl_nil))))))
/-! #### _law_all_letters -/
def g__law_all_letters : SSem := (sR (eOp eqD (eLc (eN 0) (.nm 1) (cB (eOp ninA (eN 1) (eC (.str "abcdefghijklmnopqrstuvwxyz")))) (eN 1) [1]) (eLst [])))
def m__law_all_letters : FSem := runB g__law_all_letters 2
theorem sc__law_all_letters : FnScope ["_law_text_here", "_law_sign"] ["_law_text_here"] (defScope (d__law_all_letters).st) := ⟨rfl, rfl, rfl, by decide +kernel, rfl, by decide +kernel, by decide +kernel⟩
theorem ok__law_all_letters {w : World} {K : PySem.W.Frag} {mg : Str → Option Value} (T : Tx fs ds K mg) : ∃ fd, (∀ base : Heap, FnOk P0 w K mg base (L2.CX P0 w) 1 ((d__law_all_letters).at_.ad K) fd ["_law_text_here"] (spOf ⟨K, mg, I0⟩ 1 m__law_all_letters)) ∧ PySem.W.keepIn K (.ref ((d__law_all_letters).at_.ad K)) = true ∧ (Binds K fd ["_law_text_here"] []) := by
  obtain ⟨e, c⟩ := T.c.at_ (i := 9) (d := d__law_all_letters) rfl
  obtain ⟨fd, F⟩ := DF.funD (d := d__law_all_letters) rfl e c
  have SC := sc__law_all_letters
  refine ⟨fd, fun base => ?_, F.kp, F.bindsN fun _ _ _ _ _ _ us hl => match us, hl with | [_], _ => rfl⟩
  refine fn_dataD F SC fun cdv A outer s H E hr tk => ?_
  exact (sss_one (ss_ret (k_eq (u65 hr) (se_lc rfl SC.nd (se_name (pv 0)) (own := [("_law_sign", 1)]) (blkOk_by (N := ["_law_text_here", "_law_sign"]) (sc := defScope (d__law_all_letters).st) (by decide +kernel)) (by decide) (fun c => pg_name (i := 1) SC.nd rfl (Or.inl rfl) (Or.inr rfl)) (fun c => spt_one (q_ninA (u65 hr) (se_name (pv 1)) se_str)) (fun c => (se_name (pv 1)))) (se_lst sl_nil))))
/-! #### _law_is_part -/
def g__law_is_part : SSem := (sR (eAnd (eU (isiD [("NoneType", false), ("bool", false), ("int", false), ("str", true), ("tuple", false), ("list", false), ("dict", false)] []) (eN 0)) (eAnd (eOp leD (eU lenD (eN 0)) (eC (.int 3))) (eCallD m__law_all_letters [] [(eN 0)]))))
def m__law_is_part : FSem := runB g__law_is_part 1
theorem sc__law_is_part : FnScope ["_law_thing_here"] ["_law_thing_here"] (defScope (d__law_is_part).st) := ⟨rfl, rfl, rfl, by decide +kernel, rfl, by decide +kernel, by decide +kernel⟩
theorem ok__law_is_part {w : World} {K : PySem.W.Frag} {mg : Str → Option Value} (T : Tx fs ds K mg) : ∃ fd, (∀ base : Heap, FnOk P0 w K mg base (L2.CX P0 w) 2 ((d__law_is_part).at_.ad K) fd ["_law_thing_here"] (spOf ⟨K, mg, I0⟩ 1 m__law_is_part)) ∧ PySem.W.keepIn K (.ref ((d__law_is_part).at_.ad K)) = true ∧ (Binds K fd ["_law_thing_here"] []) := by
  obtain ⟨e, c⟩ := T.c.at_ (i := 10) (d := d__law_is_part) rfl
  obtain ⟨fd, F⟩ := DF.funD (d := d__law_is_part) rfl e c
  obtain ⟨fd__law_all_letters, Ga__law_all_letters, k__law_all_letters, B__law_all_letters⟩ := ok__law_all_letters (w := w) T
  have SC := sc__law_is_part
  refine ⟨fd, fun base => ?_, F.kp, F.bindsN fun _ _ _ _ _ _ us hl => match us, hl with | [_], _ => rfl⟩
  have G__law_all_letters := Ga__law_all_letters base
  refine fn_dataD F SC fun cdv A outer s H E hr tk => ?_
  exact (sss_one (ss_ret (se_and (se_isi (l1 T) (.ty _) (T.free 9 rfl) (se_name (pv 0)) (pe_bltn (v := .ty "str") rfl (T.free 12 rfl) bt_str rfl)) (se_and (k_le (k_len (T.free 0 rfl) (se_name (pv 0))) se_int) (se_one (se_callD G__law_all_letters (hr.mono (by decide)) rfl (T.glo 49 rfl) k__law_all_letters B__law_all_letters .nil (fun _ => .nil) tk (sa_cons (se_name (pv 0)) sa_nil) rfl))))))
/-! #### _law_endings_hold -/
def g__law_endings_hold_12 : SSem := (sQ (sIf (cAnd (cNot (cT (eN 4))) (cB (eOp neD (eN 6) (eTup [(eC (.str "bad")), (eC (.bl true))])))) (sR (eC (.bl false))) sN)
  (sIf (cB (eOp neD (eU reprA (eN 3)) (eN 5))) (sR (eC (.bl false))) sN))
def g__law_endings_hold_11 : SSem := (sQ (sIf (cAnd (cT (eN 4)) (cOr (cB (eOp neD (eOp idxD (eN 6) (eC (.int 0))) (eC (.str "good")))) (cOr (cNot (cT (eU (isiD [("NoneType", false), ("bool", false), ("int", false), ("str", false), ("tuple", true), ("list", false), ("dict", false)] []) (eOp idxD (eN 6) (eC (.int 1)))))) (cB (eOp neD (eOp idxD (eN 6) (eC (.int 1))) (eU tupD (eN 3))))))) (sR (eC (.bl false))) sN)
  g__law_endings_hold_12)
def g__law_endings_hold_10 : SSem := (sQ (sA 6 (eCallD m__law_told_ending [] [(eN 3)]))
  g__law_endings_hold_11)
def g__law_endings_hold_9 : SSem := (sQ (sIf (cOr (cNot (cT (eU (isiD [("NoneType", false), ("bool", true), ("int", false), ("str", false), ("tuple", false), ("list", false), ("dict", false)] []) (eN 6)))) (cB (eOp neD (eN 6) (eN 4)))) (sR (eC (.bl false))) sN)
  g__law_endings_hold_10)
def g__law_endings_hold_8 : SSem := (sQ (sA 6 (eCallD m_is_ending [] [(eN 3)]))
  g__law_endings_hold_9)
def g__law_endings_hold_7 : SSem := (sQ (sA 5 (eU reprA (eN 3)))
  g__law_endings_hold_8)
def g__law_endings_hold_6 : SSem := (sQ (sA 4 (eAnd (eU (isiD [("NoneType", false), ("bool", false), ("int", false), ("str", false), ("tuple", true), ("list", true), ("dict", false)] []) (eN 3)) (eAnd (eChain leD leD (eC (.int 1)) (eU lenD (eN 3)) (eC (.int 4))) (eOp eqD (eLc (eN 3) (.nm 8) (cNot (cT (eCallD m__law_is_part [] [(eN 8)]))) (eN 8) [8]) (eLst [])))))
  g__law_endings_hold_7)
def g__law_endings_hold_5 : SSem := (sQ (sIf (cB (eOp eqD (eCallD m__law_take [] [(eN 0), (eC (.int 8))]) (eC (.int 0)))) (sA 3 (eOp idxD (eTup [(eC .non), (eC (.str "ab")), (eC (.int 3)), (eDic1 (.inr "a") (.str "b")), (eC (.str ""))]) (eCallD m__law_take [] [(eN 0), (eC (.int 5))]))) sN)
  g__law_endings_hold_6)
def g__law_endings_hold_4 : SSem := (sQ (sA 3 (eCallD m__law_as_list [] [(eN 0), (eN 2)]))
  g__law_endings_hold_5)
def g__law_endings_hold_3 : SSem := (sQ (sIf (cAnd (cB (eOp neD (eN 2) (eLst []))) (cB (eOp eqD (eCallD m__law_take [] [(eN 0), (eC (.int 6))]) (eC (.int 0))))) (sIA 2 (eCallD m__law_take [] [(eN 0), (eU lenD (eN 2))]) (eOp idxD (eTup [(eC .non), (eC (.int 0)), (eC (.bl true)), (eLst [(eC (.str "a"))]), (eTup [(eC (.str "a"))])]) (eCallD m__law_take [] [(eN 0), (eC (.int 5))]))) sN)
  g__law_endings_hold_4)
def g__law_endings_hold_2 : SSem := (sQ (sA 2 (eLcR rngOf1 [(eCallD m__law_take [] [(eN 0), (eC (.int 7))])] (.nm 7) cYes (eIf (cB (eOp eqD (eCallD m__law_take [] [(eN 0), (eC (.int 3))]) (eC (.int 0)))) (eCallD m__law_text [] [(eN 0), (eOp addD (eC (.int 4)) (eCallD m__law_take [] [(eN 0), (eC (.int 2))]))]) (eCallD m__law_text [] [(eN 0), (eC (.int 3))])) [7]))
  g__law_endings_hold_3)
def g__law_endings_hold_1 : SSem := (sQ (sForR rngOf1 [(eC (.int 5))] (tgN 1) g__law_endings_hold_2)
  (sR (eC (.bl true))))
def g__law_endings_hold : SSem := g__law_endings_hold_1
def m__law_endings_hold : FSem := runB g__law_endings_hold 9
theorem sc__law_endings_hold : FnScope ["_law_hand_here", "_law_turn", "_law_parts", "_law_thing_here", "_law_good", "_law_kept", "_law_told_here", "_law_k", "_law_part"] ["_law_hand_here"] (defScope (d__law_endings_hold).st) := ⟨rfl, rfl, rfl, by decide +kernel, rfl, by decide +kernel, by decide +kernel⟩
theorem ok__law_endings_hold {w : World} {K : PySem.W.Frag} {mg : Str → Option Value} (T : Tx fs ds K mg) : ∃ fd, (∀ base : Heap, FnG P0 w K mg base 5 ((d__law_endings_hold).at_.ad K) fd ["_law_hand_here"] (spOf ⟨K, mg, I0⟩ 1 m__law_endings_hold)) ∧ PySem.W.keepIn K (.ref ((d__law_endings_hold).at_.ad K)) = true ∧ (Binds K fd ["_law_hand_here"] []) := by
  obtain ⟨e, c⟩ := T.c.at_ (i := 11) (d := d__law_endings_hold) rfl
  obtain ⟨fd, F⟩ := DF.funD (d := d__law_endings_hold) rfl e c
  obtain ⟨fd__law_take, Ga__law_take, k__law_take, B__law_take⟩ := ok__law_take (w := w) T
  obtain ⟨fd__law_text, Ga__law_text, k__law_text, B__law_text⟩ := ok__law_text (w := w) T
  obtain ⟨fd__law_as_list, Ga__law_as_list, k__law_as_list, B__law_as_list⟩ := ok__law_as_list (w := w) T
  obtain ⟨fd__law_is_part, Ga__law_is_part, k__law_is_part, B__law_is_part⟩ := ok__law_is_part (w := w) T
  obtain ⟨fd_is_ending, Ga_is_ending, k_is_ending, B_is_ending⟩ := ok_is_ending (w := w) T
  obtain ⟨fd__law_told_ending, Ga__law_told_ending, k__law_told_ending, B__law_told_ending⟩ := ok__law_told_ending (w := w) T
  have SC := sc__law_endings_hold
  refine ⟨fd, fun base => ?_, F.kp, F.bindsN fun _ _ _ _ _ _ us hl => match us, hl with | [_], _ => rfl⟩
  have G__law_take := Ga__law_take base
  have G__law_text := Ga__law_text base
  have G__law_as_list := Ga__law_as_list base
  have G__law_is_part := Ga__law_is_part base
  have G_is_ending := Ga_is_ending base
  have G__law_told_ending := Ga__law_told_ending base
  refine fn_dataG F SC fun cdv A outer s H E hgd hr tk => ?_
  exact (sss_cons (ss_for1 (passes_of rfl) rfl rfl (T.free 4 rfl) (sl_cons se_int sl_nil) (st_name (pg_name (i := 1) SC.nd rfl (by first | exact Or.inl rfl | exact Or.inr rfl))) (sss_cons (ss_setLc1 rfl SC.nd (i := 2) rfl rfl rfl rfl (T.free 4 rfl) (sl_cons (se_callD G__law_take (hr.mono (by decide)) rfl (T.glo 3 rfl) k__law_take B__law_take .nil (fun _ => .nil) tk (sa_cons (se_name (pv 0)) (sa_cons se_int sa_nil)) rfl) sl_nil) (own := [("_law_k", 7)]) (blkOk_by (N := ["_law_hand_here", "_law_turn", "_law_parts", "_law_thing_here", "_law_good", "_law_kept", "_law_told_here", "_law_k", "_law_part"]) (sc := defScope (d__law_endings_hold).st) (by decide +kernel)) (by decide) (fun c => pg_name (i := 7) SC.nd rfl (Or.inl rfl) (Or.inr rfl)) (fun c => spt_nil) (fun c => (se_if (q_eq (u65 hr) (se_callD G__law_take (hr.mono (by decide)) rfl (T.glo 3 rfl) k__law_take B__law_take .nil (fun _ => .nil) takes0 (sa_cons (se_name (pv 0)) (sa_cons se_int sa_nil)) rfl) se_int) (se_callD G__law_text (hr.mono (by decide)) rfl (T.glo 50 rfl) k__law_text B__law_text .nil (fun _ => .nil) takes0 (sa_cons (se_name (pv 0)) (sa_cons (k_add se_int (se_callD G__law_take (hr.mono (by decide)) rfl (T.glo 3 rfl) k__law_take B__law_take .nil (fun _ => .nil) takes0 (sa_cons (se_name (pv 0)) (sa_cons se_int sa_nil)) rfl)) sa_nil)) rfl) (se_callD G__law_text (hr.mono (by decide)) rfl (T.glo 50 rfl) k__law_text B__law_text .nil (fun _ => .nil) takes0 (sa_cons (se_name (pv 0)) (sa_cons se_int sa_nil)) rfl))))
  (sss_cons (ss_if (SW.sc (sw_and (q_ne (u65 hr) (se_name (pv 2)) (se_lst sl_nil)) (sw_and1 (q_eq (u65 hr) (se_callD G__law_take (hr.mono (by decide)) rfl (T.glo 3 rfl) k__law_take B__law_take .nil (fun _ => .nil) tk (sa_cons (se_name (pv 0)) (sa_cons se_int sa_nil)) rfl) se_int)))) (sss_one (ss_itemA (u1_of (u65 hr)) (pv 2) (se_idx (se_tup (sl_cons se_non (sl_cons se_int (sl_cons se_bl (sl_cons (se_lst (sl_cons se_str sl_nil)) (sl_cons (se_tup (sl_cons se_str sl_nil)) sl_nil)))))) (se_callD G__law_take (hr.mono (by decide)) rfl (T.glo 3 rfl) k__law_take B__law_take .nil (fun _ => .nil) tk (sa_cons (se_name (pv 0)) (sa_cons se_int sa_nil)) rfl) (fun _ _ => rfl)) (se_callD G__law_take (hr.mono (by decide)) rfl (T.glo 3 rfl) k__law_take B__law_take .nil (fun _ => .nil) tk (sa_cons (se_name (pv 0)) (sa_cons (k_len (T.free 0 rfl) (se_name (pv 2))) sa_nil)) rfl))) sss_nil)
  (sss_cons (ss_set (i := 3) SC.nd rfl (by first | exact Or.inl rfl | exact Or.inr rfl) (se_callD G__law_as_list (hr.mono (by decide)) rfl (T.glo 51 rfl) k__law_as_list B__law_as_list .nil (fun _ => .nil) tk (sa_cons (se_name (pv 0)) (sa_cons (se_name (pv 2)) sa_nil)) rfl))
  (sss_cons (ss_if (q_eq (u65 hr) (se_callD G__law_take (hr.mono (by decide)) rfl (T.glo 3 rfl) k__law_take B__law_take .nil (fun _ => .nil) tk (sa_cons (se_name (pv 0)) (sa_cons se_int sa_nil)) rfl) se_int) (sss_one (ss_set (i := 3) SC.nd rfl (by first | exact Or.inl rfl | exact Or.inr rfl) (se_idx (se_tup (sl_cons se_non (sl_cons se_str (sl_cons se_int (sl_cons (k_dict1 (k := (.inr "a")) pe_str pe_str (fun _ => .str _)) (sl_cons se_str sl_nil)))))) (se_callD G__law_take (hr.mono (by decide)) rfl (T.glo 3 rfl) k__law_take B__law_take .nil (fun _ => .nil) tk (sa_cons (se_name (pv 0)) (sa_cons se_int sa_nil)) rfl) (fun _ _ => rfl)))) sss_nil)
  (sss_cons (ss_set (i := 4) SC.nd rfl (by first | exact Or.inl rfl | exact Or.inr rfl) (se_and (se_isiT (l0 T) (.cons (.ty _) (.cons (.ty _) .nil)) (by decide) (T.free 9 rfl) (se_name (pv 3)) (pa_cons (pe_bltn (v := .ty "list") rfl (T.free 5 rfl) bt_list rfl) (pa_cons (pe_bltn (v := .ty "tuple") rfl (T.free 6 rfl) bt_tuple rfl) pa_nil)) (fun _ _ _ h => h)) (se_and (se_chain op_le ops_cmp op_le ops_cmp se_int (k_len (T.free 0 rfl) (se_name (pv 3))) se_int) (se_one (k_eq (u65 hr) (se_lc rfl SC.nd (se_name (pv 3)) (own := [("_law_part", 8)]) (blkOk_by (N := ["_law_hand_here", "_law_turn", "_law_parts", "_law_thing_here", "_law_good", "_law_kept", "_law_told_here", "_law_k", "_law_part"]) (sc := defScope (d__law_endings_hold).st) (by decide +kernel)) (by decide) (fun c => pg_name (i := 8) SC.nd rfl (Or.inl rfl) (Or.inr rfl)) (fun c => spt_one (sc_not (q_val (se_callD G__law_is_part (hr.mono (by decide)) rfl (T.glo 52 rfl) k__law_is_part B__law_is_part .nil (fun _ => .nil) takes0 (sa_cons (se_name (pv 8)) sa_nil) rfl)))) (fun c => (se_name (pv 8)))) (se_lst sl_nil))))))
  (sss_cons (ss_set (i := 5) SC.nd rfl (by first | exact Or.inl rfl | exact Or.inr rfl) (k_reprA hgd (u65 hr) (T.free 53 rfl) (se_name (pv 3))))
  (sss_cons (ss_set (i := 6) SC.nd rfl (by first | exact Or.inl rfl | exact Or.inr rfl) (se_callD G_is_ending (hr.mono (by decide)) rfl (T.glo 15 rfl) k_is_ending B_is_ending .nil (fun _ => .nil) tk (sa_cons (se_name (pv 3)) sa_nil) rfl))
  (sss_cons (ss_if (SW.sc (sw_or (sc_not (q_val (se_isi (l6 T) (.ty _) (T.free 9 rfl) (se_name (pv 6)) (pe_bltn (v := .ty "bool") rfl (T.free 55 rfl) bt_bool rfl)))) (sw_or1 (q_ne (u65 hr) (se_name (pv 6)) (se_name (pv 4)))))) (sss_one (ss_ret se_bl)) sss_nil)
  (sss_cons (ss_set (i := 6) SC.nd rfl (by first | exact Or.inl rfl | exact Or.inr rfl) (se_callD G__law_told_ending (hr.mono (by decide)) rfl (T.glo 56 rfl) k__law_told_ending B__law_told_ending .nil (fun _ => .nil) tk (sa_cons (se_name (pv 3)) sa_nil) rfl))
  (sss_cons (ss_if (SW.sc (sw_and (q_val (se_name (pv 4))) (sw_and1 (SW.sc (sw_or (q_ne (u65 hr) (se_idx (se_name (pv 6)) se_int (fun _ _ => rfl)) se_str) (sw_or (sc_not (q_val (se_isi (l7 T) (.ty _) (T.free 9 rfl) (se_idx (se_name (pv 6)) se_int (fun _ _ => rfl)) (pe_bltn (v := .ty "tuple") rfl (T.free 6 rfl) bt_tuple rfl)))) (sw_or1 (q_ne (u65 hr) (se_idx (se_name (pv 6)) se_int (fun _ _ => rfl)) (k_tuple (T.free 6 rfl) (se_name (pv 3))))))))))) (sss_one (ss_ret se_bl)) sss_nil)
  (sss_cons (ss_if (SW.sc (sw_and (sc_not (q_val (se_name (pv 4)))) (sw_and1 (q_ne (u65 hr) (se_name (pv 6)) (se_tup (sl_cons se_str (sl_cons se_bl sl_nil))))))) (sss_one (ss_ret se_bl)) sss_nil)
  (sss_one (ss_if (q_ne (u65 hr) (k_reprA hgd (u65 hr) (T.free 53 rfl) (se_name (pv 3))) (se_name (pv 5))) (sss_one (ss_ret se_bl)) sss_nil))))))))))))))
  (sss_one (ss_ret se_bl)))
/-! #### _law_thing -/
def g__law_thing : SSem := (sQ (sA 2 (eCallD m__law_take [] [(eN 0), (eC (.int 9))]))
  (sQ (sIf (cB (eOp eqD (eN 2) (eC (.int 0)))) (sR (eOp idxD (eTup [(eC .non), (eC (.bl true)), (eC (.bl false)), (eC (.str "1")), (eC (.str "")), (eTup [(eC (.int 0))]), (eLst [])]) (eCallD m__law_take [] [(eN 0), (eC (.int 7))]))) sN)
  (sQ (sIf (cB (eOp eqD (eN 2) (eC (.int 1)))) (sR (eOp addD (eN 1) (eOp mulD (eOp powD (eC (.int 10)) (eC (.int 21))) (eOp subD (eCallD m__law_take [] [(eN 0), (eC (.int 3))]) (eC (.int 1)))))) sN)
  (sR (eOp subD (eOp addD (eN 1) (eCallD m__law_take [] [(eN 0), (eC (.int 7))])) (eC (.int 3)))))))
def m__law_thing : FSem := runB g__law_thing 3
theorem sc__law_thing : FnScope ["_law_hand_here", "_law_near", "_law_draw"] ["_law_hand_here", "_law_near"] (defScope (d__law_thing).st) := ⟨rfl, rfl, rfl, by decide +kernel, rfl, by decide +kernel, by decide +kernel⟩
theorem ok__law_thing {w : World} {K : PySem.W.Frag} {mg : Str → Option Value} (T : Tx fs ds K mg) : ∃ fd, (∀ base : Heap, FnOk P0 w K mg base (L2.CX P0 w) 3 ((d__law_thing).at_.ad K) fd ["_law_hand_here", "_law_near"] (spOf ⟨K, mg, I0⟩ 2 m__law_thing)) ∧ PySem.W.keepIn K (.ref ((d__law_thing).at_.ad K)) = true ∧ (Binds K fd ["_law_hand_here", "_law_near"] []) := by
  obtain ⟨e, c⟩ := T.c.at_ (i := 12) (d := d__law_thing) rfl
  obtain ⟨fd, F⟩ := DF.funD (d := d__law_thing) rfl e c
  obtain ⟨fd__law_take, Ga__law_take, k__law_take, B__law_take⟩ := ok__law_take (w := w) T
  have SC := sc__law_thing
  refine ⟨fd, fun base => ?_, F.kp, F.bindsN fun _ _ _ _ _ _ us hl => match us, hl with | [_, _], _ => rfl⟩
  have G__law_take := Ga__law_take base
  refine fn_dataD F SC fun cdv A outer s H E hr tk => ?_
  exact (sss_cons (ss_set (i := 2) SC.nd rfl (by first | exact Or.inl rfl | exact Or.inr rfl) (se_callD G__law_take (hr.mono (by decide)) rfl (T.glo 3 rfl) k__law_take B__law_take .nil (fun _ => .nil) tk (sa_cons (se_name (pv 0)) (sa_cons se_int sa_nil)) rfl))
  (sss_cons (ss_if (q_eq (u65 hr) (se_name (pv 2)) se_int) (sss_one (ss_ret (se_idx (se_tup (sl_cons se_non (sl_cons se_bl (sl_cons se_bl (sl_cons se_str (sl_cons se_str (sl_cons (se_tup (sl_cons se_int sl_nil)) (sl_cons (se_lst sl_nil) sl_nil)))))))) (se_callD G__law_take (hr.mono (by decide)) rfl (T.glo 3 rfl) k__law_take B__law_take .nil (fun _ => .nil) tk (sa_cons (se_name (pv 0)) (sa_cons se_int sa_nil)) rfl) (fun _ _ => rfl)))) sss_nil)
  (sss_cons (ss_if (q_eq (u65 hr) (se_name (pv 2)) se_int) (sss_one (ss_ret (k_add (se_name (pv 1)) (k_mul (k_pow se_int se_int) (k_sub (se_callD G__law_take (hr.mono (by decide)) rfl (T.glo 3 rfl) k__law_take B__law_take .nil (fun _ => .nil) tk (sa_cons (se_name (pv 0)) (sa_cons se_int sa_nil)) rfl) se_int))))) sss_nil)
  (sss_one (ss_ret (k_sub (k_add (se_name (pv 1)) (se_callD G__law_take (hr.mono (by decide)) rfl (T.glo 3 rfl) k__law_take B__law_take .nil (fun _ => .nil) tk (sa_cons (se_name (pv 0)) (sa_cons se_int sa_nil)) rfl)) se_int))))))
/-! #### is_whole -/
def g_is_whole : SSem := (sQ (sIf (cOr (cNot (cT (eU (isiD [("NoneType", false), ("bool", true), ("int", true), ("str", false), ("tuple", false), ("list", false), ("dict", false)] []) (eN 0)))) (cT (eU (isiD [("NoneType", false), ("bool", true), ("int", false), ("str", false), ("tuple", false), ("list", false), ("dict", false)] []) (eN 0)))) (sR (eC (.bl false))) sN)
  (sR (eAnd (eOr (eOp isA (eN 1) (eC .non)) (eOp geD (eN 0) (eN 1))) (eOr (eOp isA (eN 2) (eC .non)) (eOp leD (eN 0) (eN 2))))))
def m_is_whole : FSem := runB g_is_whole 3
theorem sc_is_whole : FnScope ["thing", "low", "high"] ["thing", "low", "high"] (defScope (d_is_whole).st) := ⟨rfl, rfl, rfl, by decide +kernel, rfl, by decide +kernel, by decide +kernel⟩
theorem ok_is_whole {w : World} {K : PySem.W.Frag} {mg : Str → Option Value} (T : Tx fs ds K mg) : ∃ fd, (∀ base : Heap, FnOk P0 w K mg base (L2.CX P0 w) 1 ((d_is_whole).at_.ad K) fd ["thing", "low", "high"] (spOf ⟨K, mg, I0⟩ 3 m_is_whole)) ∧ PySem.W.keepIn K (.ref ((d_is_whole).at_.ad K)) = true ∧ (∃ dv, Vals [] dv ∧ Binds K fd ["thing", "low", "high"] dv) ∧ (∃ dv, Vals [(.non)] dv ∧ Binds K fd ["thing", "low", "high"] dv) ∧ (∃ dv, Vals [(.non), (.non)] dv ∧ Binds K fd ["thing", "low", "high"] dv) ∧ (∃ g, KBinds K fd ["thing", "low", "high"] ["high"] g (gV11 .non)) := by
  obtain ⟨e, c⟩ := T.c.at_ (i := 13) (d := d_is_whole) rfl
  obtain ⟨fd, F⟩ := DF.funD (d := d_is_whole) rfl e c
  have SC := sc_is_whole
  refine ⟨fd, fun base => ?_, F.kp, F.binds1 3 2 (List.cons_ne_nil _ _) rfl fun _ _ _ _ _ _ _ us its h1 h2 => match us, h1, its, h2 with | [_, _, _], _, [_, _], _ => ⟨_, rfl, rfl⟩, F.binds1 2 1 (List.cons_ne_nil _ _) rfl fun _ _ _ _ _ _ _ us its h1 h2 => match us, h1, its, h2 with | [_, _], _, [_, _], _ => ⟨_, rfl, rfl⟩, F.binds1 1 0 (List.cons_ne_nil _ _) rfl fun _ _ _ _ _ _ _ us its h1 h2 => match us, h1, its, h2 with | [_], _, [_, _], _ => ⟨_, rfl, rfl⟩, kb11 F fun _ _ _ _ _ _ _ _ _ _ _ => ⟨_, rfl, rfl⟩⟩
  refine fn_dataD F SC fun cdv A outer s H E hr tk => ?_
  exact (sss_cons (ss_if (SW.sc (sw_or (sc_not (q_val (se_isi (l8 T) (.ty _) (T.free 9 rfl) (se_name (pv 0)) (pe_bltn (v := .ty "int") rfl (T.free 1 rfl) bt_int rfl)))) (sw_or1 (q_val (se_isi (l6 T) (.ty _) (T.free 9 rfl) (se_name (pv 0)) (pe_bltn (v := .ty "bool") rfl (T.free 55 rfl) bt_bool rfl)))))) (sss_one (ss_ret se_bl)) sss_nil)
  (sss_one (ss_ret (se_and (se_or (k_isA (se_name (pv 1)) se_non) (se_one (k_ge (se_name (pv 0)) (se_name (pv 1))))) (se_one (se_or (k_isA (se_name (pv 2)) se_non) (se_one (k_le (se_name (pv 0)) (se_name (pv 2))))))))))
/-! #### is_name -/
def g_is_name : SSem := (sR (eAnd (eU (isiD [("NoneType", false), ("bool", false), ("int", false), ("str", true), ("tuple", false), ("list", false), ("dict", false)] []) (eN 0)) (eAnd (eChain leD leD (eC (.int 1)) (eU lenD (eN 0)) (eN 1)) (eCallD m_has_letters [] [(eN 0)]))))
def m_is_name : FSem := runB g_is_name 2
theorem sc_is_name : FnScope ["thing", "most"] ["thing", "most"] (defScope (d_is_name).st) := ⟨rfl, rfl, rfl, by decide +kernel, rfl, by decide +kernel, by decide +kernel⟩
theorem ok_is_name {w : World} {K : PySem.W.Frag} {mg : Str → Option Value} (T : Tx fs ds K mg) : ∃ fd, (∀ base : Heap, FnOk P0 w K mg base (L2.CX P0 w) 2 ((d_is_name).at_.ad K) fd ["thing", "most"] (spOf ⟨K, mg, I0⟩ 2 m_is_name)) ∧ PySem.W.keepIn K (.ref ((d_is_name).at_.ad K)) = true ∧ (Binds K fd ["thing", "most"] []) := by
  obtain ⟨e, c⟩ := T.c.at_ (i := 14) (d := d_is_name) rfl
  obtain ⟨fd, F⟩ := DF.funD (d := d_is_name) rfl e c
  obtain ⟨fd_has_letters, Ga_has_letters, k_has_letters, B_has_letters⟩ := ok_has_letters (w := w) T
  have SC := sc_is_name
  refine ⟨fd, fun base => ?_, F.kp, F.bindsN fun _ _ _ _ _ _ us hl => match us, hl with | [_, _], _ => rfl⟩
  have G_has_letters := Ga_has_letters base
  refine fn_dataD F SC fun cdv A outer s H E hr tk => ?_
  exact (sss_one (ss_ret (se_and (se_isi (l1 T) (.ty _) (T.free 9 rfl) (se_name (pv 0)) (pe_bltn (v := .ty "str") rfl (T.free 12 rfl) bt_str rfl)) (se_and (se_chain op_le ops_cmp op_le ops_cmp se_int (k_len (T.free 0 rfl) (se_name (pv 0))) (se_name (pv 1))) (se_one (se_callD G_has_letters (hr.mono (by decide)) rfl (T.glo 14 rfl) k_has_letters B_has_letters .nil (fun _ => .nil) tk (sa_cons (se_name (pv 0)) sa_nil) rfl))))))
/-! #### number_rank -/
def g_number_rank : SSem := (sR (eIf (cB (eOp eqD (eN 0) (eC (.str "many")))) (eC (.int 1)) (eC (.int 0))))
def m_number_rank : FSem := runB g_number_rank 1
theorem sc_number_rank : FnScope ["number"] ["number"] (defScope (d_number_rank).st) := ⟨rfl, rfl, rfl, by decide +kernel, rfl, by decide +kernel, by decide +kernel⟩
theorem ok_number_rank {w : World} {K : PySem.W.Frag} {mg : Str → Option Value} (T : Tx fs ds K mg) : ∃ fd, (∀ base : Heap, FnOk P0 w K mg base (L2.CX P0 w) 1 ((d_number_rank).at_.ad K) fd ["number"] (spOf ⟨K, mg, I0⟩ 1 m_number_rank)) ∧ PySem.W.keepIn K (.ref ((d_number_rank).at_.ad K)) = true ∧ (Binds K fd ["number"] []) := by
  obtain ⟨e, c⟩ := T.c.at_ (i := 15) (d := d_number_rank) rfl
  obtain ⟨fd, F⟩ := DF.funD (d := d_number_rank) rfl e c
  have SC := sc_number_rank
  refine ⟨fd, fun base => ?_, F.kp, F.bindsN fun _ _ _ _ _ _ us hl => match us, hl with | [_], _ => rfl⟩
  refine fn_dataD F SC fun cdv A outer s H E hr tk => ?_
  exact (sss_one (ss_ret (se_if (q_eq (u65 hr) (se_name (pv 0)) se_str) se_int se_int)))
/-! #### _law_is_int -/
def g__law_is_int : SSem := (sR (eAnd (eU (isiD [("NoneType", false), ("bool", true), ("int", true), ("str", false), ("tuple", false), ("list", false), ("dict", false)] []) (eN 0)) (eNot (eU (isiD [("NoneType", false), ("bool", true), ("int", false), ("str", false), ("tuple", false), ("list", false), ("dict", false)] []) (eN 0)))))
def m__law_is_int : FSem := runB g__law_is_int 1
theorem sc__law_is_int : FnScope ["_law_thing_here"] ["_law_thing_here"] (defScope (d__law_is_int).st) := ⟨rfl, rfl, rfl, by decide +kernel, rfl, by decide +kernel, by decide +kernel⟩
theorem ok__law_is_int {w : World} {K : PySem.W.Frag} {mg : Str → Option Value} (T : Tx fs ds K mg) : ∃ fd, (∀ base : Heap, FnOk P0 w K mg base (L2.CX P0 w) 1 ((d__law_is_int).at_.ad K) fd ["_law_thing_here"] (spOf ⟨K, mg, I0⟩ 1 m__law_is_int)) ∧ PySem.W.keepIn K (.ref ((d__law_is_int).at_.ad K)) = true ∧ (Binds K fd ["_law_thing_here"] []) := by
  obtain ⟨e, c⟩ := T.c.at_ (i := 16) (d := d__law_is_int) rfl
  obtain ⟨fd, F⟩ := DF.funD (d := d__law_is_int) rfl e c
  have SC := sc__law_is_int
  refine ⟨fd, fun base => ?_, F.kp, F.bindsN fun _ _ _ _ _ _ us hl => match us, hl with | [_], _ => rfl⟩
  refine fn_dataD F SC fun cdv A outer s H E hr tk => ?_
  exact (sss_one (ss_ret (se_and (se_isi (l8 T) (.ty _) (T.free 9 rfl) (se_name (pv 0)) (pe_bltn (v := .ty "int") rfl (T.free 1 rfl) bt_int rfl)) (se_one (se_not (se_isi (l6 T) (.ty _) (T.free 9 rfl) (se_name (pv 0)) (pe_bltn (v := .ty "bool") rfl (T.free 55 rfl) bt_bool rfl)))))))
/-! #### is_number -/
def g_is_number : SSem := (sR (eAnd (eU (isiD [("NoneType", false), ("bool", false), ("int", false), ("str", true), ("tuple", false), ("list", false), ("dict", false)] []) (eN 0)) (eOp inA (eN 0) (eC (.ktp ["one", "many"])))))
def m_is_number : FSem := runB g_is_number 1
theorem sc_is_number : FnScope ["thing"] ["thing"] (defScope (d_is_number).st) := ⟨rfl, rfl, rfl, by decide +kernel, rfl, by decide +kernel, by decide +kernel⟩
theorem ok_is_number {w : World} {K : PySem.W.Frag} {mg : Str → Option Value} (T : Tx fs ds K mg) : ∃ fd, (∀ base : Heap, FnOk P0 w K mg base (L2.CX P0 w) 1 ((d_is_number).at_.ad K) fd ["thing"] (spOf ⟨K, mg, I0⟩ 1 m_is_number)) ∧ PySem.W.keepIn K (.ref ((d_is_number).at_.ad K)) = true ∧ (Binds K fd ["thing"] []) := by
  obtain ⟨e, c⟩ := T.c.at_ (i := 17) (d := d_is_number) rfl
  obtain ⟨fd, F⟩ := DF.funD (d := d_is_number) rfl e c
  have SC := sc_is_number
  refine ⟨fd, fun base => ?_, F.kp, F.bindsN fun _ _ _ _ _ _ us hl => match us, hl with | [_], _ => rfl⟩
  refine fn_dataD F SC fun cdv A outer s H E hr tk => ?_
  exact (sss_one (ss_ret (se_and (se_isi (l1 T) (.ty _) (T.free 9 rfl) (se_name (pv 0)) (pe_bltn (v := .ty "str") rfl (T.free 12 rfl) bt_str rfl)) (se_one (k_inA (u65 hr) (se_name (pv 0)) (k_gtup rfl (T.glo 59 rfl) (ktB_ok (T.c.fact (i := 60) rfl))))))))
/-! #### _law_names_hold -/
def g__law_names_hold_12 : SSem := (sQ (sA 8 (eCallK m_is_whole (.non) (eN 2) (eN 6)))
  (sIf (cB (eOp neD (eN 8) (eAnd (eCallD m__law_is_int [] [(eN 2)]) (eOr (eOp isA (eN 6) (eC .non)) (eOp leD (eN 2) (eN 6)))))) (sR (eC (.bl false))) sN))
def g__law_names_hold_11 : SSem := (sQ (sIf (cOr (cNot (cT (eU (isiD [("NoneType", false), ("bool", true), ("int", false), ("str", false), ("tuple", false), ("list", false), ("dict", false)] []) (eN 8)))) (cB (eOp neD (eN 8) (eCallD m__law_is_int [] [(eN 2)])))) (sR (eC (.bl false))) sN)
  g__law_names_hold_12)
def g__law_names_hold_10 : SSem := (sQ (sA 8 (eCallD m_is_whole [.non, .non] [(eN 2)]))
  g__law_names_hold_11)
def g__law_names_hold_9 : SSem := (sQ (sIf (cOr (cNot (cT (eU (isiD [("NoneType", false), ("bool", true), ("int", false), ("str", false), ("tuple", false), ("list", false), ("dict", false)] []) (eN 8)))) (cB (eOp neD (eN 8) (eN 7)))) (sR (eC (.bl false))) sN)
  g__law_names_hold_10)
def g__law_names_hold_8 : SSem := (sQ (sA 8 (eCallD m_is_whole [] [(eN 2), (eN 5), (eN 6)]))
  g__law_names_hold_9)
def g__law_names_hold_7 : SSem := (sQ (sA 7 (eAnd (eCallD m__law_is_int [] [(eN 2)]) (eAnd (eOr (eOp isA (eN 5) (eC .non)) (eOp geD (eN 2) (eN 5))) (eOr (eOp isA (eN 6) (eC .non)) (eOp leD (eN 2) (eN 6))))))
  g__law_names_hold_8)
def g__law_names_hold_6 : SSem := (sQ (sA 2 (eCallD m__law_thing [] [(eN 0), (eN 4)]))
  g__law_names_hold_7)
def g__law_names_hold_5 : SSem := (sQ (sA 6 (eIf (cB (eOp eqD (eCallD m__law_take [] [(eN 0), (eC (.int 4))]) (eC (.int 0)))) (eC .non) (eOp subD (eOp addD (eN 4) (eCallD m__law_take [] [(eN 0), (eC (.int 5))])) (eC (.int 1)))))
  g__law_names_hold_6)
def g__law_names_hold_4 : SSem := (sQ (sA 5 (eIf (cB (eOp eqD (eCallD m__law_take [] [(eN 0), (eC (.int 4))]) (eC (.int 0)))) (eC .non) (eOp subD (eOp addD (eN 4) (eCallD m__law_take [] [(eN 0), (eC (.int 5))])) (eC (.int 3)))))
  g__law_names_hold_5)
def g__law_names_hold_3 : SSem := (sQ (sA 4 (eOp mulD (eOp subD (eCallD m__law_take [] [(eN 0), (eC (.int 41))]) (eC (.int 20))) (eOp idxD (eTup [(eC (.int 1)), (eOp powD (eC (.int 10)) (eC (.int 6))), (eOp powD (eC (.int 10)) (eC (.int 12))), (eOp powD (eC (.int 10)) (eC (.int 18)))]) (eCallD m__law_take [] [(eN 0), (eC (.int 4))]))))
  g__law_names_hold_4)
def g__law_names_hold_16 : SSem := (sQ (sA 8 (eCallD m_is_name [] [(eN 3), (eN 9)]))
  (sIf (cOr (cNot (cT (eU (isiD [("NoneType", false), ("bool", true), ("int", false), ("str", false), ("tuple", false), ("list", false), ("dict", false)] []) (eN 8)))) (cB (eOp neD (eN 8) (eAnd (eChain leD leD (eC (.int 1)) (eU lenD (eN 3)) (eN 9)) (eCallD m__law_all_letters [] [(eN 3)]))))) (sR (eC (.bl false))) sN))
def g__law_names_hold_15 : SSem := (sQ (sA 3 (eCallD m__law_text [] [(eN 0), (eC (.int 12))]))
  g__law_names_hold_16)
def g__law_names_hold_14 : SSem := (sQ (sA 9 (eOp addD (eC (.int 1)) (eCallD m__law_take [] [(eN 0), (eC (.int 9))])))
  g__law_names_hold_15)
def g__law_names_hold_20 : SSem := (sQ (sIf (cOr (cB (eOp isntA (eCallD m_is_number [] [(eC (.str "onemany"))]) (eC (.bl false)))) (cOr (cB (eOp isntA (eCallD m_is_number [] [(eC (.str ""))]) (eC (.bl false)))) (cB (eOp isntA (eCallD m_is_number [] [(eC (.str "n"))]) (eC (.bl false)))))) (sR (eC (.bl false))) sN)
  (sR (eCallD m__law_endings_hold [] [(eN 0)])))
def g__law_names_hold_19 : SSem := (sQ (sIf (cOr (cB (eOp isntA (eCallD m_is_number [] [(eC (.str "one"))]) (eC (.bl true)))) (cOr (cB (eOp isntA (eCallD m_is_number [] [(eC (.str "many"))]) (eC (.bl true)))) (cB (eOp neD (eCallD m_is_number [] [(eN 3)]) (eOp inA (eN 3) (eTup [(eC (.str "one")), (eC (.str "many"))])))))) (sR (eC (.bl false))) sN)
  g__law_names_hold_20)
def g__law_names_hold_18 : SSem := (sQ (sA 3 (eCallD m__law_text [] [(eN 0), (eC (.int 5))]))
  g__law_names_hold_19)
def g__law_names_hold_17 : SSem := (sQ (sFor (eTup [(eC .non), (eC (.int 7)), (eC (.bl true)), (eTup [(eC (.str "a"))]), (eLst [(eC (.str "a")), (eC (.str "b"))]), (eDic1 (.inr "a") (.int 1))]) (tgN 2) (sIf (cOr (cB (eOp isntA (eCallD m_is_name [] [(eN 2), (eC (.int 6))]) (eC (.bl false)))) (cB (eOp isntA (eCallD m_is_number [] [(eN 2)]) (eC (.bl false))))) (sR (eC (.bl false))) sN))
  g__law_names_hold_18)
def g__law_names_hold_13 : SSem := (sQ (sForR rngOf1 [(eC (.int 6))] (tgN 1) g__law_names_hold_14)
  g__law_names_hold_17)
def g__law_names_hold_2 : SSem := (sQ (sForR rngOf1 [(eC (.int 6))] (tgN 1) g__law_names_hold_3)
  g__law_names_hold_13)
def g__law_names_hold_1 : SSem := (sQ (sIf (cOr (cB (eOp neD (eC (.ktp ["one", "many"])) (eTup [(eC (.str "one")), (eC (.str "many"))]))) (cOr (cB (eOp neD (eCallD m_number_rank [] [(eC (.str "one"))]) (eC (.int 0)))) (cOr (cB (eOp neD (eCallD m_number_rank [] [(eC (.str "many"))]) (eC (.int 1)))) (cB (eOp neD (eCallD m_number_rank [] [(eC .non)]) (eC (.int 0))))))) (sR (eC (.bl false))) sN)
  g__law_names_hold_2)
def g__law_names_hold : SSem := g__law_names_hold_1
def m__law_names_hold : FSem := runB g__law_names_hold 10
theorem sc__law_names_hold : FnScope ["_law_hand_here", "_law_turn", "_law_thing_here", "_law_word", "_law_near", "_law_floor", "_law_top", "_law_due", "_law_told_here", "_law_most"] ["_law_hand_here"] (defScope (d__law_names_hold).st) := ⟨rfl, rfl, rfl, by decide +kernel, rfl, by decide +kernel, by decide +kernel⟩
theorem ok__law_names_hold {w : World} {K : PySem.W.Frag} {mg : Str → Option Value} (T : Tx fs ds K mg) : ∃ fd, (∀ base : Heap, FnG P0 w K mg base 6 ((d__law_names_hold).at_.ad K) fd ["_law_hand_here"] (spOf ⟨K, mg, I0⟩ 1 m__law_names_hold)) ∧ PySem.W.keepIn K (.ref ((d__law_names_hold).at_.ad K)) = true ∧ (Binds K fd ["_law_hand_here"] []) := by
  obtain ⟨e, c⟩ := T.c.at_ (i := 18) (d := d__law_names_hold) rfl
  obtain ⟨fd, F⟩ := DF.funD (d := d__law_names_hold) rfl e c
  obtain ⟨fd_number_rank, Ga_number_rank, k_number_rank, B_number_rank⟩ := ok_number_rank (w := w) T
  obtain ⟨fd__law_take, Ga__law_take, k__law_take, B__law_take⟩ := ok__law_take (w := w) T
  obtain ⟨fd__law_thing, Ga__law_thing, k__law_thing, B__law_thing⟩ := ok__law_thing (w := w) T
  obtain ⟨fd__law_is_int, Ga__law_is_int, k__law_is_int, B__law_is_int⟩ := ok__law_is_int (w := w) T
  obtain ⟨fd_is_whole, Ga_is_whole, k_is_whole, ⟨dv_is_whole_0, V_is_whole_0, B_is_whole_0⟩, ⟨dv_is_whole_1, V_is_whole_1, B_is_whole_1⟩, ⟨dv_is_whole_2, V_is_whole_2, B_is_whole_2⟩, ⟨gk_is_whole, KB_is_whole⟩⟩ := ok_is_whole (w := w) T
  obtain ⟨fd__law_text, Ga__law_text, k__law_text, B__law_text⟩ := ok__law_text (w := w) T
  obtain ⟨fd_is_name, Ga_is_name, k_is_name, B_is_name⟩ := ok_is_name (w := w) T
  obtain ⟨fd__law_all_letters, Ga__law_all_letters, k__law_all_letters, B__law_all_letters⟩ := ok__law_all_letters (w := w) T
  obtain ⟨fd_is_number, Ga_is_number, k_is_number, B_is_number⟩ := ok_is_number (w := w) T
  obtain ⟨fd__law_endings_hold, Ga__law_endings_hold, k__law_endings_hold, B__law_endings_hold⟩ := ok__law_endings_hold (w := w) T
  have SC := sc__law_names_hold
  refine ⟨fd, fun base => ?_, F.kp, F.bindsN fun _ _ _ _ _ _ us hl => match us, hl with | [_], _ => rfl⟩
  have G_number_rank := Ga_number_rank base
  have G__law_take := Ga__law_take base
  have G__law_thing := Ga__law_thing base
  have G__law_is_int := Ga__law_is_int base
  have G_is_whole := Ga_is_whole base
  have G__law_text := Ga__law_text base
  have G_is_name := Ga_is_name base
  have G__law_all_letters := Ga__law_all_letters base
  have G_is_number := Ga_is_number base
  have G__law_endings_hold := Ga__law_endings_hold base
  refine fn_dataG F SC fun cdv A outer s H E hgd hr tk => ?_
  exact (sss_cons (ss_if (SW.sc (sw_or (q_ne (u65 hr) (k_gtup rfl (T.glo 59 rfl) (ktB_ok (T.c.fact (i := 60) rfl))) (se_tup (sl_cons se_str (sl_cons se_str sl_nil)))) (sw_or (q_ne (u65 hr) (se_callD G_number_rank (hr.mono (by decide)) rfl (T.glo 61 rfl) k_number_rank B_number_rank .nil (fun _ => .nil) tk (sa_cons se_str sa_nil) rfl) se_int) (sw_or (q_ne (u65 hr) (se_callD G_number_rank (hr.mono (by decide)) rfl (T.glo 61 rfl) k_number_rank B_number_rank .nil (fun _ => .nil) tk (sa_cons se_str sa_nil) rfl) se_int) (sw_or1 (q_ne (u65 hr) (se_callD G_number_rank (hr.mono (by decide)) rfl (T.glo 61 rfl) k_number_rank B_number_rank .nil (fun _ => .nil) tk (sa_cons se_non sa_nil) rfl) se_int)))))) (sss_one (ss_ret se_bl)) sss_nil)
  (sss_cons (ss_for1 (passes_of rfl) rfl rfl (T.free 4 rfl) (sl_cons se_int sl_nil) (st_name (pg_name (i := 1) SC.nd rfl (by first | exact Or.inl rfl | exact Or.inr rfl))) (sss_cons (ss_set (i := 4) SC.nd rfl (by first | exact Or.inl rfl | exact Or.inr rfl) (k_mul (k_sub (se_callD G__law_take (hr.mono (by decide)) rfl (T.glo 3 rfl) k__law_take B__law_take .nil (fun _ => .nil) tk (sa_cons (se_name (pv 0)) (sa_cons se_int sa_nil)) rfl) se_int) (se_idx (se_tup (sl_cons se_int (sl_cons (k_pow se_int se_int) (sl_cons (k_pow se_int se_int) (sl_cons (k_pow se_int se_int) sl_nil))))) (se_callD G__law_take (hr.mono (by decide)) rfl (T.glo 3 rfl) k__law_take B__law_take .nil (fun _ => .nil) tk (sa_cons (se_name (pv 0)) (sa_cons se_int sa_nil)) rfl) (fun _ _ => rfl))))
  (sss_cons (ss_set (i := 5) SC.nd rfl (by first | exact Or.inl rfl | exact Or.inr rfl) (se_if (q_eq (u65 hr) (se_callD G__law_take (hr.mono (by decide)) rfl (T.glo 3 rfl) k__law_take B__law_take .nil (fun _ => .nil) tk (sa_cons (se_name (pv 0)) (sa_cons se_int sa_nil)) rfl) se_int) se_non (k_sub (k_add (se_name (pv 4)) (se_callD G__law_take (hr.mono (by decide)) rfl (T.glo 3 rfl) k__law_take B__law_take .nil (fun _ => .nil) tk (sa_cons (se_name (pv 0)) (sa_cons se_int sa_nil)) rfl)) se_int)))
  (sss_cons (ss_set (i := 6) SC.nd rfl (by first | exact Or.inl rfl | exact Or.inr rfl) (se_if (q_eq (u65 hr) (se_callD G__law_take (hr.mono (by decide)) rfl (T.glo 3 rfl) k__law_take B__law_take .nil (fun _ => .nil) tk (sa_cons (se_name (pv 0)) (sa_cons se_int sa_nil)) rfl) se_int) se_non (k_sub (k_add (se_name (pv 4)) (se_callD G__law_take (hr.mono (by decide)) rfl (T.glo 3 rfl) k__law_take B__law_take .nil (fun _ => .nil) tk (sa_cons (se_name (pv 0)) (sa_cons se_int sa_nil)) rfl)) se_int)))
  (sss_cons (ss_set (i := 2) SC.nd rfl (by first | exact Or.inl rfl | exact Or.inr rfl) (se_callD G__law_thing (hr.mono (by decide)) rfl (T.glo 62 rfl) k__law_thing B__law_thing .nil (fun _ => .nil) tk (sa_cons (se_name (pv 0)) (sa_cons (se_name (pv 4)) sa_nil)) rfl))
  (sss_cons (ss_set (i := 7) SC.nd rfl (by first | exact Or.inl rfl | exact Or.inr rfl) (se_and (se_callD G__law_is_int (hr.mono (by decide)) rfl (T.glo 63 rfl) k__law_is_int B__law_is_int .nil (fun _ => .nil) tk (sa_cons (se_name (pv 2)) sa_nil) rfl) (se_and (se_or (k_isA (se_name (pv 5)) se_non) (se_one (k_ge (se_name (pv 2)) (se_name (pv 5))))) (se_one (se_or (k_isA (se_name (pv 6)) se_non) (se_one (k_le (se_name (pv 2)) (se_name (pv 6)))))))))
  (sss_cons (ss_set (i := 8) SC.nd rfl (by first | exact Or.inl rfl | exact Or.inr rfl) (se_callD G_is_whole (hr.mono (by decide)) rfl (T.glo 64 rfl) k_is_whole B_is_whole_0 V_is_whole_0 (fun _ => .nil) tk (sa_cons (se_name (pv 2)) (sa_cons (se_name (pv 5)) (sa_cons (se_name (pv 6)) sa_nil))) rfl))
  (sss_cons (ss_if (SW.sc (sw_or (sc_not (q_val (se_isi (l6 T) (.ty _) (T.free 9 rfl) (se_name (pv 8)) (pe_bltn (v := .ty "bool") rfl (T.free 55 rfl) bt_bool rfl)))) (sw_or1 (q_ne (u65 hr) (se_name (pv 8)) (se_name (pv 7)))))) (sss_one (ss_ret se_bl)) sss_nil)
  (sss_cons (ss_set (i := 8) SC.nd rfl (by first | exact Or.inl rfl | exact Or.inr rfl) (se_callD G_is_whole (hr.mono (by decide)) rfl (T.glo 64 rfl) k_is_whole B_is_whole_2 V_is_whole_2 (fun _ => (.cons .non (.cons .non .nil))) tk (sa_cons (se_name (pv 2)) sa_nil) rfl))
  (sss_cons (ss_if (SW.sc (sw_or (sc_not (q_val (se_isi (l6 T) (.ty _) (T.free 9 rfl) (se_name (pv 8)) (pe_bltn (v := .ty "bool") rfl (T.free 55 rfl) bt_bool rfl)))) (sw_or1 (q_ne (u65 hr) (se_name (pv 8)) (se_callD G__law_is_int (hr.mono (by decide)) rfl (T.glo 63 rfl) k__law_is_int B__law_is_int .nil (fun _ => .nil) tk (sa_cons (se_name (pv 2)) sa_nil) rfl))))) (sss_one (ss_ret se_bl)) sss_nil)
  (sss_cons (ss_set (i := 8) SC.nd rfl (by first | exact Or.inl rfl | exact Or.inr rfl) (se_kw11 G_is_whole (hr.mono (by decide)) rfl (T.glo 64 rfl) k_is_whole KB_is_whole (fun _ => .non) tk (se_name (pv 2)) (se_name (pv 6))))
  (sss_one (ss_if (q_ne (u65 hr) (se_name (pv 8)) (se_and (se_callD G__law_is_int (hr.mono (by decide)) rfl (T.glo 63 rfl) k__law_is_int B__law_is_int .nil (fun _ => .nil) tk (sa_cons (se_name (pv 2)) sa_nil) rfl) (se_one (se_or (k_isA (se_name (pv 6)) se_non) (se_one (k_le (se_name (pv 2)) (se_name (pv 6)))))))) (sss_one (ss_ret se_bl)) sss_nil)))))))))))))
  (sss_cons (ss_for1 (passes_of rfl) rfl rfl (T.free 4 rfl) (sl_cons se_int sl_nil) (st_name (pg_name (i := 1) SC.nd rfl (by first | exact Or.inl rfl | exact Or.inr rfl))) (sss_cons (ss_set (i := 9) SC.nd rfl (by first | exact Or.inl rfl | exact Or.inr rfl) (k_add se_int (se_callD G__law_take (hr.mono (by decide)) rfl (T.glo 3 rfl) k__law_take B__law_take .nil (fun _ => .nil) tk (sa_cons (se_name (pv 0)) (sa_cons se_int sa_nil)) rfl)))
  (sss_cons (ss_set (i := 3) SC.nd rfl (by first | exact Or.inl rfl | exact Or.inr rfl) (se_callD G__law_text (hr.mono (by decide)) rfl (T.glo 50 rfl) k__law_text B__law_text .nil (fun _ => .nil) tk (sa_cons (se_name (pv 0)) (sa_cons se_int sa_nil)) rfl))
  (sss_cons (ss_set (i := 8) SC.nd rfl (by first | exact Or.inl rfl | exact Or.inr rfl) (se_callD G_is_name (hr.mono (by decide)) rfl (T.glo 65 rfl) k_is_name B_is_name .nil (fun _ => .nil) tk (sa_cons (se_name (pv 3)) (sa_cons (se_name (pv 9)) sa_nil)) rfl))
  (sss_one (ss_if (SW.sc (sw_or (sc_not (q_val (se_isi (l6 T) (.ty _) (T.free 9 rfl) (se_name (pv 8)) (pe_bltn (v := .ty "bool") rfl (T.free 55 rfl) bt_bool rfl)))) (sw_or1 (q_ne (u65 hr) (se_name (pv 8)) (se_and (se_chain op_le ops_cmp op_le ops_cmp se_int (k_len (T.free 0 rfl) (se_name (pv 3))) (se_name (pv 9))) (se_one (se_callD G__law_all_letters (hr.mono (by decide)) rfl (T.glo 49 rfl) k__law_all_letters B__law_all_letters .nil (fun _ => .nil) tk (sa_cons (se_name (pv 3)) sa_nil) rfl))))))) (sss_one (ss_ret se_bl)) sss_nil))))))
  (sss_cons (ss_for (passes_of rfl) rfl (se_tup (sl_cons se_non (sl_cons se_int (sl_cons se_bl (sl_cons (se_tup (sl_cons se_str sl_nil)) (sl_cons (se_lst (sl_cons se_str (sl_cons se_str sl_nil))) (sl_cons (k_dict1 (k := (.inr "a")) pe_str pe_int (fun _ => .int _)) sl_nil))))))) (st_name (pg_name (i := 2) SC.nd rfl (by first | exact Or.inl rfl | exact Or.inr rfl))) (sss_one (ss_if (SW.sc (sw_or (q_isntA (se_callD G_is_name (hr.mono (by decide)) rfl (T.glo 65 rfl) k_is_name B_is_name .nil (fun _ => .nil) tk (sa_cons (se_name (pv 2)) (sa_cons se_int sa_nil)) rfl) se_bl) (sw_or1 (q_isntA (se_callD G_is_number (hr.mono (by decide)) rfl (T.glo 66 rfl) k_is_number B_is_number .nil (fun _ => .nil) tk (sa_cons (se_name (pv 2)) sa_nil) rfl) se_bl)))) (sss_one (ss_ret se_bl)) sss_nil)))
  (sss_cons (ss_set (i := 3) SC.nd rfl (by first | exact Or.inl rfl | exact Or.inr rfl) (se_callD G__law_text (hr.mono (by decide)) rfl (T.glo 50 rfl) k__law_text B__law_text .nil (fun _ => .nil) tk (sa_cons (se_name (pv 0)) (sa_cons se_int sa_nil)) rfl))
  (sss_cons (ss_if (SW.sc (sw_or (q_isntA (se_callD G_is_number (hr.mono (by decide)) rfl (T.glo 66 rfl) k_is_number B_is_number .nil (fun _ => .nil) tk (sa_cons se_str sa_nil) rfl) se_bl) (sw_or (q_isntA (se_callD G_is_number (hr.mono (by decide)) rfl (T.glo 66 rfl) k_is_number B_is_number .nil (fun _ => .nil) tk (sa_cons se_str sa_nil) rfl) se_bl) (sw_or1 (q_ne (u65 hr) (se_callD G_is_number (hr.mono (by decide)) rfl (T.glo 66 rfl) k_is_number B_is_number .nil (fun _ => .nil) tk (sa_cons (se_name (pv 3)) sa_nil) rfl) (k_inA (u65 hr) (se_name (pv 3)) (se_tup (sl_cons se_str (sl_cons se_str sl_nil))))))))) (sss_one (ss_ret se_bl)) sss_nil)
  (sss_cons (ss_if (SW.sc (sw_or (q_isntA (se_callD G_is_number (hr.mono (by decide)) rfl (T.glo 66 rfl) k_is_number B_is_number .nil (fun _ => .nil) tk (sa_cons se_str sa_nil) rfl) se_bl) (sw_or (q_isntA (se_callD G_is_number (hr.mono (by decide)) rfl (T.glo 66 rfl) k_is_number B_is_number .nil (fun _ => .nil) tk (sa_cons se_str sa_nil) rfl) se_bl) (sw_or1 (q_isntA (se_callD G_is_number (hr.mono (by decide)) rfl (T.glo 66 rfl) k_is_number B_is_number .nil (fun _ => .nil) tk (sa_cons se_str sa_nil) rfl) se_bl))))) (sss_one (ss_ret se_bl)) sss_nil)
  (sss_one (ss_ret (se_callG G__law_endings_hold hgd (hr.mono (by decide)) rfl (T.glo 67 rfl) k__law_endings_hold B__law_endings_hold .nil (fun _ => .nil) tk (sa_cons (se_name (pv 0)) sa_nil) rfl))))))))))
/-! #### _law_shuffled -/
def g__law_shuffled : SSem := (sQ (sPar2 2 3 (eU listD (eN 1)) (eLst []))
  (sQ (sWh (cT (eN 2)) (sE (eMut 3 appM [(eMut 2 popM [(eCallD m__law_take [] [(eN 0), (eU lenD (eN 2))])])])))
  (sR (eN 3))))
def m__law_shuffled : FSem := runB g__law_shuffled 4
theorem sc__law_shuffled : FnScope ["_law_hand_here", "_law_row", "_law_left", "_law_found"] ["_law_hand_here", "_law_row"] (defScope (d__law_shuffled).st) := ⟨rfl, rfl, rfl, by decide +kernel, rfl, by decide +kernel, by decide +kernel⟩
theorem ok__law_shuffled {w : World} {K : PySem.W.Frag} {mg : Str → Option Value} (T : Tx fs ds K mg) : ∃ fd, (∀ base : Heap, FnOk P0 w K mg base (L2.CX P0 w) 3 ((d__law_shuffled).at_.ad K) fd ["_law_hand_here", "_law_row"] (spOf ⟨K, mg, I0⟩ 2 m__law_shuffled)) ∧ PySem.W.keepIn K (.ref ((d__law_shuffled).at_.ad K)) = true ∧ (Binds K fd ["_law_hand_here", "_law_row"] []) := by
  obtain ⟨e, c⟩ := T.c.at_ (i := 19) (d := d__law_shuffled) rfl
  obtain ⟨fd, F⟩ := DF.funD (d := d__law_shuffled) rfl e c
  obtain ⟨fd__law_take, Ga__law_take, k__law_take, B__law_take⟩ := ok__law_take (w := w) T
  have SC := sc__law_shuffled
  refine ⟨fd, fun base => ?_, F.kp, F.bindsN fun _ _ _ _ _ _ us hl => match us, hl with | [_, _], _ => rfl⟩
  have G__law_take := Ga__law_take base
  refine fn_dataD F SC fun cdv A outer s H E hr tk => ?_
  exact (sss_cons (ss_par2 (i := 2) (j := 3) rfl SC.nd rfl rfl (by decide) rfl rfl (k_list (T.free 5 rfl) (se_name (pv 1))) (se_lst sl_nil) rfl)
  (sss_cons (ss_while (passes_of rfl) (q_val (se_name (pv 2))) (sss_one (ss_expr (k_append (pv 3) (k_pop (pv 2) (se_callD G__law_take (hr.mono (by decide)) rfl (T.glo 3 rfl) k__law_take B__law_take .nil (fun _ => .nil) tk (sa_cons (se_name (pv 0)) (sa_cons (k_len (T.free 0 rfl) (se_name (pv 2))) sa_nil)) rfl))))))
  (sss_one (ss_ret (se_name (pv 3))))))
/-! #### _law_couples -/
def g__law_couples : SSem := (sQ (sIf (cB (eOp eqD (eN 1) (eC (.int 1)))) (sR (eLst [])) sN)
  (sQ (sA 2 (eLst []))
  (sQ (sA 3 (eIf (cB (eOp eqD (eCallD m__law_take [] [(eN 0), (eC (.int 8))]) (eC (.int 0)))) (eOp addD (eC (.int 25)) (eCallD m__law_take [] [(eN 0), (eC (.int 9))])) (eCallD m__law_take [] [(eN 0), (eC (.int 10))])))
  (sQ (sA 4 (eCallD m__law_shuffled [] [(eN 0), (eLstRg rngOf1 [(eN 1)])]))
  (sQ (sA 5 (eOp gtD (eCallD m__law_take [] [(eN 0), (eC (.int 3))]) (eC (.int 0))))
  (sQ (sForR rngOf1 [(eN 3)] (tgN 6) (sQ (sA 7 (eCallD m__law_take [] [(eN 0), (eN 1)]))
  (sQ (sA 8 (eOp modD (eU intD (eOp addD (eOp addD (eN 7) (eC (.int 1))) (eCallD m__law_take [] [(eN 0), (eOp subD (eN 1) (eC (.int 1)))]))) (eN 1)))
  (sQ (sIf (cAnd (cT (eN 5)) (cB (eOp gtD (eN 7) (eN 8)))) (sPar 7 8 (eN 8) (eN 7)) sN)
  (sE (eMut 2 appM [(eTup [(eOp idxD (eN 4) (eN 7)), (eOp idxD (eN 4) (eN 8))])]))))))
  (sR (eN 2))))))))
def m__law_couples : FSem := runB g__law_couples 9
theorem sc__law_couples : FnScope ["_law_hand_here", "_law_many", "_law_found", "_law_count", "_law_row", "_law_ringless", "_law_k", "_law_one", "_law_other"] ["_law_hand_here", "_law_many"] (defScope (d__law_couples).st) := ⟨rfl, rfl, rfl, by decide +kernel, rfl, by decide +kernel, by decide +kernel⟩
theorem ok__law_couples {w : World} {K : PySem.W.Frag} {mg : Str → Option Value} (T : Tx fs ds K mg) : ∃ fd, (∀ base : Heap, FnOk P0 w K mg base (L2.CX P0 w) 4 ((d__law_couples).at_.ad K) fd ["_law_hand_here", "_law_many"] (spOf ⟨K, mg, I0⟩ 2 m__law_couples)) ∧ PySem.W.keepIn K (.ref ((d__law_couples).at_.ad K)) = true ∧ (Binds K fd ["_law_hand_here", "_law_many"] []) := by
  obtain ⟨e, c⟩ := T.c.at_ (i := 20) (d := d__law_couples) rfl
  obtain ⟨fd, F⟩ := DF.funD (d := d__law_couples) rfl e c
  obtain ⟨fd__law_take, Ga__law_take, k__law_take, B__law_take⟩ := ok__law_take (w := w) T
  obtain ⟨fd__law_shuffled, Ga__law_shuffled, k__law_shuffled, B__law_shuffled⟩ := ok__law_shuffled (w := w) T
  have SC := sc__law_couples
  refine ⟨fd, fun base => ?_, F.kp, F.bindsN fun _ _ _ _ _ _ us hl => match us, hl with | [_, _], _ => rfl⟩
  have G__law_take := Ga__law_take base
  have G__law_shuffled := Ga__law_shuffled base
  refine fn_dataD F SC fun cdv A outer s H E hr tk => ?_
  exact (sss_cons (ss_if (q_eq (u65 hr) (se_name (pv 1)) se_int) (sss_one (ss_ret (se_lst sl_nil))) sss_nil)
  (sss_cons (ss_set (i := 2) SC.nd rfl (by first | exact Or.inl rfl | exact Or.inr rfl) (se_lst sl_nil))
  (sss_cons (ss_set (i := 3) SC.nd rfl (by first | exact Or.inl rfl | exact Or.inr rfl) (se_if (q_eq (u65 hr) (se_callD G__law_take (hr.mono (by decide)) rfl (T.glo 3 rfl) k__law_take B__law_take .nil (fun _ => .nil) tk (sa_cons (se_name (pv 0)) (sa_cons se_int sa_nil)) rfl) se_int) (k_add se_int (se_callD G__law_take (hr.mono (by decide)) rfl (T.glo 3 rfl) k__law_take B__law_take .nil (fun _ => .nil) tk (sa_cons (se_name (pv 0)) (sa_cons se_int sa_nil)) rfl)) (se_callD G__law_take (hr.mono (by decide)) rfl (T.glo 3 rfl) k__law_take B__law_take .nil (fun _ => .nil) tk (sa_cons (se_name (pv 0)) (sa_cons se_int sa_nil)) rfl)))
  (sss_cons (ss_set (i := 4) SC.nd rfl (by first | exact Or.inl rfl | exact Or.inr rfl) (se_callD G__law_shuffled (hr.mono (by decide)) rfl (T.glo 68 rfl) k__law_shuffled B__law_shuffled .nil (fun _ => .nil) tk (sa_cons (se_name (pv 0)) (sa_cons (k_listRg rfl (T.free 5 rfl) (T.free 4 rfl) (se_name (pv 1))) sa_nil)) rfl))
  (sss_cons (ss_set (i := 5) SC.nd rfl (by first | exact Or.inl rfl | exact Or.inr rfl) (k_gt (se_callD G__law_take (hr.mono (by decide)) rfl (T.glo 3 rfl) k__law_take B__law_take .nil (fun _ => .nil) tk (sa_cons (se_name (pv 0)) (sa_cons se_int sa_nil)) rfl) se_int))
  (sss_cons (ss_for1 (passes_of rfl) rfl rfl (T.free 4 rfl) (sl_cons (se_name (pv 3)) sl_nil) (st_name (pg_name (i := 6) SC.nd rfl (by first | exact Or.inl rfl | exact Or.inr rfl))) (sss_cons (ss_set (i := 7) SC.nd rfl (by first | exact Or.inl rfl | exact Or.inr rfl) (se_callD G__law_take (hr.mono (by decide)) rfl (T.glo 3 rfl) k__law_take B__law_take .nil (fun _ => .nil) tk (sa_cons (se_name (pv 0)) (sa_cons (se_name (pv 1)) sa_nil)) rfl))
  (sss_cons (ss_set (i := 8) SC.nd rfl (by first | exact Or.inl rfl | exact Or.inr rfl) (k_mod (k_int (T.free 1 rfl) (k_add (k_add (se_name (pv 7)) se_int) (se_callD G__law_take (hr.mono (by decide)) rfl (T.glo 3 rfl) k__law_take B__law_take .nil (fun _ => .nil) tk (sa_cons (se_name (pv 0)) (sa_cons (k_sub (se_name (pv 1)) se_int) sa_nil)) rfl))) (se_name (pv 1))))
  (sss_cons (ss_if (SW.sc (sw_and (q_val (se_name (pv 5))) (sw_and1 (q_gt (se_name (pv 7)) (se_name (pv 8)))))) (sss_one (ss_par (i := 7) (j := 8) rfl SC.nd rfl rfl (by decide) rfl rfl (sl_cons (se_name (pv 8)) (sl_cons (se_name (pv 7)) sl_nil)) rfl)) sss_nil)
  (sss_one (ss_expr (k_append (pv 2) (se_tup (sl_cons (se_idx (se_name (pv 4)) (se_name (pv 7)) (fun _ _ => rfl)) (sl_cons (se_idx (se_name (pv 4)) (se_name (pv 8)) (fun _ _ => rfl)) sl_nil))))))))))
  (sss_one (ss_ret (se_name (pv 2))))))))))
/-! #### closure_of -/
def g_closure_of : SSem := (sQ (sA 1 (eDT ⟨(srcD (eN 0)), (tgU 2 (tgCons (tgN 5) (tgCons (tgN 6) tgNil))), cYes⟩ [] (eTup [(eN 5), (eN 6)]) (eC (.bl true)) [5, 6]))
  (sQ (sA 2 (eSI ⟨(srcD (eN 0)), (tgN 7), cYes⟩ [⟨(srcD (eN 7)), (tgN 8), cYes⟩] (eN 8) [7, 8]))
  (sQ (sFor (eN 2) (tgN 3) (sFor (eN 2) (tgN 4) (sIf (cB (eOp inA (eTup [(eN 4), (eN 3)]) (eN 1))) (sFor (eN 2) (tgN 9) (sIf (cB (eOp inA (eTup [(eN 3), (eN 9)]) (eN 1))) (sIA 1 (eTup [(eN 4), (eN 9)]) (eC (.bl true))) sN)) sN)))
  (sR (eU tupD (eU srtA (eN 1)))))))
def m_closure_of : FSem := runB g_closure_of 10
theorem sc_closure_of : FnScope ["rules", "led", "roles", "middle", "first", "ahead", "behind", "rule", "role", "last"] ["rules"] (defScope (d_closure_of).st) := ⟨rfl, rfl, rfl, by decide +kernel, rfl, by decide +kernel, by decide +kernel⟩
theorem ok_closure_of {w : World} {K : PySem.W.Frag} {mg : Str → Option Value} (T : Tx fs ds K mg) : ∃ fd, (∀ base : Heap, FnOk P0 w K mg base (L2.CX P0 w) 1 ((d_closure_of).at_.ad K) fd ["rules"] (spOf ⟨K, mg, I0⟩ 1 m_closure_of)) ∧ PySem.W.keepIn K (.ref ((d_closure_of).at_.ad K)) = true ∧ (Binds K fd ["rules"] []) := by
  obtain ⟨e, c⟩ := T.c.at_ (i := 21) (d := d_closure_of) rfl
  obtain ⟨fd, F⟩ := DF.funD (d := d_closure_of) rfl e c
  have SC := sc_closure_of
  refine ⟨fd, fun base => ?_, F.kp, F.bindsN fun _ _ _ _ _ _ us hl => match us, hl with | [_], _ => rfl⟩
  refine fn_dataD F SC fun cdv A outer s H E hr tk => ?_
  exact (sss_cons (ss_dT1 (c := ⟨(srcD (eN 0)), (tgU 2 (tgCons (tgN 5) (tgCons (tgN 6) tgNil))), cYes⟩) (i := 1) (u0_of (u65 hr)) rfl SC.nd rfl rfl rfl (own := [("ahead", 5), ("behind", 6)]) (si_data (se_name (pv 0))) (blkOk_by (N := ["rules", "led", "roles", "middle", "first", "ahead", "behind", "rule", "role", "last"]) (sc := defScope (d_closure_of).st) (by decide +kernel)) (fun x => (sg_tup rfl (sgs_cons (sg_name (pg_name (i := 5) SC.nd rfl (Or.inl rfl) (Or.inr rfl)) (by decide)) (sgs_cons (sg_name (pg_name (i := 6) SC.nd rfl (Or.inl rfl) (Or.inr rfl)) (by decide)) sgs_nil)))) (fun x => spt_nil) (fun x => (se_tup (sl_cons (se_name (pv 5)) (sl_cons (se_name (pv 6)) sl_nil)))) (fun x => se_bl))
  (sss_cons (ss_set (i := 2) SC.nd rfl (by first | exact Or.inl rfl | exact Or.inr rfl) (se_si2 (c := ⟨(srcD (eN 0)), (tgN 7), cYes⟩) (c1 := ⟨(srcD (eN 7)), (tgN 8), cYes⟩) rfl (T.free 69 rfl) rfl SC.nd (own := [("rule", 7), ("role", 8)]) (si_data (se_name (pv 0))) (blkOk_by (N := ["rules", "led", "roles", "middle", "first", "ahead", "behind", "rule", "role", "last"]) (sc := defScope (d_closure_of).st) (by decide +kernel)) (fun x => (sg_name (pg_name (i := 7) SC.nd rfl (Or.inl rfl) (Or.inr rfl)) (by decide))) (fun x => spt_nil) (fun x => (si_data (se_name (pv 7)))) (fun x => (sg_name (pg_name (i := 8) SC.nd rfl (Or.inl rfl) (Or.inr rfl)) (by decide))) (fun x => spt_nil) (fun x => (se_name (pv 8)))))
  (sss_cons (ss_for (passes_of rfl) rfl (se_name (pv 2)) (st_name (pg_name (i := 3) SC.nd rfl (by first | exact Or.inl rfl | exact Or.inr rfl))) (sss_one (ss_for (passes_of rfl) rfl (se_name (pv 2)) (st_name (pg_name (i := 4) SC.nd rfl (by first | exact Or.inl rfl | exact Or.inr rfl))) (sss_one (ss_if (q_inA (u65 hr) (se_tup (sl_cons (se_name (pv 4)) (sl_cons (se_name (pv 3)) sl_nil))) (se_name (pv 1))) (sss_one (ss_for (passes_of rfl) rfl (se_name (pv 2)) (st_name (pg_name (i := 9) SC.nd rfl (by first | exact Or.inl rfl | exact Or.inr rfl))) (sss_one (ss_if (q_inA (u65 hr) (se_tup (sl_cons (se_name (pv 3)) (sl_cons (se_name (pv 9)) sl_nil))) (se_name (pv 1))) (sss_one (ss_itemA (u1_of (u65 hr)) (pv 1) se_bl (se_tup (sl_cons (se_name (pv 4)) (sl_cons (se_name (pv 9)) sl_nil))))) sss_nil)))) sss_nil)))))
  (sss_one (ss_ret (k_tuple (T.free 6 rfl) (k_sortedA rfl (T.free 69 rfl) (se_name (pv 1)))))))))
/-! #### has_ring -/
def g_has_ring : SSem := (sQ (sFor (eCallD m_closure_of [] [(eN 0)]) (tgT 2 (tgCons (tgN 1) (tgCons (tgN 2) tgNil))) (sIf (cB (eOp eqD (eN 1) (eN 2))) (sR (eC (.bl true))) sN))
  (sR (eC (.bl false))))
def m_has_ring : FSem := runB g_has_ring 3
theorem sc_has_ring : FnScope ["rules", "ahead", "behind"] ["rules"] (defScope (d_has_ring).st) := ⟨rfl, rfl, rfl, by decide +kernel, rfl, by decide +kernel, by decide +kernel⟩
theorem ok_has_ring {w : World} {K : PySem.W.Frag} {mg : Str → Option Value} (T : Tx fs ds K mg) : ∃ fd, (∀ base : Heap, FnOk P0 w K mg base (L2.CX P0 w) 2 ((d_has_ring).at_.ad K) fd ["rules"] (spOf ⟨K, mg, I0⟩ 1 m_has_ring)) ∧ PySem.W.keepIn K (.ref ((d_has_ring).at_.ad K)) = true ∧ (Binds K fd ["rules"] []) := by
  obtain ⟨e, c⟩ := T.c.at_ (i := 22) (d := d_has_ring) rfl
  obtain ⟨fd, F⟩ := DF.funD (d := d_has_ring) rfl e c
  obtain ⟨fd_closure_of, Ga_closure_of, k_closure_of, B_closure_of⟩ := ok_closure_of (w := w) T
  have SC := sc_has_ring
  refine ⟨fd, fun base => ?_, F.kp, F.bindsN fun _ _ _ _ _ _ us hl => match us, hl with | [_], _ => rfl⟩
  have G_closure_of := Ga_closure_of base
  refine fn_dataD F SC fun cdv A outer s H E hr tk => ?_
  exact (sss_cons (ss_for (passes_of rfl) rfl (se_callD G_closure_of (hr.mono (by decide)) rfl (T.glo 70 rfl) k_closure_of B_closure_of .nil (fun _ => .nil) tk (sa_cons (se_name (pv 0)) sa_nil) rfl) (st_tup rfl (sts_cons (st_name (pg_name (i := 1) SC.nd rfl (by first | exact Or.inl rfl | exact Or.inr rfl))) (sts_cons (st_name (pg_name (i := 2) SC.nd rfl (by first | exact Or.inl rfl | exact Or.inr rfl))) sts_nil))) (sss_one (ss_if (q_eq (u65 hr) (se_name (pv 1)) (se_name (pv 2))) (sss_one (ss_ret se_bl)) sss_nil)))
  (sss_one (ss_ret se_bl)))
/-! #### BadRules.__init__ -/
theorem ok_BadRulesq_initq {w : World} {K : PySem.W.Frag} {mg : Str → Option Value} (T : Tx fs ds K mg) : ∃ fd, (∀ base : Heap, FnOk P0 w K mg base (L2.CX P0 w) 1 ((d_BadRulesq_initq).at_.ad K) fd ["self", "index", "what"] (spErr (He.ga K "BadRules") 2 [("index", 0), ("what", 1)])) ∧ Binds K fd ["self", "index", "what"] [] := by
  obtain ⟨e, c⟩ := T.c.at_ (i := 23) (d := d_BadRulesq_initq) rfl
  obtain ⟨fd, F⟩ := DF.supFn (P := P0) (D := (He.ga K "BadRules")) rfl rfl e c (T.c.fact (i := 71) rfl)
  refine ⟨fd, fun base => fn_err (k := 0) F ⟨rfl, rfl, rfl, by decide +kernel, rfl, by decide +kernel, by decide +kernel, by decide +kernel⟩ (supCB_ok (T.c.fact (i := 74) rfl)) (by decide) (by
    intro p hp
    simp only [List.mem_cons, List.not_mem_nil, or_false] at hp
    rcases hp with rfl | rfl
    · exact ⟨by decide, of_decide_eq_true (T.c.fact (i := 72) rfl)⟩
    · exact ⟨by decide, of_decide_eq_true (T.c.fact (i := 73) rfl)⟩
    ) (by decide) (by decide) 2 rfl rfl rfl rfl (T.free 75 rfl) rfl rfl rfl (by decide +kernel) (of_decide_eq_true (T.c.fact (i := 76) rfl)) (fun _ => rfl) (fun _ => rfl) (fun _ => rfl) (fun _ => rfl) fun X hN hK hs => ⟨(pargs_c pe_str (pargs_v (i := 1) (pvN 1 hN (by rw [hs]; rfl)) (by decide) (pargs_v (i := 2) (pvN 2 hN (by rw [hs]; rfl)) (by decide) pargs_nil))), (.cons (ps_ost (pvN 0 hN (by rw [hs]; rfl)) (pvN 1 hN (by rw [hs]; rfl))) (.cons (ps_ost (pvN 0 hN (by rw [hs]; rfl)) (pvN 2 hN (by rw [hs]; rfl))) .nil))⟩, ?_⟩
  obtain ⟨oc, od, kV, doc, pm, an, cda, ct, osl, cc, ccl, cdd, cvs, ccs, file, tf, cl, cld, csl, rfl, _⟩ := F.ex
  exact .all fun us hl => match us, hl with | [_, _, _], _ => rfl
/-! #### is_rule -/
def g_is_rule : SSem := (sQ (sIf (cOr (cNot (cT (eU (isiD [("NoneType", false), ("bool", false), ("int", false), ("str", false), ("tuple", true), ("list", true), ("dict", false)] []) (eN 1)))) (cB (eOp neD (eU lenD (eN 1)) (eC (.int 2))))) (sR (eC (.bl false))) sN)
  (sQ (sIf (cOr (cNot (cT (eCallD m_is_whole [] [(eOp idxD (eN 1) (eC (.int 0))), (eC (.int 0)), (eOp subD (eN 0) (eC (.int 1)))]))) (cNot (cT (eCallD m_is_whole [] [(eOp idxD (eN 1) (eC (.int 1))), (eC (.int 0)), (eOp subD (eN 0) (eC (.int 1)))])))) (sR (eC (.bl false))) sN)
  (sR (eOp neD (eOp idxD (eN 1) (eC (.int 0))) (eOp idxD (eN 1) (eC (.int 1)))))))
def m_is_rule : FSem := runB g_is_rule 2
theorem sc_is_rule : FnScope ["many", "thing"] ["many", "thing"] (defScope (d_is_rule).st) := ⟨rfl, rfl, rfl, by decide +kernel, rfl, by decide +kernel, by decide +kernel⟩
theorem ok_is_rule {w : World} {K : PySem.W.Frag} {mg : Str → Option Value} (T : Tx fs ds K mg) : ∃ fd, (∀ base : Heap, FnOk P0 w K mg base (L2.CX P0 w) 2 ((d_is_rule).at_.ad K) fd ["many", "thing"] (spOf ⟨K, mg, I0⟩ 2 m_is_rule)) ∧ PySem.W.keepIn K (.ref ((d_is_rule).at_.ad K)) = true ∧ (Binds K fd ["many", "thing"] []) := by
  obtain ⟨e, c⟩ := T.c.at_ (i := 24) (d := d_is_rule) rfl
  obtain ⟨fd, F⟩ := DF.funD (d := d_is_rule) rfl e c
  obtain ⟨fd_is_whole, Ga_is_whole, k_is_whole, ⟨dv_is_whole_0, V_is_whole_0, B_is_whole_0⟩, ⟨dv_is_whole_1, V_is_whole_1, B_is_whole_1⟩, ⟨dv_is_whole_2, V_is_whole_2, B_is_whole_2⟩, ⟨gk_is_whole, KB_is_whole⟩⟩ := ok_is_whole (w := w) T
  have SC := sc_is_rule
  refine ⟨fd, fun base => ?_, F.kp, F.bindsN fun _ _ _ _ _ _ us hl => match us, hl with | [_, _], _ => rfl⟩
  have G_is_whole := Ga_is_whole base
  refine fn_dataD F SC fun cdv A outer s H E hr tk => ?_
  exact (sss_cons (ss_if (SW.sc (sw_or (sc_not (q_val (se_isiT (l0 T) (.cons (.ty _) (.cons (.ty _) .nil)) (by decide) (T.free 9 rfl) (se_name (pv 1)) (pa_cons (pe_bltn (v := .ty "list") rfl (T.free 5 rfl) bt_list rfl) (pa_cons (pe_bltn (v := .ty "tuple") rfl (T.free 6 rfl) bt_tuple rfl) pa_nil)) (fun _ _ _ h => h)))) (sw_or1 (q_ne (u65 hr) (k_len (T.free 0 rfl) (se_name (pv 1))) se_int)))) (sss_one (ss_ret se_bl)) sss_nil)
  (sss_cons (ss_if (SW.sc (sw_or (sc_not (q_val (se_callD G_is_whole (hr.mono (by decide)) rfl (T.glo 64 rfl) k_is_whole B_is_whole_0 V_is_whole_0 (fun _ => .nil) tk (sa_cons (se_idx (se_name (pv 1)) se_int (fun _ _ => rfl)) (sa_cons se_int (sa_cons (k_sub (se_name (pv 0)) se_int) sa_nil))) rfl))) (sw_or1 (sc_not (q_val (se_callD G_is_whole (hr.mono (by decide)) rfl (T.glo 64 rfl) k_is_whole B_is_whole_0 V_is_whole_0 (fun _ => .nil) tk (sa_cons (se_idx (se_name (pv 1)) se_int (fun _ _ => rfl)) (sa_cons se_int (sa_cons (k_sub (se_name (pv 0)) se_int) sa_nil))) rfl)))))) (sss_one (ss_ret se_bl)) sss_nil)
  (sss_one (ss_ret (k_ne (u65 hr) (se_idx (se_name (pv 1)) se_int (fun _ _ => rfl)) (se_idx (se_name (pv 1)) se_int (fun _ _ => rfl)))))))
/-! #### check_rules -/
def g_check_rules : SSem := (sQ (sIf (cOr (cNot (cT (eU (isiD [("NoneType", false), ("bool", false), ("int", false), ("str", false), ("tuple", true), ("list", true), ("dict", false)] []) (eN 1)))) (cB (eOp gtD (eU lenD (eN 1)) (eC (.int (30)))))) (sRaise "BadRules" 2 [("index", 0), ("what", 1)] [(eC (.int 0)), (eC (.str "many"))]) sN)
  (sQ (sForR rngOf1 [(eU lenD (eN 1))] (tgN 2) (sIf (cNot (cT (eCallD m_is_rule [] [(eN 0), (eOp idxD (eN 1) (eN 2))]))) (sRaise "BadRules" 2 [("index", 0), ("what", 1)] [(eN 2), (eC (.str "rule"))]) sN))
  (sQ (sA 3 (eSP ⟨(srcD (eN 1)), (tgN 4), cYes⟩ [] (eTup [(eOp idxD (eN 4) (eC (.int 0))), (eOp idxD (eN 4) (eC (.int 1)))]) [4]))
  (sQ (sIf (cT (eCallD m_has_ring [] [(eN 3)])) (sRaise "BadRules" 2 [("index", 0), ("what", 1)] [(eC (.int 0)), (eC (.str "ring"))]) sN)
  (sR (eU tupD (eN 3)))))))
def m_check_rules : FSem := runB g_check_rules 5
theorem sc_check_rules : FnScope ["many", "rules", "place", "couples", "rule"] ["many", "rules"] (defScope (d_check_rules).st) := ⟨rfl, rfl, rfl, by decide +kernel, rfl, by decide +kernel, by decide +kernel⟩
theorem ok_check_rules {w : World} {K : PySem.W.Frag} {mg : Str → Option Value} (T : Tx fs ds K mg) : ∃ fd, (∀ base : Heap, FnOk P0 w K mg base (L2.CX P0 w) 3 ((d_check_rules).at_.ad K) fd ["many", "rules"] (spOf ⟨K, mg, I0⟩ 2 m_check_rules)) ∧ PySem.W.keepIn K (.ref ((d_check_rules).at_.ad K)) = true ∧ (Binds K fd ["many", "rules"] []) := by
  obtain ⟨e, c⟩ := T.c.at_ (i := 25) (d := d_check_rules) rfl
  obtain ⟨fd, F⟩ := DF.funD (d := d_check_rules) rfl e c
  obtain ⟨fd_BadRulesq_initq, Ga_BadRulesq_initq, B_BadRulesq_initq⟩ := ok_BadRulesq_initq (w := w) T
  obtain ⟨fd_is_rule, Ga_is_rule, k_is_rule, B_is_rule⟩ := ok_is_rule (w := w) T
  obtain ⟨fd_has_ring, Ga_has_ring, k_has_ring, B_has_ring⟩ := ok_has_ring (w := w) T
  have SC := sc_check_rules
  refine ⟨fd, fun base => ?_, F.kp, F.bindsN fun _ _ _ _ _ _ us hl => match us, hl with | [_, _], _ => rfl⟩
  have G_BadRulesq_initq := Ga_BadRulesq_initq base
  have G_is_rule := Ga_is_rule base
  have G_has_ring := Ga_has_ring base
  refine fn_dataD F SC fun cdv A outer s H E hr tk => ?_
  exact (sss_cons (ss_if (SW.sc (sw_or (sc_not (q_val (se_isiT (l0 T) (.cons (.ty _) (.cons (.ty _) .nil)) (by decide) (T.free 9 rfl) (se_name (pv 1)) (pa_cons (pe_bltn (v := .ty "list") rfl (T.free 5 rfl) bt_list rfl) (pa_cons (pe_bltn (v := .ty "tuple") rfl (T.free 6 rfl) bt_tuple rfl) pa_nil)) (fun _ _ _ h => h)))) (sw_or1 (q_gt (k_len (T.free 0 rfl) (se_name (pv 1))) (k_gint (T.int 77 rfl)))))) (sss_one (ss_raise (n := 2) (oexB_ok (T.c.fact (i := 79) rfl)) (initB_ok (T.c.fact (i := 78) rfl)).1 (initB_ok (T.c.fact (i := 78) rfl)).2 G_BadRulesq_initq (hr.mono (by decide)) B_BadRulesq_initq tk rfl rfl (T.glo 22 rfl) (sl_cons se_int (sl_cons se_str sl_nil)) (by decide) (by decide))) sss_nil)
  (sss_cons (ss_for1 (passes_of rfl) rfl rfl (T.free 4 rfl) (sl_cons (k_len (T.free 0 rfl) (se_name (pv 1))) sl_nil) (st_name (pg_name (i := 2) SC.nd rfl (by first | exact Or.inl rfl | exact Or.inr rfl))) (sss_one (ss_if (sc_not (q_val (se_callD G_is_rule (hr.mono (by decide)) rfl (T.glo 80 rfl) k_is_rule B_is_rule .nil (fun _ => .nil) tk (sa_cons (se_name (pv 0)) (sa_cons (se_idx (se_name (pv 1)) (se_name (pv 2)) (fun _ _ => rfl)) sa_nil)) rfl))) (sss_one (ss_raise (n := 2) (oexB_ok (T.c.fact (i := 79) rfl)) (initB_ok (T.c.fact (i := 78) rfl)).1 (initB_ok (T.c.fact (i := 78) rfl)).2 G_BadRulesq_initq (hr.mono (by decide)) B_BadRulesq_initq tk rfl rfl (T.glo 22 rfl) (sl_cons (se_name (pv 2)) (sl_cons se_str sl_nil)) (by decide) (by decide))) sss_nil)))
  (sss_cons (ss_set (i := 3) SC.nd rfl (by first | exact Or.inl rfl | exact Or.inr rfl) (se_sp1 (c := ⟨(srcD (eN 1)), (tgN 4), cYes⟩) (u1_of (u65 hr)) rfl (T.free 69 rfl) rfl SC.nd (own := [("rule", 4)]) (si_data (se_name (pv 1))) (blkOk_by (N := ["many", "rules", "place", "couples", "rule"]) (sc := defScope (d_check_rules).st) (by decide +kernel)) (fun x => (sg_name (pg_name (i := 4) SC.nd rfl (Or.inl rfl) (Or.inr rfl)) (by decide))) (fun x => spt_nil) (fun x => (se_tup (sl_cons (se_idx (se_name (pv 4)) se_int (fun _ _ => rfl)) (sl_cons (se_idx (se_name (pv 4)) se_int (fun _ _ => rfl)) sl_nil))))))
  (sss_cons (ss_if (q_val (se_callD G_has_ring (hr.mono (by decide)) rfl (T.glo 81 rfl) k_has_ring B_has_ring .nil (fun _ => .nil) tk (sa_cons (se_name (pv 3)) sa_nil) rfl)) (sss_one (ss_raise (n := 2) (oexB_ok (T.c.fact (i := 79) rfl)) (initB_ok (T.c.fact (i := 78) rfl)).1 (initB_ok (T.c.fact (i := 78) rfl)).2 G_BadRulesq_initq (hr.mono (by decide)) B_BadRulesq_initq tk rfl rfl (T.glo 22 rfl) (sl_cons se_int (sl_cons se_str sl_nil)) (by decide) (by decide))) sss_nil)
  (sss_one (ss_ret (k_tuple (T.free 6 rfl) (se_name (pv 3)))))))))
/-! #### _law_told -/
def g__law_told : SSem := (sQ (sTry (sA 3 (eCallD m_check_rules [] [(eN 0), (eN 1)])) 2 [("TongueError", true), ("BadEnding", true), ("BadRules", true), ("BadPattern", true), ("BadText", true)] (sQ (sIf (cOr (cNot (cT (eIsX 2 [("TongueError", false), ("BadEnding", false), ("BadRules", true), ("BadPattern", false), ("BadText", false)]))) (cOr (cT (eIsX 2 [("TongueError", false), ("BadEnding", false), ("BadRules", false), ("BadPattern", true), ("BadText", false)])) (cNot (cT (eIsX 2 [("TongueError", true), ("BadEnding", true), ("BadRules", true), ("BadPattern", true), ("BadText", true)]))))) (sR (eTup [(eC (.str "other"))])) sN)
  (sR (eTup [(eC (.str "bad")), (eXf 2 "index" ["BadRules", "BadPattern"]), (eXf 2 "what" ["BadRules", "BadPattern", "BadText"])]))))
  (sR (eTup [(eC (.str "good")), (eN 3)])))
def m__law_told : FSem := runB g__law_told 4
theorem sc__law_told : FnScope ["_law_many", "_law_rules", "_law_wrong_here", "_law_told_here"] ["_law_many", "_law_rules"] (defScope (d__law_told).st) := ⟨rfl, rfl, rfl, by decide +kernel, rfl, by decide +kernel, by decide +kernel⟩
theorem ok__law_told {w : World} {K : PySem.W.Frag} {mg : Str → Option Value} (T : Tx fs ds K mg) : ∃ fd, (∀ base : Heap, FnOk P0 w K mg base (L2.CX P0 w) 4 ((d__law_told).at_.ad K) fd ["_law_many", "_law_rules"] (spOf ⟨K, mg, I0⟩ 2 m__law_told)) ∧ PySem.W.keepIn K (.ref ((d__law_told).at_.ad K)) = true ∧ (Binds K fd ["_law_many", "_law_rules"] []) := by
  obtain ⟨e, c⟩ := T.c.at_ (i := 26) (d := d__law_told) rfl
  obtain ⟨fd, F⟩ := DF.funD (d := d__law_told) rfl e c
  obtain ⟨fd_check_rules, Ga_check_rules, k_check_rules, B_check_rules⟩ := ok_check_rules (w := w) T
  have SC := sc__law_told
  refine ⟨fd, fun base => ?_, F.kp, F.bindsN fun _ _ _ _ _ _ us hl => match us, hl with | [_, _], _ => rfl⟩
  have G_check_rules := Ga_check_rules base
  refine fn_dataD F SC fun cdv A outer s H E hr tk => ?_
  exact (sss_cons (ss_try (i := 2) rfl rfl SC.nd rfl rfl ⟨rfl, by decide, Or.inl (T.glo 19 rfl)⟩ tk (l2 T) (fun W pn xe tk po => (sss_one (ss_set (i := 3) SC.nd rfl (by first | exact Or.inl rfl | exact Or.inr rfl) (se_callD G_check_rules (hr.mono (by decide)) rfl (T.glo 82 rfl) k_check_rules B_check_rules .nil (fun _ => .nil) tk (sa_cons (se_name (pv 0)) (sa_cons (se_name (pv 1)) sa_nil)) rfl)))) (fun a oe cls d pn hz hf => (sss_cons (ss_if (SW.sc (sw_or (sc_not (q_val (se_isX hz hf (l9 T) (.own _) (T.free 9 rfl) (pv 2) (pe_glob rfl (T.glo 22 rfl) rfl)))) (sw_or (q_val (se_isX hz hf (l10 T) (.own _) (T.free 9 rfl) (pv 2) (pe_glob rfl (T.glo 24 rfl) rfl))) (sw_or1 (sc_not (q_val (se_isX hz hf (l4 T) (.ty _) (T.free 9 rfl) (pv 2) (pe_bltn (v := .ty "ValueError") rfl (T.free 43 rfl) bt_vE rfl)))))))) (sss_one (ss_ret (se_tup (sl_cons se_str sl_nil)))) sss_nil)
  (sss_one (ss_ret (se_tup (sl_cons se_str (sl_cons (se_xf hz hf (l11 T) (pv 2)) (sl_cons (se_xf hz hf (l12 T) (pv 2)) sl_nil)))))))))
  (sss_one (ss_ret (se_tup (sl_cons se_str (sl_cons (se_name (pv 3)) sl_nil))))))
/-! #### _law_no_role -/
def g__law_no_role : SSem := (sQ (sA 2 (eCallD m__law_take [] [(eN 0), (eC (.int 7))]))
  (sQ (sIf (cB (eOp eqD (eN 2) (eC (.int 0)))) (sR (eC .non)) sN)
  (sQ (sIf (cB (eOp eqD (eN 2) (eC (.int 1)))) (sR (eC (.bl true))) sN)
  (sQ (sIf (cB (eOp eqD (eN 2) (eC (.int 2)))) (sR (eOp subD (eNeg (eC (.int 1))) (eCallD m__law_take [] [(eN 0), (eC (.int 4))]))) sN)
  (sQ (sIf (cB (eOp eqD (eN 2) (eC (.int 3)))) (sR (eOp addD (eOp addD (eN 1) (eOp powD (eC (.int 10)) (eC (.int 21)))) (eCallD m__law_take [] [(eN 0), (eC (.int 1000))]))) sN)
  (sQ (sIf (cB (eOp eqD (eN 2) (eC (.int 4)))) (sR (eC (.str "0"))) sN)
  (sQ (sIf (cB (eOp eqD (eN 2) (eC (.int 5)))) (sR (eC (.bl false))) sN)
  (sR (eOp addD (eN 1) (eCallD m__law_take [] [(eN 0), (eC (.int 3))]))))))))))
def m__law_no_role : FSem := runB g__law_no_role 3
theorem sc__law_no_role : FnScope ["_law_hand_here", "_law_many", "_law_draw"] ["_law_hand_here", "_law_many"] (defScope (d__law_no_role).st) := ⟨rfl, rfl, rfl, by decide +kernel, rfl, by decide +kernel, by decide +kernel⟩
theorem ok__law_no_role {w : World} {K : PySem.W.Frag} {mg : Str → Option Value} (T : Tx fs ds K mg) : ∃ fd, (∀ base : Heap, FnOk P0 w K mg base (L2.CX P0 w) 3 ((d__law_no_role).at_.ad K) fd ["_law_hand_here", "_law_many"] (spOf ⟨K, mg, I0⟩ 2 m__law_no_role)) ∧ PySem.W.keepIn K (.ref ((d__law_no_role).at_.ad K)) = true ∧ (Binds K fd ["_law_hand_here", "_law_many"] []) := by
  obtain ⟨e, c⟩ := T.c.at_ (i := 27) (d := d__law_no_role) rfl
  obtain ⟨fd, F⟩ := DF.funD (d := d__law_no_role) rfl e c
  obtain ⟨fd__law_take, Ga__law_take, k__law_take, B__law_take⟩ := ok__law_take (w := w) T
  have SC := sc__law_no_role
  refine ⟨fd, fun base => ?_, F.kp, F.bindsN fun _ _ _ _ _ _ us hl => match us, hl with | [_, _], _ => rfl⟩
  have G__law_take := Ga__law_take base
  refine fn_dataD F SC fun cdv A outer s H E hr tk => ?_
  exact (sss_cons (ss_set (i := 2) SC.nd rfl (by first | exact Or.inl rfl | exact Or.inr rfl) (se_callD G__law_take (hr.mono (by decide)) rfl (T.glo 3 rfl) k__law_take B__law_take .nil (fun _ => .nil) tk (sa_cons (se_name (pv 0)) (sa_cons se_int sa_nil)) rfl))
  (sss_cons (ss_if (q_eq (u65 hr) (se_name (pv 2)) se_int) (sss_one (ss_ret se_non)) sss_nil)
  (sss_cons (ss_if (q_eq (u65 hr) (se_name (pv 2)) se_int) (sss_one (ss_ret se_bl)) sss_nil)
  (sss_cons (ss_if (q_eq (u65 hr) (se_name (pv 2)) se_int) (sss_one (ss_ret (k_sub (se_neg se_int) (se_callD G__law_take (hr.mono (by decide)) rfl (T.glo 3 rfl) k__law_take B__law_take .nil (fun _ => .nil) tk (sa_cons (se_name (pv 0)) (sa_cons se_int sa_nil)) rfl)))) sss_nil)
  (sss_cons (ss_if (q_eq (u65 hr) (se_name (pv 2)) se_int) (sss_one (ss_ret (k_add (k_add (se_name (pv 1)) (k_pow se_int se_int)) (se_callD G__law_take (hr.mono (by decide)) rfl (T.glo 3 rfl) k__law_take B__law_take .nil (fun _ => .nil) tk (sa_cons (se_name (pv 0)) (sa_cons se_int sa_nil)) rfl)))) sss_nil)
  (sss_cons (ss_if (q_eq (u65 hr) (se_name (pv 2)) se_int) (sss_one (ss_ret se_str)) sss_nil)
  (sss_cons (ss_if (q_eq (u65 hr) (se_name (pv 2)) se_int) (sss_one (ss_ret se_bl)) sss_nil)
  (sss_one (ss_ret (k_add (se_name (pv 1)) (se_callD G__law_take (hr.mono (by decide)) rfl (T.glo 3 rfl) k__law_take B__law_take .nil (fun _ => .nil) tk (sa_cons (se_name (pv 0)) (sa_cons se_int sa_nil)) rfl)))))))))))
/-! #### _law_wrong -/
def g__law_wrong : SSem := (sQ (sA 2 (eCallD m__law_take [] [(eN 0), (eC (.int 8))]))
  (sQ (sIf (cB (eOp eqD (eN 2) (eC (.int 0)))) (sR (eC .non)) sN)
  (sQ (sIf (cB (eOp eqD (eN 2) (eC (.int 1)))) (sQ (sA 3 (eCallD m__law_take [] [(eN 0), (eN 1)]))
  (sR (eTup [(eN 3), (eN 3)]))) sN)
  (sQ (sIf (cB (eOp eqD (eN 2) (eC (.int 2)))) (sR (eTup [(eC (.int 0))])) sN)
  (sQ (sIf (cB (eOp eqD (eN 2) (eC (.int 3)))) (sR (eLst [(eC (.int 0)), (eC (.int 1)), (eC (.int 0))])) sN)
  (sQ (sIf (cB (eOp eqD (eN 2) (eC (.int 4)))) (sR (eC (.str "01"))) sN)
  (sQ (sIf (cB (eOp eqD (eN 2) (eC (.int 5)))) (sR (eTup [(eOp addD (eN 1) (eCallD m__law_take [] [(eN 0), (eC (.int 3))])), (eC (.int 0))])) sN)
  (sQ (sIf (cB (eOp eqD (eN 2) (eC (.int 6)))) (sR (eLst [(eC (.int 0)), (eCallD m__law_no_role [] [(eN 0), (eN 1)])])) sN)
  (sR (eTup [(eOp subD (eNeg (eC (.int 1))) (eCallD m__law_take [] [(eN 0), (eC (.int 3))])), (eC (.int 0))]))))))))))
def m__law_wrong : FSem := runB g__law_wrong 4
theorem sc__law_wrong : FnScope ["_law_hand_here", "_law_many", "_law_draw", "_law_role"] ["_law_hand_here", "_law_many"] (defScope (d__law_wrong).st) := ⟨rfl, rfl, rfl, by decide +kernel, rfl, by decide +kernel, by decide +kernel⟩
theorem ok__law_wrong {w : World} {K : PySem.W.Frag} {mg : Str → Option Value} (T : Tx fs ds K mg) : ∃ fd, (∀ base : Heap, FnOk P0 w K mg base (L2.CX P0 w) 4 ((d__law_wrong).at_.ad K) fd ["_law_hand_here", "_law_many"] (spOf ⟨K, mg, I0⟩ 2 m__law_wrong)) ∧ PySem.W.keepIn K (.ref ((d__law_wrong).at_.ad K)) = true ∧ (Binds K fd ["_law_hand_here", "_law_many"] []) := by
  obtain ⟨e, c⟩ := T.c.at_ (i := 28) (d := d__law_wrong) rfl
  obtain ⟨fd, F⟩ := DF.funD (d := d__law_wrong) rfl e c
  obtain ⟨fd__law_take, Ga__law_take, k__law_take, B__law_take⟩ := ok__law_take (w := w) T
  obtain ⟨fd__law_no_role, Ga__law_no_role, k__law_no_role, B__law_no_role⟩ := ok__law_no_role (w := w) T
  have SC := sc__law_wrong
  refine ⟨fd, fun base => ?_, F.kp, F.bindsN fun _ _ _ _ _ _ us hl => match us, hl with | [_, _], _ => rfl⟩
  have G__law_take := Ga__law_take base
  have G__law_no_role := Ga__law_no_role base
  refine fn_dataD F SC fun cdv A outer s H E hr tk => ?_
  exact (sss_cons (ss_set (i := 2) SC.nd rfl (by first | exact Or.inl rfl | exact Or.inr rfl) (se_callD G__law_take (hr.mono (by decide)) rfl (T.glo 3 rfl) k__law_take B__law_take .nil (fun _ => .nil) tk (sa_cons (se_name (pv 0)) (sa_cons se_int sa_nil)) rfl))
  (sss_cons (ss_if (q_eq (u65 hr) (se_name (pv 2)) se_int) (sss_one (ss_ret se_non)) sss_nil)
  (sss_cons (ss_if (q_eq (u65 hr) (se_name (pv 2)) se_int) (sss_cons (ss_set (i := 3) SC.nd rfl (by first | exact Or.inl rfl | exact Or.inr rfl) (se_callD G__law_take (hr.mono (by decide)) rfl (T.glo 3 rfl) k__law_take B__law_take .nil (fun _ => .nil) tk (sa_cons (se_name (pv 0)) (sa_cons (se_name (pv 1)) sa_nil)) rfl))
  (sss_one (ss_ret (se_tup (sl_cons (se_name (pv 3)) (sl_cons (se_name (pv 3)) sl_nil)))))) sss_nil)
  (sss_cons (ss_if (q_eq (u65 hr) (se_name (pv 2)) se_int) (sss_one (ss_ret (se_tup (sl_cons se_int sl_nil)))) sss_nil)
  (sss_cons (ss_if (q_eq (u65 hr) (se_name (pv 2)) se_int) (sss_one (ss_ret (se_lst (sl_cons se_int (sl_cons se_int (sl_cons se_int sl_nil)))))) sss_nil)
  (sss_cons (ss_if (q_eq (u65 hr) (se_name (pv 2)) se_int) (sss_one (ss_ret se_str)) sss_nil)
  (sss_cons (ss_if (q_eq (u65 hr) (se_name (pv 2)) se_int) (sss_one (ss_ret (se_tup (sl_cons (k_add (se_name (pv 1)) (se_callD G__law_take (hr.mono (by decide)) rfl (T.glo 3 rfl) k__law_take B__law_take .nil (fun _ => .nil) tk (sa_cons (se_name (pv 0)) (sa_cons se_int sa_nil)) rfl)) (sl_cons se_int sl_nil))))) sss_nil)
  (sss_cons (ss_if (q_eq (u65 hr) (se_name (pv 2)) se_int) (sss_one (ss_ret (se_lst (sl_cons se_int (sl_cons (se_callD G__law_no_role (hr.mono (by decide)) rfl (T.glo 96 rfl) k__law_no_role B__law_no_role .nil (fun _ => .nil) tk (sa_cons (se_name (pv 0)) (sa_cons (se_name (pv 1)) sa_nil)) rfl) sl_nil))))) sss_nil)
  (sss_one (ss_ret (se_tup (sl_cons (k_sub (se_neg se_int) (se_callD G__law_take (hr.mono (by decide)) rfl (T.glo 3 rfl) k__law_take B__law_take .nil (fun _ => .nil) tk (sa_cons (se_name (pv 0)) (sa_cons se_int sa_nil)) rfl)) (sl_cons se_int sl_nil)))))))))))))
/-! #### _law_reach -/
def g__law_reach : SSem := (sQ (sPar2 2 3 (eLst []) (eLst [(eN 1)]))
  (sQ (sWh (cT (eN 3)) (sQ (sA 4 (eMut 3 popM []))
  (sFor (eN 0) (tgN 5) (sIf (cAnd (cB (eOp eqD (eOp idxD (eN 5) (eC (.int 0))) (eN 4))) (cB (eOp ninA (eOp idxD (eN 5) (eC (.int 1))) (eN 2)))) (sQ (sE (eMut 2 appM [(eOp idxD (eN 5) (eC (.int 1)))]))
  (sE (eMut 3 appM [(eOp idxD (eN 5) (eC (.int 1)))]))) sN))))
  (sR (eN 2))))
def m__law_reach : FSem := runB g__law_reach 6
theorem sc__law_reach : FnScope ["_law_couples_here", "_law_role", "_law_found", "_law_todo", "_law_one", "_law_couple"] ["_law_couples_here", "_law_role"] (defScope (d__law_reach).st) := ⟨rfl, rfl, rfl, by decide +kernel, rfl, by decide +kernel, by decide +kernel⟩
theorem ok__law_reach {w : World} {K : PySem.W.Frag} {mg : Str → Option Value} (T : Tx fs ds K mg) : ∃ fd, (∀ base : Heap, FnOk P0 w K mg base (L2.CX P0 w) 1 ((d__law_reach).at_.ad K) fd ["_law_couples_here", "_law_role"] (spOf ⟨K, mg, I0⟩ 2 m__law_reach)) ∧ PySem.W.keepIn K (.ref ((d__law_reach).at_.ad K)) = true ∧ (Binds K fd ["_law_couples_here", "_law_role"] []) := by
  obtain ⟨e, c⟩ := T.c.at_ (i := 29) (d := d__law_reach) rfl
  obtain ⟨fd, F⟩ := DF.funD (d := d__law_reach) rfl e c
  have SC := sc__law_reach
  refine ⟨fd, fun base => ?_, F.kp, F.bindsN fun _ _ _ _ _ _ us hl => match us, hl with | [_, _], _ => rfl⟩
  refine fn_dataD F SC fun cdv A outer s H E hr tk => ?_
  exact (sss_cons (ss_par2 (i := 2) (j := 3) rfl SC.nd rfl rfl (by decide) rfl rfl (se_lst sl_nil) (se_lst (sl_cons (se_name (pv 1)) sl_nil)) rfl)
  (sss_cons (ss_while (passes_of rfl) (q_val (se_name (pv 3))) (sss_cons (ss_set (i := 4) SC.nd rfl (by first | exact Or.inl rfl | exact Or.inr rfl) (k_pop0 (pv 3)))
  (sss_one (ss_for (passes_of rfl) rfl (se_name (pv 0)) (st_name (pg_name (i := 5) SC.nd rfl (by first | exact Or.inl rfl | exact Or.inr rfl))) (sss_one (ss_if (SW.sc (sw_and (q_eq (u65 hr) (se_idx (se_name (pv 5)) se_int (fun _ _ => rfl)) (se_name (pv 4))) (sw_and1 (q_ninA (u65 hr) (se_idx (se_name (pv 5)) se_int (fun _ _ => rfl)) (se_name (pv 2)))))) (sss_cons (ss_expr (k_append (pv 2) (se_idx (se_name (pv 5)) se_int (fun _ _ => rfl))))
  (sss_one (ss_expr (k_append (pv 3) (se_idx (se_name (pv 5)) se_int (fun _ _ => rfl)))))) sss_nil))))))
  (sss_one (ss_ret (se_name (pv 2))))))
/-! #### law -/
def g_law_19 : SSem := (sQ (sA 15 (eCallD m__law_take [] [(eN 1), (eOp addD (eU lenD (eN 14)) (eC (.int 1)))]))
  (sE (eMut 14 insM [(eN 15), (eCallD m__law_wrong [] [(eN 1), (eN 4)])])))
def g_law_23 : SSem := (sQ (sIf (cB (eOp gtD (eU lenD (eN 14)) (eC (.int 30)))) (sA 16 (eOp eqD (eN 12) (eTup [(eC (.str "bad")), (eC (.int 0)), (eC (.str "many"))]))) (sIf (cB (eOp isntA (eN 15) (eC .non))) (sA 16 (eOp eqD (eN 12) (eTup [(eC (.str "bad")), (eN 15), (eC (.str "rule"))]))) (sIf (cT (eN 8)) (sA 16 (eOp eqD (eN 12) (eTup [(eC (.str "bad")), (eC (.int 0)), (eC (.str "ring"))]))) (sA 16 (eOp eqD (eN 12) (eTup [(eC (.str "good")), (eU tupD (eU srtSet (eN 5)))]))))))
  (sIf (cOr (cNot (cT (eN 16))) (cB (eOp neD (eU reprA (eN 14)) (eN 11)))) (sR (eC (.bl false))) sN))
def g_law_22 : SSem := (sQ (sA 12 (eCallD m__law_told [] [(eN 4), (eCallD m__law_as_list [] [(eN 1), (eN 14)])]))
  g_law_23)
def g_law_21 : SSem := (sQ (sA 11 (eU reprA (eN 14)))
  g_law_22)
def g_law_20 : SSem := (sQ (sIf (cAnd (cB (eOp isntA (eN 15) (eC .non))) (cB (eOp eqD (eCallD m__law_take [] [(eN 1), (eC (.int 2))]) (eC (.int 0))))) (sE (eMut 14 appM [(eCallD m__law_wrong [] [(eN 1), (eN 4)])])) sN)
  g_law_21)
def g_law_18 : SSem := (sQ (sIf (cB (eOp eqD (eCallD m__law_take [] [(eN 1), (eC (.int 3))]) (eC (.int 0)))) g_law_19 sN)
  g_law_20)
def g_law_17 : SSem := (sQ (sA 15 (eC .non))
  g_law_18)
def g_law_16 : SSem := (sQ (sA 14 (eLc (eN 5) (.nm 17) cYes (eCallD m__law_as_list [] [(eN 1), (eN 17)]) [17]))
  g_law_17)
def g_law_15 : SSem := (sQ (sIf (cOr (cNot (cT (eU (isiD [("NoneType", false), ("bool", true), ("int", false), ("str", false), ("tuple", false), ("list", false), ("dict", false)] []) (eN 13)))) (cOr (cB (eOp neD (eN 13) (eN 8))) (cB (eOp neD (eU reprA (eN 10)) (eN 11))))) (sR (eC (.bl false))) sN)
  g_law_16)
def g_law_14 : SSem := (sQ (sA 13 (eCallD m_has_ring [] [(eN 10)]))
  g_law_15)
def g_law_13 : SSem := (sQ (sIf (cOr (cNot (cT (eU (isiD [("NoneType", false), ("bool", false), ("int", false), ("str", false), ("tuple", true), ("list", false), ("dict", false)] []) (eN 12)))) (cB (eOp neD (eN 12) (eU tupD (eLG ⟨(srcD (eN 6)), (tgU 2 (tgCons (tgN 18) (tgCons (tgN 19) tgNil))), cYes⟩ [] (eTup [(eOp addD (eN 18) (eN 9)), (eOp addD (eN 19) (eN 9))]) [18, 19]))))) (sR (eC (.bl false))) sN)
  g_law_14)
def g_law_12 : SSem := (sQ (sA 12 (eCallD m_closure_of [] [(eCallD m__law_as_list [] [(eN 1), (eN 10)])]))
  g_law_13)
def g_law_11 : SSem := (sQ (sA 11 (eU reprA (eN 10)))
  g_law_12)
def g_law_10 : SSem := (sQ (sA 10 (eLG ⟨(srcD (eN 5)), (tgU 2 (tgCons (tgN 18) (tgCons (tgN 19) tgNil))), cYes⟩ [] (eCallD m__law_as_list [] [(eN 1), (eTup [(eOp addD (eN 18) (eN 9)), (eOp addD (eN 19) (eN 9))])]) [18, 19]))
  g_law_11)
def g_law_9 : SSem := (sQ (sA 9 (eOp mulD (eOp subD (eCallD m__law_take [] [(eN 1), (eC (.int 3))]) (eC (.int 1))) (eOp addD (eOp powD (eC (.int 10)) (eC (.int 21))) (eCallD m__law_take [] [(eN 1), (eC (.int 1000))]))))
  g_law_10)
def g_law_8 : SSem := (sQ (sA 8 (eOp neD (eLc (eN 6) (.nm 17) (cB (eOp eqD (eOp idxD (eN 17) (eC (.int 0))) (eOp idxD (eN 17) (eC (.int 1))))) (eN 17) [17]) (eLst [])))
  g_law_9)
def g_law_7 : SSem := (sQ (sForR rngOf1 [(eN 4)] (tgN 7) (sA 6 (eOp addD (eN 6) (eLc (eU srtA (eCallD m__law_reach [] [(eN 5), (eN 7)])) (.nm 19) cYes (eTup [(eN 7), (eN 19)]) [19]))))
  g_law_8)
def g_law_6 : SSem := (sQ (sA 6 (eLst []))
  g_law_7)
def g_law_5 : SSem := (sQ (sA 5 (eCallD m__law_couples [] [(eN 1), (eN 4)]))
  g_law_6)
def g_law_4 : SSem := (sQ (sA 4 (eOp addD (eC (.int 1)) (eCallD m__law_take [] [(eN 1), (eC (.int 6))])))
  g_law_5)
def g_law_24 : SSem := (sQ (sFor (eTup [(eC .non), (eC (.int 5)), (eC (.str "")), eNewK, (eC (.bl true))]) (tgN 3) (sIf (cB (eOp neD (eCallD m__law_told [] [(eC (.int 3)), (eN 3)]) (eTup [(eC (.str "bad")), (eC (.int 0)), (eC (.str "many"))]))) (sR (eC (.bl false))) sN))
  (sR (eC (.bl true))))
def g_law_3 : SSem := (sQ (sForR rngOf1 [(eC (.int 3))] (tgN 2) g_law_4)
  g_law_24)
def g_law_2 : SSem := (sQ (sIf (cNot (cT (eCallD m__law_names_hold [] [(eN 1)]))) (sR (eC (.bl false))) sN)
  g_law_3)
def g_law_1 : SSem := (sQ (sA 1 (eCallD m__law_hand [] [(eN 0)]))
  g_law_2)
def g_law : SSem := g_law_1
def m_law : FSem := runB g_law 20
theorem sc_law : FnScope ["_law_script", "_law_hand_here", "_law_turn", "_law_thing_here", "_law_many", "_law_couples_here", "_law_due", "_law_role", "_law_ring", "_law_far", "_law_moved", "_law_kept", "_law_told_here", "_law_answer", "_law_rules", "_law_wrong_here", "_law_good", "_law_couple", "_law_one", "_law_other"] ["_law_script"] (defScope (d_law).st) := ⟨rfl, rfl, rfl, by decide +kernel, rfl, by decide +kernel, by decide +kernel⟩
theorem ok_law {w : World} {K : PySem.W.Frag} {mg : Str → Option Value} (T : Tx fs ds K mg) : ∃ fd, (∀ base : Heap, FnG P0 w K mg base 7 ((d_law).at_.ad K) fd ["_law_script"] (spOf ⟨K, mg, I0⟩ 1 m_law)) ∧ PySem.W.keepIn K (.ref ((d_law).at_.ad K)) = true ∧ (Binds K fd ["_law_script"] []) ∧ (∀ (s : Shared) (u : Value), BindsTo s fd ⟨[u], []⟩ [("_law_script", u)]) := by
  obtain ⟨e, c⟩ := T.c.at_ (i := 30) (d := d_law) rfl
  obtain ⟨fd, F⟩ := DF.funD (d := d_law) rfl e c
  obtain ⟨fd__law_hand, Ga__law_hand, k__law_hand, B__law_hand⟩ := ok__law_hand (w := w) T
  obtain ⟨fd__law_names_hold, Ga__law_names_hold, k__law_names_hold, B__law_names_hold⟩ := ok__law_names_hold (w := w) T
  obtain ⟨fd__law_take, Ga__law_take, k__law_take, B__law_take⟩ := ok__law_take (w := w) T
  obtain ⟨fd__law_couples, Ga__law_couples, k__law_couples, B__law_couples⟩ := ok__law_couples (w := w) T
  obtain ⟨fd__law_reach, Ga__law_reach, k__law_reach, B__law_reach⟩ := ok__law_reach (w := w) T
  obtain ⟨fd__law_as_list, Ga__law_as_list, k__law_as_list, B__law_as_list⟩ := ok__law_as_list (w := w) T
  obtain ⟨fd_closure_of, Ga_closure_of, k_closure_of, B_closure_of⟩ := ok_closure_of (w := w) T
  obtain ⟨fd_has_ring, Ga_has_ring, k_has_ring, B_has_ring⟩ := ok_has_ring (w := w) T
  obtain ⟨fd__law_wrong, Ga__law_wrong, k__law_wrong, B__law_wrong⟩ := ok__law_wrong (w := w) T
  obtain ⟨fd__law_told, Ga__law_told, k__law_told, B__law_told⟩ := ok__law_told (w := w) T
  have SC := sc_law
  refine ⟨fd, fun base => ?_, F.kp, F.bindsN fun _ _ _ _ _ _ us hl => match us, hl with | [_], _ => rfl, fun s u => F.bindsA (ps := ["_law_script"]) (fun _ _ _ _ _ _ us hl => match us, hl with | [_], _ => rfl) s [u] rfl⟩
  have G__law_hand := Ga__law_hand base
  have G__law_names_hold := Ga__law_names_hold base
  have G__law_take := Ga__law_take base
  have G__law_couples := Ga__law_couples base
  have G__law_reach := Ga__law_reach base
  have G__law_as_list := Ga__law_as_list base
  have G_closure_of := Ga_closure_of base
  have G_has_ring := Ga_has_ring base
  have G__law_wrong := Ga__law_wrong base
  have G__law_told := Ga__law_told base
  refine fn_dataG F SC fun cdv A outer s H E hgd hr tk => ?_
  exact (sss_cons (ss_set (i := 1) SC.nd rfl (by first | exact Or.inl rfl | exact Or.inr rfl) (se_callD G__law_hand (hr.mono (by decide)) rfl (T.glo 97 rfl) k__law_hand B__law_hand .nil (fun _ => .nil) tk (sa_cons (se_name (pv 0)) sa_nil) rfl))
  (sss_cons (ss_if (sc_not (q_val (se_callG G__law_names_hold hgd (hr.mono (by decide)) rfl (T.glo 98 rfl) k__law_names_hold B__law_names_hold .nil (fun _ => .nil) tk (sa_cons (se_name (pv 1)) sa_nil) rfl))) (sss_one (ss_ret se_bl)) sss_nil)
  (sss_cons (ss_for1 (passes_of rfl) rfl rfl (T.free 4 rfl) (sl_cons se_int sl_nil) (st_name (pg_name (i := 2) SC.nd rfl (by first | exact Or.inl rfl | exact Or.inr rfl))) (sss_cons (ss_set (i := 4) SC.nd rfl (by first | exact Or.inl rfl | exact Or.inr rfl) (k_add se_int (se_callD G__law_take (hr.mono (by decide)) rfl (T.glo 3 rfl) k__law_take B__law_take .nil (fun _ => .nil) tk (sa_cons (se_name (pv 1)) (sa_cons se_int sa_nil)) rfl)))
  (sss_cons (ss_set (i := 5) SC.nd rfl (by first | exact Or.inl rfl | exact Or.inr rfl) (se_callD G__law_couples (hr.mono (by decide)) rfl (T.glo 99 rfl) k__law_couples B__law_couples .nil (fun _ => .nil) tk (sa_cons (se_name (pv 1)) (sa_cons (se_name (pv 4)) sa_nil)) rfl))
  (sss_cons (ss_set (i := 6) SC.nd rfl (by first | exact Or.inl rfl | exact Or.inr rfl) (se_lst sl_nil))
  (sss_cons (ss_for1 (passes_of rfl) rfl rfl (T.free 4 rfl) (sl_cons (se_name (pv 4)) sl_nil) (st_name (pg_name (i := 7) SC.nd rfl (by first | exact Or.inl rfl | exact Or.inr rfl))) (sss_one (ss_set (i := 6) SC.nd rfl (by first | exact Or.inl rfl | exact Or.inr rfl) (k_add (se_name (pv 6)) (se_lc rfl SC.nd (k_sortedA rfl (T.free 69 rfl) (se_callD G__law_reach (hr.mono (by decide)) rfl (T.glo 100 rfl) k__law_reach B__law_reach .nil (fun _ => .nil) tk (sa_cons (se_name (pv 5)) (sa_cons (se_name (pv 7)) sa_nil)) rfl)) (own := [("_law_other", 19)]) (blkOk_by (N := ["_law_script", "_law_hand_here", "_law_turn", "_law_thing_here", "_law_many", "_law_couples_here", "_law_due", "_law_role", "_law_ring", "_law_far", "_law_moved", "_law_kept", "_law_told_here", "_law_answer", "_law_rules", "_law_wrong_here", "_law_good", "_law_couple", "_law_one", "_law_other"]) (sc := defScope (d_law).st) (by decide +kernel)) (by decide) (fun c => pg_name (i := 19) SC.nd rfl (Or.inl rfl) (Or.inr rfl)) (fun c => spt_nil) (fun c => (se_tup (sl_cons (se_name (pv 7)) (sl_cons (se_name (pv 19)) sl_nil)))))))))
  (sss_cons (ss_set (i := 8) SC.nd rfl (by first | exact Or.inl rfl | exact Or.inr rfl) (k_ne (u65 hr) (se_lc rfl SC.nd (se_name (pv 6)) (own := [("_law_couple", 17)]) (blkOk_by (N := ["_law_script", "_law_hand_here", "_law_turn", "_law_thing_here", "_law_many", "_law_couples_here", "_law_due", "_law_role", "_law_ring", "_law_far", "_law_moved", "_law_kept", "_law_told_here", "_law_answer", "_law_rules", "_law_wrong_here", "_law_good", "_law_couple", "_law_one", "_law_other"]) (sc := defScope (d_law).st) (by decide +kernel)) (by decide) (fun c => pg_name (i := 17) SC.nd rfl (Or.inl rfl) (Or.inr rfl)) (fun c => spt_one (q_eq (u65 hr) (se_idx (se_name (pv 17)) se_int (fun _ _ => rfl)) (se_idx (se_name (pv 17)) se_int (fun _ _ => rfl)))) (fun c => (se_name (pv 17)))) (se_lst sl_nil)))
  (sss_cons (ss_set (i := 9) SC.nd rfl (by first | exact Or.inl rfl | exact Or.inr rfl) (k_mul (k_sub (se_callD G__law_take (hr.mono (by decide)) rfl (T.glo 3 rfl) k__law_take B__law_take .nil (fun _ => .nil) tk (sa_cons (se_name (pv 1)) (sa_cons se_int sa_nil)) rfl) se_int) (k_add (k_pow se_int se_int) (se_callD G__law_take (hr.mono (by decide)) rfl (T.glo 3 rfl) k__law_take B__law_take .nil (fun _ => .nil) tk (sa_cons (se_name (pv 1)) (sa_cons se_int sa_nil)) rfl))))
  (sss_cons (ss_lg1 (c := ⟨(srcD (eN 5)), (tgU 2 (tgCons (tgN 18) (tgCons (tgN 19) tgNil))), cYes⟩) (i := 10) rfl SC.nd rfl rfl rfl (own := [("_law_one", 18), ("_law_other", 19)]) (si_data (se_name (pv 5))) (blkOk_by (N := ["_law_script", "_law_hand_here", "_law_turn", "_law_thing_here", "_law_many", "_law_couples_here", "_law_due", "_law_role", "_law_ring", "_law_far", "_law_moved", "_law_kept", "_law_told_here", "_law_answer", "_law_rules", "_law_wrong_here", "_law_good", "_law_couple", "_law_one", "_law_other"]) (sc := defScope (d_law).st) (by decide +kernel)) (fun x => (sg_tup rfl (sgs_cons (sg_name (pg_name (i := 18) SC.nd rfl (Or.inl rfl) (Or.inr rfl)) (by decide)) (sgs_cons (sg_name (pg_name (i := 19) SC.nd rfl (Or.inl rfl) (Or.inr rfl)) (by decide)) sgs_nil)))) (fun x => spt_nil) (fun x => (se_callD G__law_as_list (hr.mono (by decide)) rfl (T.glo 51 rfl) k__law_as_list B__law_as_list .nil (fun _ => .nil) takes0 (sa_cons (se_name (pv 1)) (sa_cons (se_tup (sl_cons (k_add (se_name (pv 18)) (se_name (pv 9))) (sl_cons (k_add (se_name (pv 19)) (se_name (pv 9))) sl_nil))) sa_nil)) rfl)))
  (sss_cons (ss_set (i := 11) SC.nd rfl (by first | exact Or.inl rfl | exact Or.inr rfl) (k_reprA hgd (u65 hr) (T.free 53 rfl) (se_name (pv 10))))
  (sss_cons (ss_set (i := 12) SC.nd rfl (by first | exact Or.inl rfl | exact Or.inr rfl) (se_callD G_closure_of (hr.mono (by decide)) rfl (T.glo 70 rfl) k_closure_of B_closure_of .nil (fun _ => .nil) tk (sa_cons (se_callD G__law_as_list (hr.mono (by decide)) rfl (T.glo 51 rfl) k__law_as_list B__law_as_list .nil (fun _ => .nil) tk (sa_cons (se_name (pv 1)) (sa_cons (se_name (pv 10)) sa_nil)) rfl) sa_nil) rfl))
  (sss_cons (ss_if (SW.sc (sw_or (sc_not (q_val (se_isi (l7 T) (.ty _) (T.free 9 rfl) (se_name (pv 12)) (pe_bltn (v := .ty "tuple") rfl (T.free 6 rfl) bt_tuple rfl)))) (sw_or1 (q_ne (u65 hr) (se_name (pv 12)) (k_tuple (T.free 6 rfl) (se_lg1 (c := ⟨(srcD (eN 6)), (tgU 2 (tgCons (tgN 18) (tgCons (tgN 19) tgNil))), cYes⟩) rfl SC.nd (own := [("_law_one", 18), ("_law_other", 19)]) (si_data (se_name (pv 6))) (blkOk_by (N := ["_law_script", "_law_hand_here", "_law_turn", "_law_thing_here", "_law_many", "_law_couples_here", "_law_due", "_law_role", "_law_ring", "_law_far", "_law_moved", "_law_kept", "_law_told_here", "_law_answer", "_law_rules", "_law_wrong_here", "_law_good", "_law_couple", "_law_one", "_law_other"]) (sc := defScope (d_law).st) (by decide +kernel)) (fun x => (sg_tup rfl (sgs_cons (sg_name (pg_name (i := 18) SC.nd rfl (Or.inl rfl) (Or.inr rfl)) (by decide)) (sgs_cons (sg_name (pg_name (i := 19) SC.nd rfl (Or.inl rfl) (Or.inr rfl)) (by decide)) sgs_nil)))) (fun x => spt_nil) (fun x => (se_tup (sl_cons (k_add (se_name (pv 18)) (se_name (pv 9))) (sl_cons (k_add (se_name (pv 19)) (se_name (pv 9))) sl_nil)))))))))) (sss_one (ss_ret se_bl)) sss_nil)
  (sss_cons (ss_set (i := 13) SC.nd rfl (by first | exact Or.inl rfl | exact Or.inr rfl) (se_callD G_has_ring (hr.mono (by decide)) rfl (T.glo 81 rfl) k_has_ring B_has_ring .nil (fun _ => .nil) tk (sa_cons (se_name (pv 10)) sa_nil) rfl))
  (sss_cons (ss_if (SW.sc (sw_or (sc_not (q_val (se_isi (l6 T) (.ty _) (T.free 9 rfl) (se_name (pv 13)) (pe_bltn (v := .ty "bool") rfl (T.free 55 rfl) bt_bool rfl)))) (sw_or (q_ne (u65 hr) (se_name (pv 13)) (se_name (pv 8))) (sw_or1 (q_ne (u65 hr) (k_reprA hgd (u65 hr) (T.free 53 rfl) (se_name (pv 10))) (se_name (pv 11))))))) (sss_one (ss_ret se_bl)) sss_nil)
  (sss_cons (ss_setLc rfl SC.nd (i := 14) rfl rfl rfl (se_name (pv 5)) (own := [("_law_couple", 17)]) (blkOk_by (N := ["_law_script", "_law_hand_here", "_law_turn", "_law_thing_here", "_law_many", "_law_couples_here", "_law_due", "_law_role", "_law_ring", "_law_far", "_law_moved", "_law_kept", "_law_told_here", "_law_answer", "_law_rules", "_law_wrong_here", "_law_good", "_law_couple", "_law_one", "_law_other"]) (sc := defScope (d_law).st) (by decide +kernel)) (by decide) (fun c => pg_name (i := 17) SC.nd rfl (Or.inl rfl) (Or.inr rfl)) (fun c => spt_nil) (fun c => (se_callD G__law_as_list (hr.mono (by decide)) rfl (T.glo 51 rfl) k__law_as_list B__law_as_list .nil (fun _ => .nil) takes0 (sa_cons (se_name (pv 1)) (sa_cons (se_name (pv 17)) sa_nil)) rfl)))
  (sss_cons (ss_set (i := 15) SC.nd rfl (by first | exact Or.inl rfl | exact Or.inr rfl) se_non)
  (sss_cons (ss_if (q_eq (u65 hr) (se_callD G__law_take (hr.mono (by decide)) rfl (T.glo 3 rfl) k__law_take B__law_take .nil (fun _ => .nil) tk (sa_cons (se_name (pv 1)) (sa_cons se_int sa_nil)) rfl) se_int) (sss_cons (ss_set (i := 15) SC.nd rfl (by first | exact Or.inl rfl | exact Or.inr rfl) (se_callD G__law_take (hr.mono (by decide)) rfl (T.glo 3 rfl) k__law_take B__law_take .nil (fun _ => .nil) tk (sa_cons (se_name (pv 1)) (sa_cons (k_add (k_len (T.free 0 rfl) (se_name (pv 14))) se_int) sa_nil)) rfl))
  (sss_one (ss_expr (k_insert (pv 14) (se_name (pv 15)) (se_callD G__law_wrong (hr.mono (by decide)) rfl (T.glo 101 rfl) k__law_wrong B__law_wrong .nil (fun _ => .nil) tk (sa_cons (se_name (pv 1)) (sa_cons (se_name (pv 4)) sa_nil)) rfl))))) sss_nil)
  (sss_cons (ss_if (SW.sc (sw_and (q_isntA (se_name (pv 15)) se_non) (sw_and1 (q_eq (u65 hr) (se_callD G__law_take (hr.mono (by decide)) rfl (T.glo 3 rfl) k__law_take B__law_take .nil (fun _ => .nil) tk (sa_cons (se_name (pv 1)) (sa_cons se_int sa_nil)) rfl) se_int)))) (sss_one (ss_expr (k_append (pv 14) (se_callD G__law_wrong (hr.mono (by decide)) rfl (T.glo 101 rfl) k__law_wrong B__law_wrong .nil (fun _ => .nil) tk (sa_cons (se_name (pv 1)) (sa_cons (se_name (pv 4)) sa_nil)) rfl)))) sss_nil)
  (sss_cons (ss_set (i := 11) SC.nd rfl (by first | exact Or.inl rfl | exact Or.inr rfl) (k_reprA hgd (u65 hr) (T.free 53 rfl) (se_name (pv 14))))
  (sss_cons (ss_set (i := 12) SC.nd rfl (by first | exact Or.inl rfl | exact Or.inr rfl) (se_callD G__law_told (hr.mono (by decide)) rfl (T.glo 102 rfl) k__law_told B__law_told .nil (fun _ => .nil) tk (sa_cons (se_name (pv 4)) (sa_cons (se_callD G__law_as_list (hr.mono (by decide)) rfl (T.glo 51 rfl) k__law_as_list B__law_as_list .nil (fun _ => .nil) tk (sa_cons (se_name (pv 1)) (sa_cons (se_name (pv 14)) sa_nil)) rfl) sa_nil)) rfl))
  (sss_cons (ss_if (q_gt (k_len (T.free 0 rfl) (se_name (pv 14))) se_int) (sss_one (ss_set (i := 16) SC.nd rfl (by first | exact Or.inl rfl | exact Or.inr rfl) (k_eq (u65 hr) (se_name (pv 12)) (se_tup (sl_cons se_str (sl_cons se_int (sl_cons se_str sl_nil))))))) (sss_one (ss_if (q_isntA (se_name (pv 15)) se_non) (sss_one (ss_set (i := 16) SC.nd rfl (by first | exact Or.inl rfl | exact Or.inr rfl) (k_eq (u65 hr) (se_name (pv 12)) (se_tup (sl_cons se_str (sl_cons (se_name (pv 15)) (sl_cons se_str sl_nil))))))) (sss_one (ss_if (q_val (se_name (pv 8))) (sss_one (ss_set (i := 16) SC.nd rfl (by first | exact Or.inl rfl | exact Or.inr rfl) (k_eq (u65 hr) (se_name (pv 12)) (se_tup (sl_cons se_str (sl_cons se_int (sl_cons se_str sl_nil))))))) (sss_one (ss_set (i := 16) SC.nd rfl (by first | exact Or.inl rfl | exact Or.inr rfl) (k_eq (u65 hr) (se_name (pv 12)) (se_tup (sl_cons se_str (sl_cons (k_tuple (T.free 6 rfl) (k_srtSet rfl (u65 hr) (T.free 69 rfl) (T.free 103 rfl) rfl rfl (se_name (pv 5)))) sl_nil)))))))))))
  (sss_one (ss_if (SW.sc (sw_or (sc_not (q_val (se_name (pv 16)))) (sw_or1 (q_ne (u65 hr) (k_reprA hgd (u65 hr) (T.free 53 rfl) (se_name (pv 14))) (se_name (pv 11)))))) (sss_one (ss_ret se_bl)) sss_nil))))))))))))))))))))))
  (sss_cons (ss_for (passes_of rfl) rfl (se_tup (sl_cons se_non (sl_cons se_int (sl_cons se_str (sl_cons k_dict0 (sl_cons se_bl sl_nil)))))) (st_name (pg_name (i := 3) SC.nd rfl (by first | exact Or.inl rfl | exact Or.inr rfl))) (sss_one (ss_if (q_ne (u65 hr) (se_callD G__law_told (hr.mono (by decide)) rfl (T.glo 102 rfl) k__law_told B__law_told .nil (fun _ => .nil) tk (sa_cons se_int (sa_cons (se_name (pv 3)) sa_nil)) rfl) (se_tup (sl_cons se_str (sl_cons se_int (sl_cons se_str sl_nil))))) (sss_one (ss_ret se_bl)) sss_nil)))
  (sss_one (ss_ret se_bl))))))
end K01
end
noncomputable section
/-! E19: the draws of the laws, in plain Lean. -/
namespace DL
open PySem PySem.Spec L2

theorem log2_small {x : Int} {k : Nat} (h : x.natAbs < 2 ^ k) (hk : 0 < k) : x.natAbs.log2 < k := by
  by_cases z : x.natAbs = 0
  · rw [z]; simpa using hk
  · exact (Nat.log2_lt z).mpr h
theorem mul_small {x y : Int} (hx : x.natAbs < 2 ^ 64) (hy : y.natAbs < 2 ^ 64) : mulD (.int x) (.int y) = some (.fz (.int (x * y))) := by
  have h1 := log2_small hx (by decide)
  have h2 := log2_small hy (by decide)
  simp only [mulD]
  rw [if_pos (by omega)]
theorem mod_eval {x y : Int} (h : 0 < y) : modD (.int x) (.int y) = some (.fz (.int (x % y))) := by simp [modD, gI, h]
theorem div_eval {x y : Int} (h : 0 < y) (h2 : y < 1073741824) : divD (.int x) (.int y) = some (.fz (.int (x / y))) := by simp [divD, gI, h, h2]
def cg_mixed : SSem := (sQ (sA 2 (eOp modD (eU intD (eOp addD (eOp addD (eOp mulD (eN 0) (eC (.int 48271))) (eOp mulD (eN 1) (eC (.int 7919)))) (eC (.int 65537)))) (eC (.int 2147483647))))
  (sQ (sA 3 (eOp modD (eU intD (eOp addD (eOp addD (eOp mulD (eN 2) (eN 2)) (eOp mulD (eN 1) (eC (.int 104729)))) (eOp divD (eN 2) (eC (.int 127))))) (eC (.int 2147483629))))
  (sR (eOp divD (eU intD (eOp modD (eU intD (eOp addD (eOp mulD (eN 3) (eC (.int 69621))) (eOp divD (eN 2) (eC (.int 5))))) (eC (.int 2147483587)))) (eC (.int 16))))))
def cm_mixed : FSem := runB cg_mixed 4
/-- evaluation steps -/
theorem eOp_ok {g : D → D → Option RV} {fa fb : ESem} {ρ ρ1 ρ2 : Env} {ra rb rv : RV} {x y : D} (h1 : fa ρ = .ok ra ρ1) (h2 : fb ρ1 = .ok rb ρ2) (h3 : rd ρ2 ra = some x) (h4 : rd ρ2 rb = some y) (h5 : g x y = some rv) : eOp g fa fb ρ = .ok rv ρ2 := by
  simp only [eOp, h1, Out.bind, h2, h3, h4, h5]
theorem eU_ok {g : D → Option RV} {f : ESem} {ρ ρ1 : Env} {r rv : RV} {x : D} (h1 : f ρ = .ok r ρ1) (h2 : rd ρ1 r = some x) (h3 : g x = some rv) : eU g f ρ = .ok rv ρ1 := by
  simp only [eU, h1, Out.bind, h2, h3]
theorem mixed_ok (a b : Int) (ha : 0 ≤ a) (ha2 : a < 2147483648) (hb : 0 ≤ b) (hb2 : b < 1000) : ∃ r ρ, cm_mixed [.fz (.int a), .fz (.int b)] = .ok (.fz (.int r)) ρ := by
  have e1 : (a * 48271 + b * 7919 + 65537) % 2147483647 < 2147483647 := Int.emod_lt_of_pos _ (by decide)
  have e2 : 0 ≤ (a * 48271 + b * 7919 + 65537) % 2147483647 := Int.emod_nonneg _ (by decide)
  generalize ho : (a * 48271 + b * 7919 + 65537) % 2147483647 = o at e1 e2
  have e3 : (o * o + b * 104729 + o / 127) % 2147483629 < 2147483629 := Int.emod_lt_of_pos _ (by decide)
  have e4 : 0 ≤ (o * o + b * 104729 + o / 127) % 2147483629 := Int.emod_nonneg _ (by decide)
  generalize ht : (o * o + b * 104729 + o / 127) % 2147483629 = t at e3 e4
  refine ⟨(t * 69621 + o / 5) % 2147483587 / 16, [some (.fz (.int a)), some (.fz (.int b)), some (.fz (.int o)), some (.fz (.int t))], ?_⟩
  have m1 := mul_small (x := a) (y := 48271) (by omega) (by decide)
  have m2 := mul_small (x := b) (y := 7919) (by omega) (by decide)
  have m3 := mul_small (x := o) (y := o) (by omega) (by omega)
  have m4 := mul_small (x := b) (y := 104729) (by omega) (by decide)
  have m5 := mul_small (x := t) (y := 69621) (by omega) (by decide)
  have d1 := div_eval (x := o) (y := 127) (by decide) (by decide)
  have d2 := div_eval (x := o) (y := 5) (by decide) (by decide)
  have d3 := div_eval (x := (t * 69621 + o / 5) % 2147483587) (y := 16) (by decide) (by decide)
  have n1 := mod_eval (x := a * 48271 + b * 7919 + 65537) (y := 2147483647) (by decide)
  have n2 := mod_eval (x := o * o + b * 104729 + o / 127) (y := 2147483629) (by decide)
  have n3 := mod_eval (x := t * 69621 + o / 5) (y := 2147483587) (by decide)
  rw [ho] at n1
  rw [ht] at n2
  simp [cm_mixed, runB, cg_mixed, envOf, sQ, SOut.bind, sA, Out.sbind, eOp, Out.bind, eN, eC, eU, rd, m1, m2, m3, m4, m5, d1, d2, d3, n1, n2, n3, addD, intD, putV, sR, retV]
end DL
end
noncomputable section
/-! E20: evaluation by simp. -/
namespace DL
open PySem PySem.Spec L2

section
variable {α β : Type} {a : α} {ρ ρ' : Env} {f : α → Env → Out β} {fs : α → Env → SOut} {g g' : SSem} {c : Str} {xs : List (Str × D)}
@[simp] theorem x_bind_ok : (Out.ok a ρ).bind f = f a ρ := (rfl)
@[simp] theorem x_bind_ex : (Out.ex c xs ρ : Out α).bind f = .ex c xs ρ := (rfl)
@[simp] theorem x_sbind_ok : (Out.ok a ρ).sbind fs = fs a ρ := (rfl)
@[simp] theorem x_sbind_ex : (Out.ex c xs ρ : Out α).sbind fs = .ex c xs ρ := (rfl)
@[simp] theorem x_nx : (SOut.nx ρ).bind g = g ρ := (rfl)
@[simp] theorem x_rt {r : RV} : (SOut.rt r ρ).bind g = .rt r ρ := (rfl)
@[simp] theorem x_bk : (SOut.bk ρ).bind g = .bk ρ := (rfl)
@[simp] theorem x_ct : (SOut.ct ρ).bind g = .ct ρ := (rfl)
@[simp] theorem x_ex : (SOut.ex c xs ρ).bind g = .ex c xs ρ := (rfl)
@[simp] theorem x_nox : (Out.ok a ρ).nox = .ok a ρ := (rfl)
@[simp] theorem x_sQ : sQ g g' ρ = (g ρ).bind g' := (rfl)
@[simp] theorem x_sN : sN ρ = .nx ρ := (rfl)
end
section
variable {ρ : Env} {f fa fb fc : ESem} {fs : List ESem} {g g' : SSem} {cf cg : CSem} {i k : Nat} {d : D} {r : RV}
@[simp] theorem x_sA : sA i f ρ = (f ρ).sbind fun r ρ1 => match putV ρ1 i r with
  | some ρ2 => .nx ρ2
  | none => .no := (rfl)
@[simp] theorem x_sE : sE f ρ = (f ρ).sbind fun _ ρ1 => .nx ρ1 := (rfl)
@[simp] theorem x_sR : sR f ρ = (f ρ).sbind fun r ρ1 => match retV ρ1 r with
  | some (r', ρ2) => .rt r' ρ2
  | none => .no := (rfl)
@[simp] theorem x_sIf : sIf cf g g' ρ = (cf ρ).sbind fun k ρ1 => if k = true then g ρ1 else g' ρ1 := (rfl)
@[simp] theorem x_eC : eC d ρ = .ok (.fz d) ρ := (rfl)
@[simp] theorem x_eN : eN i ρ = match ρ[i]? with
  | some (some (.fz d)) => .ok (.fz d) ρ
  | some (some (.ow _ _)) => .ok (.sl i) ρ
  | some (some (.lk _)) => .ok (.sl i) ρ
  | _ => .no := (rfl)
@[simp] theorem x_eOp {gd : D → D → Option RV} : eOp gd fa fb ρ = (fa ρ).bind fun ra ρ1 => (fb ρ1).bind fun rb ρ2 => match rd ρ2 ra, rd ρ2 rb with
  | some x, some y => (match gd x y with | some r => .ok r ρ2 | none => .no)
  | _, _ => .no := (rfl)
@[simp] theorem x_eU {gd : D → Option RV} : eU gd f ρ = (f ρ).bind fun r ρ1 => match rd ρ1 r with
  | some d => (match gd d with | some r' => .ok r' ρ1 | none => .no)
  | none => .no := (rfl)
@[simp] theorem x_eF : eF f ρ = (f ρ).bind fun r ρ1 => match frz ρ1 r with
  | some (d, ρ2) => .ok d ρ2
  | none => .no := (rfl)
@[simp] theorem x_eL0 : eL [] ρ = .ok [] ρ := (rfl)
@[simp] theorem x_eL1 : eL (f :: fs) ρ = (eF f ρ).bind fun d ρ1 => (eL fs ρ1).bind fun ds ρ2 => .ok (d :: ds) ρ2 := (rfl)
@[simp] theorem x_eP0 : eP [] ρ = .ok [] ρ := (rfl)
@[simp] theorem x_eP1 : eP (f :: fs) ρ = (f ρ).bind fun r ρ1 => match prm ρ1 r with
  | some r' => (eP fs ρ1).bind fun rs ρ2 => .ok (r' :: rs) ρ2
  | none => .no := (rfl)
@[simp] theorem x_eTup : eTup fs ρ = (eL fs ρ).bind fun ds ρ1 => if ds.length ≤ sizeLine then .ok (.fz (.tup ds)) ρ1 else .no := (rfl)
@[simp] theorem x_eLst : eLst fs ρ = (eL fs ρ).bind fun ds ρ1 => if ds.length ≤ sizeLine then .ok (.fr (.lst ds)) ρ1 else .no := (rfl)
@[simp] theorem x_cB : cB f ρ = (f ρ).bind fun r ρ1 => match r with
  | .fz (.bl b) => .ok b ρ1
  | _ => .no := (rfl)
@[simp] theorem x_cT : cT f ρ = (f ρ).bind fun r ρ1 => match rd ρ1 r with
  | some d => (match truthD d with | some b => .ok b ρ1 | none => .no)
  | none => .no := (rfl)
@[simp] theorem x_cNot : cNot cf ρ = (cf ρ).bind fun k ρ1 => .ok (!k) ρ1 := (rfl)
@[simp] theorem x_cAnd : cAnd cf cg ρ = (cf ρ).bind fun k ρ1 => if k = true then cg ρ1 else .ok false ρ1 := (rfl)
@[simp] theorem x_cOr : cOr cf cg ρ = (cf ρ).bind fun k ρ1 => if k = true then .ok true ρ1 else cg ρ1 := (rfl)
@[simp] theorem x_eAnd : eAnd fa fb ρ = (fa ρ).bind fun r ρ1 => match rd ρ1 r with
  | some d => (match truthD d with | some true => fb ρ1 | some false => .ok r ρ1 | none => .no)
  | none => .no := (rfl)
@[simp] theorem x_eOr : eOr fa fb ρ = (fa ρ).bind fun r ρ1 => match rd ρ1 r with
  | some d => (match truthD d with | some true => .ok r ρ1 | some false => fb ρ1 | none => .no)
  | none => .no := (rfl)
@[simp] theorem x_eNeg : eNeg f ρ = (f ρ).bind fun r ρ1 => match rd ρ1 r with
  | some (.int i) => .ok (.fz (.int (-i))) ρ1
  | _ => .no := (rfl)
@[simp] theorem x_eIf : eIf cf fa fb ρ = (cf ρ).bind fun k ρ1 => if k = true then fa ρ1 else fb ρ1 := (rfl)
@[simp] theorem x_rd0 : rd ρ (.fz d) = some d := (rfl)
@[simp] theorem x_rd1 {o : OB} : rd ρ (.fr o) = o.d := (rfl)
@[simp] theorem x_rd2 : rd ρ (.sl i) = match ρ[i]? with
    | some (some (.fz d)) => some d
    | some (some (.ow _ o)) => o.d
    | some (some (.lk o)) => o.d
    | _ => none := (rfl)
@[simp] theorem x_od {ds : List D} : (OB.lst ds).d = some (.lst ds) := (rfl)
@[simp] theorem x_frz0 : frz ρ (.fz d) = some (d, ρ) := (rfl)
@[simp] theorem x_odK {ds : List (L2.Key × D)} : (OB.dK ds).d = some (.dK ds) := (rfl)
@[simp] theorem x_odT {ds : List (List L2.Key × D)} : (OB.dT ds).d = some (.dT ds) := (rfl)
@[simp] theorem x_odO {c : Str} {xs : List (Str × D)} : (OB.ob c xs).d = none := (rfl)
@[simp] theorem x_frz1 {o : OB} : frz ρ (.fr o) = o.d.map fun d => (d, ρ) := (rfl)
@[simp] theorem x_frz2 : frz ρ (.sl i) = match ρ[i]? with
    | some (some (.fz d)) => some (d, ρ)
    | some (some (.ow _ o)) => o.d.map fun d => (d, ρ.set i (some (.fz d)))
    | _ => none := (rfl)
@[simp] theorem x_prm0 : prm ρ (.fz d) = some (.fz d) := (rfl)
@[simp] theorem x_prm1 {o : OB} : prm ρ (.fr o) = o.d.map .fz := (rfl)
@[simp] theorem x_prm2 : prm ρ (.sl i) = match ρ[i]? with
    | some (some (.fz d)) => some (.fz d)
    | some (some (.ow _ _)) => some (.sl i)
    | some (some (.lk _)) => some (.sl i)
    | _ => none := (rfl)
@[simp] theorem x_put0 : putV ρ i (.fz d) = some (ρ.set i (some (.fz d))) := (rfl)
@[simp] theorem x_put1 {o : OB} : putV ρ i (.fr o) = some (ρ.set i (some (.ow false o))) := (rfl)
@[simp] theorem x_put2 : putV ρ i (.sl k) = match frz ρ (.sl k) with
    | some (d, ρ') => some (ρ'.set i (some (.fz d)))
    | none => none := (rfl)
@[simp] theorem x_ret0 : retV ρ (.fz d) = some (.fz d, ρ) := (rfl)
@[simp] theorem x_ret1 {o : OB} : retV ρ (.fr o) = some (.fr o, ρ) := (rfl)
@[simp] theorem x_ret2 : retV ρ (.sl i) = match ρ[i]? with
    | some (some (.fz d)) => some (.fz d, ρ)
    | some (some (.ow false o)) => some (.fr o, ρ)
    | _ => none := (rfl)
@[simp] theorem x_as0 : argsOf ρ [] = some [] := (rfl)
@[simp] theorem x_as1 {rs : List RV} : argsOf ρ (r :: rs) = match argSV ρ r, argsOf ρ rs with
    | some a, some as => some (a :: as)
    | _, _ => none := (rfl)
@[simp] theorem x_av0 : argSV ρ (.fz d) = some (.fz d) := (rfl)
@[simp] theorem x_av2 : argSV ρ (.sl i) = match ρ[i]? with
    | some (some (.ow _ o)) => some (.ow true o)
    | some (some (.lk o)) => some (.lk o)
    | some (some (.fz d)) => some (.fz d)
    | _ => none := (rfl)
@[simp] theorem x_so0 : slotsOf [] = [] := (rfl)
@[simp] theorem x_so1 {rs : List RV} : slotsOf (.fz d :: rs) = slotsOf rs := (rfl)
@[simp] theorem x_so2 {rs : List RV} : slotsOf (.sl i :: rs) = i :: slotsOf rs := (rfl)
@[simp] theorem x_bk0 {ρa : Env} : back ρ [] ρa = ρ := (rfl)
@[simp] theorem x_bk1 {ρa : Env} {rs : List RV} : back ρ (.fz d :: rs) ρa = back ρ rs ρa.tail := (rfl)
@[simp] theorem x_bk2 {s : Option SV} {ρa : Env} {rs : List RV} : back ρ (.sl i :: rs) (s :: ρa) = back (match ρ[i]? with
    | some (some (.ow b _)) => ρ.set i (some (outSV (some s) b))
    | _ => ρ) rs ρa := (rfl)
@[simp] theorem x_osv {b : Bool} {o : OB} : outSV (some (some (.ow true o))) b = .ow b o := (rfl)
@[simp] theorem x_onE_ok {α : Type} {a : α} {f : Env → Env} : (Out.ok a ρ).onE f = .ok a (f ρ) := (rfl)
@[simp] theorem x_onE_ex {α : Type} {c : Str} {xs : List (Str × D)} {f : Env → Env} : (Out.ex c xs ρ : Out α).onE f = .ex c xs (f ρ) := (rfl)
@[simp] theorem x_eCallD {m : FSem} {dds : List D} : eCallD m dds fs ρ = (eP fs ρ).bind fun rs ρ1 => match argsOf ρ1 (rs ++ dds.map .fz) with
  | some as => if (slotsOf rs).Nodup then (m as).onE (back ρ1 (rs ++ dds.map .fz)) else .no
  | none => .no := by
  unfold eCallD
  congr 1
  funext rs ρ1
  cases argsOf ρ1 (rs ++ dds.map .fz) with
  | none => rfl
  | some as =>
    by_cases h : (slotsOf rs).Nodup
    · simp only [if_pos h]; cases m as <;> rfl
    · simp only [if_neg h]
@[simp] theorem x_sI : sI k fa fb ρ = (eF fb ρ).sbind fun d ρ1 => match ρ1[k]? with
  | some (some (.ow _ (.lst _))) => (fa ρ1).sbind fun ri ρ2 => (match ri, ρ2[k]? with
    | .fz (.int i), some (some (.ow b (.lst xs))) => (match ixN xs.length i with
      | some j => .nx (ρ2.set k (some (.ow b (.lst (xs.set j d)))))
      | none => .no)
    | _, _ => .no)
  | _ => .no := (rfl)
@[simp] theorem x_sIA : sIA k fa fb ρ = (eF fb ρ).sbind fun d ρ1 => match ρ1[k]? with
  | some (some (.ow _ _)) => (eF fa ρ1).sbind fun di ρ2 => (match ρ2[k]? with
    | some (some (.ow b o)) => (match putO o di d with
      | some o' => .nx (ρ2.set k (some (.ow b o')))
      | none => .no)
    | _ => .no)
  | _ => .no := (rfl)
@[simp] theorem x_putL {xs : List D} {i : Int} {d : D} : putO (.lst xs) (.int i) d = (ixN xs.length i).map fun j => .lst (xs.set j d) := (rfl)
@[simp] theorem x_eMut {gm : MSem} : eMut k gm fs ρ = match ρ[k]? with
  | some (some (.ow _ (.lst _))) => (eL fs ρ).bind fun ds ρ1 => (match ρ1[k]? with
    | some (some (.ow b (.lst xs))) => (match gm xs ds with
      | some (d, xs') => .ok (.fz d) (ρ1.set k (some (.ow b (.lst xs'))))
      | none => .no)
    | _ => .no)
  | _ => .no := (rfl)
@[simp] theorem x_app {xs : List D} : appM xs [d] = if xs.length < sizeLine then some (.non, xs ++ [d]) else none := (rfl)
end
/-! ### operators -/
@[simp] theorem x_add {i j : Int} : addD (.int i) (.int j) = some (.fz (.int (i + j))) := (rfl)
@[simp] theorem x_sub {i j : Int} : subD (.int i) (.int j) = some (.fz (.int (i - j))) := (rfl)
@[simp] theorem x_int {i : Int} : intD (.int i) = some (.fz (.int i)) := (rfl)
@[simp] theorem x_cmp {p : Int → Int → Bool} {i j : Int} : cmpD p (.int i) (.int j) = some (.fz (.bl (p i j))) := (rfl)
@[simp] theorem x_lenT {xs : List D} : lenD (.tup xs) = some (.fz (.int xs.length)) := (rfl)
@[simp] theorem x_lenL {xs : List D} : lenD (.lst xs) = some (.fz (.int xs.length)) := (rfl)
@[simp] theorem x_lenS {xs : List Int} : lenD (.scr xs) = some (.fz (.int xs.length)) := (rfl)
@[simp] theorem x_idxL {xs : List D} {i : Int} : idxD (.lst xs) (.int i) = (atI xs i).map .fz := (rfl)
@[simp] theorem x_idxT {xs : List D} {i : Int} : idxD (.tup xs) (.int i) = (atI xs i).map .fz := (rfl)
@[simp] theorem x_trB {b : Bool} : truthD (.bl b) = some b := (rfl)
@[simp] theorem x_is1 {d : D} : isD d .non = some (.fz (.bl d.isNon)) := (rfl)
@[simp] theorem x_is2 {d : D} : isntD d .non = some (.fz (.bl (!d.isNon))) := (rfl)
@[simp] theorem x_non0 : D.isNon .non = true := (rfl)
@[simp] theorem x_non1 {i : Int} : D.isNon (.int i) = false := (rfl)
@[simp] theorem x_non2 {i : Str} : D.isNon (.str i) = false := (rfl)
@[simp] theorem x_non3 {i : Bool} : D.isNon (.bl i) = false := (rfl)
theorem deqI {i j : Int} : deq (.int i) (.int j) = some (decide (i = j)) := by
  have : (i == j) = decide (i = j) := by by_cases h : i = j <;> simp [h]
  simp [deq, D.pd, SeqAt.shaped, PyData.eqv, PyData.canLay0, PyData.depth, this]
theorem deqS {i j : Str} (h1 : PyData.strOk i = true) (h2 : PyData.strOk j = true) : deq (.str i) (.str j) = some (decide (i = j)) := by
  have : (i == j) = decide (i = j) := by by_cases h : i = j <;> simp [h]
  simp [deq, D.pd, SeqAt.shaped, PyData.eqv, PyData.canLay0, PyData.depth, this, h1, h2]
@[simp] theorem x_eqI {i j : Int} : eqD (.int i) (.int j) = some (.fz (.bl (decide (i = j)))) := by
  simp [eqD, deqI]
@[simp] theorem x_neI {i j : Int} : neD (.int i) (.int j) = some (.fz (.bl (!decide (i = j)))) := by
  simp [neD, deqI]
@[simp] theorem x_eqS {i j : Str} : eqD (.str i) (.str j) = some (.fz (.bl (decide (i = j)))) := (rfl)
@[simp] theorem x_neS {i j : Str} : neD (.str i) (.str j) = some (.fz (.bl (!decide (i = j)))) := (rfl)
end DL
end
noncomputable section
/-! E21: the hand of the laws and what is taken from it. -/
namespace DL
open PySem PySem.Spec L2

def cg_take : SSem := (sQ (sIf (cAnd (cB (eOp eqD (eOp idxD (eN 0) (eC (.int 2))) (eC (.int 0)))) (cB (eOp ltD (eOp idxD (eN 0) (eC (.int 1))) (eU lenD (eOp idxD (eN 0) (eC (.int 0))))))) (sQ (sA 2 (eOp idxD (eOp idxD (eN 0) (eC (.int 0))) (eOp idxD (eN 0) (eC (.int 1)))))
  (sQ (sIA 0 (eC (.int 1)) (eOp addD (eOp idxD (eN 0) (eC (.int 1))) (eC (.int 1))))
  (sQ (sIf (cB (eOp ltD (eN 2) (eOp powD (eC (.int 10)) (eC (.int 18))))) (sR (eOp modD (eU intD (eCallD cm_mixed [] [(eOp modD (eU intD (eN 2)) (eC (.int 2147483647))), (eOp idxD (eN 0) (eC (.int 1)))])) (eN 1))) sN)
  (sIA 0 (eC (.int 2)) (eN 2))))) sN)
  (sQ (sIf (cB (eOp gtD (eOp idxD (eN 0) (eC (.int 2))) (eC (.int 0)))) (sQ (sA 3 (eOp idxD (eN 0) (eC (.int 2))))
  (sQ (sIA 0 (eC (.int 2)) (eOp divD (eU intD (eN 3)) (eN 1)))
  (sR (eOp modD (eU intD (eN 3)) (eN 1))))) sN)
  (sQ (sIA 0 (eC (.int 3)) (eOp modD (eU intD (eOp addD (eOp idxD (eN 0) (eC (.int 3))) (eC (.int 1)))) (eC (.int 2147483629))))
  (sR (eOp modD (eU intD (eCallD cm_mixed [] [(eOp idxD (eN 0) (eC (.int 3))), (eOp idxD (eN 0) (eC (.int 1)))])) (eN 1))))))
def cm_take : FSem := runB cg_take 4
structure Hok (h : List D) : Prop where
  ex : ∃ (cells : List Int) (p b t : Int), h = [.lst (cells.map .int), .int p, .int b, .int t] ∧ cells.length ≤ 63 ∧ (∀ c ∈ cells, 0 ≤ c) ∧ 0 ≤ p ∧ p ≤ cells.length ∧ 0 ≤ b ∧ 0 ≤ t ∧ t < 2147483629
theorem atI_map {xs : List Int} {p : Int} {c : Int} (h0 : 0 ≤ p) (h1 : p < xs.length) (h2 : xs[p.toNat]? = some c) : atI (xs.map D.int) p = some (.int c) := by
  have : ixN (xs.map D.int).length p = some p.toNat := by unfold ixN; rw [if_pos h0, if_pos (by simpa using h1)]
  simp only [atI, this, Option.bind]
  simp [h2]
@[simp] theorem at4_0 {a b c d : D} : atI [a, b, c, d] 0 = some a := rfl
@[simp] theorem at4_1 {a b c d : D} : atI [a, b, c, d] 1 = some b := rfl
@[simp] theorem at4_2 {a b c d : D} : atI [a, b, c, d] 2 = some c := rfl
@[simp] theorem at4_3 {a b c d : D} : atI [a, b, c, d] 3 = some d := rfl
@[simp] theorem ix4_1 : ixN 4 1 = some 1 := rfl
@[simp] theorem ix4_2 : ixN 4 2 = some 2 := rfl
@[simp] theorem ix4_3 : ixN 4 3 = some 3 := rfl
theorem pow18 : powD (.int 10) (.int 18) = some (.fz (.int 1000000000000000000)) := by simp [powD, gI]
theorem take_ok (h : List D) (m : Int) (H : Hok h) (m0 : 0 < m) (m1 : m < 1073741824) : ∃ r h' ρ, cm_take [.ow true (.lst h), .fz (.int m)] = .ok (.fz (.int r)) (some (.ow true (.lst h')) :: ρ) ∧ Hok h' ∧ 0 ≤ r ∧ r < m := by
  obtain ⟨cells, p, b, t, rfl, hl, hc, p0, p1, b0, t0, t1⟩ := H.ex
  have md : ∀ x : Int, modD (.int x) (.int m) = some (.fz (.int (x % m))) := fun x => mod_eval m0
  have dv : ∀ x : Int, divD (.int x) (.int m) = some (.fz (.int (x / m))) := fun x => div_eval m0 m1
  have mm : ∀ x : Int, modD (.int x) (.int 2147483647) = some (.fz (.int (x % 2147483647))) := fun x => mod_eval (by decide)
  have mt : ∀ x : Int, modD (.int x) (.int 2147483629) = some (.fz (.int (x % 2147483629))) := fun x => mod_eval (by decide)
  have rng : ∀ x : Int, 0 ≤ x % m ∧ x % m < m := fun x => ⟨Int.emod_nonneg _ (by omega), Int.emod_lt_of_pos _ m0⟩
  have big : ∀ c p' t' : Int, 0 ≤ c → 0 ≤ p' → p' ≤ cells.length → 0 ≤ t' → t' < 2147483629 → Hok [.lst (cells.map .int), .int p', .int c, .int t'] := fun c p' t' h1 h2 h3 h4 h5 => ⟨cells, p', c, t', rfl, hl, hc, h2, h3, h1, h4, h5⟩
  have dvn : ∀ x : Int, 0 ≤ x → 0 ≤ x / m := fun x h => Int.ediv_nonneg h (by omega)
  -- the last part: a number of its own
  have fin : ∀ p' : Int, 0 ≤ p' → p' ≤ cells.length → ∃ r ρ, cm_mixed [.fz (.int ((t + 1) % 2147483629)), .fz (.int p')] = .ok (.fz (.int r)) ρ := fun p' h1 h2 => mixed_ok _ _ (Int.emod_nonneg _ (by decide)) (by have := Int.emod_lt_of_pos (t + 1) (b := 2147483629) (by decide); omega) h1 (by omega)
  have tt : 0 ≤ (t + 1) % 2147483629 ∧ (t + 1) % 2147483629 < 2147483629 := ⟨Int.emod_nonneg _ (by decide), Int.emod_lt_of_pos _ (by decide)⟩
  by_cases hb : b = 0
  · subst hb
    by_cases hp : p < cells.length
    · have hx : p.toNat < cells.length := by omega
      have e := atI_map (c := cells[p.toNat]) p0 hp (List.getElem?_eq_getElem hx)
      have c0 : 0 ≤ cells[p.toNat] := hc _ (List.getElem_mem hx)
      generalize cells[p.toNat] = c at e c0
      by_cases hs : c < 1000000000000000000
      · obtain ⟨r, ρ, er⟩ := mixed_ok (c % 2147483647) (p + 1) (Int.emod_nonneg _ (by decide)) (by have := Int.emod_lt_of_pos c (b := 2147483647) (by decide); omega) (by omega) (by omega)
        refine ⟨r % m, [.lst (cells.map .int), .int (p + 1), .int 0, .int t], [some (.fz (.int m)), some (.fz (.int c)), none], ?_, big 0 (p + 1) t (by decide) (by omega) (by omega) t0 t1, rng r⟩
        simp [cm_take, runB, cg_take, envOf, hp, e, hs, er, md, mm, pow18]
      · by_cases hz : 0 < c
        · refine ⟨c % m, [.lst (cells.map .int), .int (p + 1), .int (c / m), .int t], [some (.fz (.int m)), some (.fz (.int c)), some (.fz (.int c))], ?_, big (c / m) (p + 1) t (dvn c c0) (by omega) (by omega) t0 t1, rng c⟩
          simp [cm_take, runB, cg_take, envOf, hp, e, hs, hz, md, dv, mm, pow18]
        · omega
    · obtain ⟨r, ρ, er⟩ := fin p p0 p1
      refine ⟨r % m, [.lst (cells.map .int), .int p, .int 0, .int ((t + 1) % 2147483629)], [some (.fz (.int m)), none, none], ?_, big 0 p _ (by decide) p0 p1 tt.1 tt.2, rng r⟩
      simp [cm_take, runB, cg_take, envOf, hp, er, md, mt, pow18]
  · have hz : 0 < b := by omega
    refine ⟨b % m, [.lst (cells.map .int), .int p, .int (b / m), .int t], [some (.fz (.int m)), none, some (.fz (.int b))], ?_, big (b / m) p t (dvn b b0) p0 p1 t0 t1, rng b⟩
    simp [cm_take, runB, cg_take, envOf, hb, hz, md, dv, pow18]
/-- a call of it -/
theorem take_call {i : Nat} {fm : ESem} {ρ : Env} {b : Bool} {h : List D} {m : Int} (hi : ρ[i]? = some (some (.ow b (.lst h)))) (hm : fm ρ = .ok (.fz (.int m)) ρ) (H : Hok h) (m0 : 0 < m) (m1 : m < 1073741824) :
    ∃ r h', eCallD cm_take [] [eN i, fm] ρ = .ok (.fz (.int r)) (ρ.set i (some (.ow b (.lst h')))) ∧ Hok h' ∧ 0 ≤ r ∧ r < m := by
  obtain ⟨r, h', ρ', e, H', r0, r1⟩ := take_ok h m H m0 m1
  refine ⟨r, h', ?_, H', r0, r1⟩
  simp [hi, hm, e]
end DL
end
noncomputable section
/-! E22: the hand is laid; words, mixed rows. -/
namespace DL
open PySem PySem.Spec L2

theorem szL : sizeLine = 16777216 := rfl
def cb_hand : SSem := (sQ (sA 1 (eOp modD (eU intD (eOp addD (eOp mulD (eN 1) (eC (.int 1019))) (eU intD (eN 3)))) (eC (.int 2147483629))))
  (sE (eMut 2 appM [(eIf (cB (eOp geD (eN 3) (eC (.int 0)))) (eU intD (eN 3)) (eNeg (eU intD (eN 3))))])))
def cg_hand : SSem := (sQ (sA 1 (eOp addD (eU lenD (eN 0)) (eC (.int 31))))
  (sQ (sA 2 (eLst []))
  (sQ (sFor (eN 0) (tgN 3) cb_hand)
  (sR (eLst [(eN 2), (eC (.int 0)), (eC (.int 0)), (eN 1)])))))
def cm_hand : FSem := runB cg_hand 4
theorem hand_step (s : SV) (cells : List Int) (t c : Int) (z : Option SV) (h : cells.length ≤ 63) (t0 : 0 ≤ t) (t1 : t < 2147483629) :
    cb_hand [some s, some (.fz (.int t)), some (.ow false (.lst (cells.map D.int))), some (.fz (.int c))] = .nx [some s, some (.fz (.int ((t * 1019 + c) % 2147483629))), some (.ow false (.lst ((cells ++ [if 0 ≤ c then c else -c]).map D.int))), some (.fz (.int c))] := by
  have m1 := mul_small (x := t) (y := 1019) (by omega) (by decide)
  have m2 := mod_eval (x := t * 1019 + c) (y := 2147483629) (by decide)
  have hs : cells.length < sizeLine := by have : (64 : Nat) ≤ sizeLine := by decide
                                          omega
  by_cases hc : 0 ≤ c
  · simp [cb_hand, m1, m2, hc, hs]
  · simp [cb_hand, m1, m2, hc, hs]
theorem hand_loop (s : SV) : ∀ (rest cells : List Int) (t : Int) (z : Option SV), cells.length + rest.length ≤ 63 → (∀ c ∈ cells, 0 ≤ c) → 0 ≤ t → t < 2147483629 →
    ∃ (cells' : List Int) (t' : Int) (z' : Option SV), forL (tgN 3) cb_hand (rest.map D.int) [some s, some (.fz (.int t)), some (.ow false (.lst (cells.map D.int))), z] = .nx [some s, some (.fz (.int t')), some (.ow false (.lst (cells'.map D.int))), z'] ∧ cells'.length ≤ 63 ∧ (∀ c ∈ cells', 0 ≤ c) ∧ 0 ≤ t' ∧ t' < 2147483629
  | [], cells, t, z, h, hc, t0, t1 => ⟨cells, t, z, rfl, by simpa using h, hc, t0, t1⟩
  | c :: r, cells, t, z, h, hc, t0, t1 => by
    have hl : cells.length + 1 + r.length ≤ 63 := by simp only [List.length_cons] at h; omega
    obtain ⟨cells', t', z', e, q⟩ := hand_loop s r (cells ++ [if 0 ≤ c then c else -c]) ((t * 1019 + c) % 2147483629) (some (.fz (.int c))) (by simpa using hl) (fun x hx => by
      rcases List.mem_append.mp hx with hx | hx
      · exact hc x hx
      · rw [List.mem_singleton.mp hx]; split <;> omega) (Int.emod_nonneg _ (by decide)) (Int.emod_lt_of_pos _ (by decide))
    refine ⟨cells', t', z', ?_, q⟩
    rw [← e, List.map_cons, forL]
    simp only [tgN, List.set]
    rw [hand_step s cells t c z (by omega) t0 t1]
theorem hand_ok (ns : List Int) (h : ns.length ≤ 63) : ∃ hh ρ, cm_hand [.fz (.scr ns)] = .ok (.fr (.lst hh)) ρ ∧ Hok hh := by
  obtain ⟨cells', t', z', e, h1, h2, h3, h4⟩ := hand_loop (.fz (.scr ns)) ns [] ((ns.length : Int) + 31) none (by simpa using h) (fun _ h => nomatch h) (by omega) (by omega)
  refine ⟨[.lst (cells'.map .int), .int 0, .int 0, .int t'], [some (.fz (.scr ns)), some (.fz (.int t')), some (.fz (.lst (cells'.map D.int))), z'], ?_, ⟨cells', 0, 0, t', rfl, h1, h2, by decide, by omega, by decide, h3, h4⟩⟩
  simp only [List.map_nil] at e
  simp [cm_hand, runB, cg_hand, envOf, sFor, itemsD, sForB, e, szL]
/-! ### words -/
def abc : Str := "abcdefghijklmnopqrstuvwxyz"
theorem abc_at : ∀ n : Fin 26, abc.cps.toList[n.val]? = some (97 + n.val) := by decide +kernel
theorem abc_len : abc.cps.toList.length = 26 := by decide +kernel
theorem abc_sz : abc.length ≤ sizeLine := by decide +kernel
theorem abc_ix {r : Int} (h0 : 0 ≤ r) (h1 : r < 26) : idxD (.str abc) (.int r) = some (.fz (.str ⟨#[97 + r.toNat]⟩)) := by
  have hn : r.toNat < 26 := by omega
  have e := abc_at ⟨r.toNat, hn⟩
  simp only [idxD, if_pos abc_sz, atI, ixN, abc_len, if_pos h0, if_pos (show r < ((26 : Nat) : Int) from h1), Option.bind, e, Option.map]
def low (w : Str) : Prop := ∀ c ∈ w.cps.toList, 97 ≤ c ∧ c ≤ 122
def one (c : Nat) : D := .str ⟨#[c]⟩
def ce_word : ESem := (eOp idxD (eC (.str "abcdefghijklmnopqrstuvwxyz")) (eCallD cm_take [] [(eN 0), (eC (.int 26))]))
def cg_word : SSem := (sR (eU (joinD "") (eLcR rngOf1 [(eOp addD (eC (.int 1)) (eCallD cm_take [] [(eN 0), (eN 1)]))] (.nm 2) cYes ce_word [2])))
def cm_word : FSem := runB cg_word 3
theorem word_loop (m : SV) : ∀ (ds : List D) (acc : List Nat) (h : List D), Hok h → acc.length + ds.length ≤ 1000 → ∃ (cs : List Nat) (h' : List D), compL (tgN 2) cYes ce_word [2] ds (acc.map one) [some (.ow true (.lst h)), some m, none] = .ok ((acc ++ cs).map one) [some (.ow true (.lst h')), some m, none] ∧ Hok h' ∧ cs.length = ds.length ∧ ∀ c ∈ cs, 97 ≤ c ∧ c ≤ 122
  | [], acc, h, H, hl => ⟨[], h, by simp [compL], H, rfl, fun _ h => nomatch h⟩
  | d :: ds, acc, h, H, hl => by
    obtain ⟨r, h1, e, H1, r0, r1⟩ := take_call (i := 0) (fm := eC (.int 26)) (ρ := [some (.ow true (.lst h)), some m, some (.fz d)]) (m := 26) rfl rfl H (by decide) (by decide)
    simp only [List.length_cons] at hl
    obtain ⟨cs, h', e2, H', q1, q2⟩ := word_loop m ds (acc ++ [97 + r.toNat]) h1 H1 (by simp; omega)
    refine ⟨(97 + r.toNat) :: cs, h', ?_, H', by simp [q1], ?_⟩
    · have hs : acc.length < sizeLine := by rw [szL]; omega
      have ix := abc_ix r0 r1
      have ew : ce_word [some (.ow true (.lst h)), some m, some (.fz d)] = .ok (.fz (one (97 + r.toNat))) [some (.ow true (.lst h1)), some m, some (.fz d)] := by
        unfold ce_word
        simp only [x_eOp, x_eC, x_bind_ok, e, List.set, x_rd0]
        rw [show (D.str ("abcdefghijklmnopqrstuvwxyz" : String)) = D.str abc from rfl, ix]
        rfl
      unfold compL
      simp only [tgN, List.set, cYes, x_nox, x_bind_ok, if_true, x_eF, ew, x_frz0, List.length_map, hs, wipeE]
      rw [show acc.map one ++ [one (97 + r.toNat)] = (acc ++ [97 + r.toNat]).map one by simp]
      rw [e2]
      simp
    · intro c hc
      rcases List.mem_cons.mp hc with rfl | hc
      · omega
      · exact q2 c hc
theorem strs_one : ∀ cs : List Nat, strs? (cs.map one) = some (cs.map fun c => (⟨#[c]⟩ : Str))
  | [] => rfl
  | c :: r => by simp only [List.map_cons, one, strs?]; rw [show (r.map one : List D) = r.map one from rfl, strs_one r]; rfl
theorem joinL_nil : ∀ l : List (List Nat), TL.joinL [] l = l.flatten
  | [] => rfl
  | [p] => by simp [TL.joinL]
  | p :: q :: r => by rw [TL.joinL, joinL_nil (q :: r)]; simp
theorem join_one (cs : List Nat) (h : cs.length ≤ 1000) : ∃ w : Str, joinD "" (.lst (cs.map one)) = some (.fz (.str w)) ∧ w.cps.toList = cs := by
  refine ⟨Txt.join "" (cs.map fun c => (⟨#[c]⟩ : Str)), ?_, ?_⟩
  · have e : ((cs.map fun c => (⟨#[c]⟩ : Str)).map (·.length)).sum = cs.length := by
      induction cs with
      | nil => rfl
      | cons c r ih => simp only [List.map_cons, List.sum_cons, List.length_cons]; rw [ih (by simp at h; omega)]; show 1 + r.length = _; omega
    have z : (Str.ofString "").length = 0 := by decide +kernel
    simp only [joinD, strs_one, e]
    rw [if_pos (by simp only [z]; omega)]
  · rw [TL.join_eq]
    have := TL.tl_join "" (cs.map fun c => (⟨#[c]⟩ : Str))
    rw [show TL.tl ("" : String) = [] from rfl, joinL_nil] at this
    rw [show (Str.join "" (cs.map fun c => (⟨#[c]⟩ : Str))).cps.toList = TL.tl (Str.join "" (cs.map fun c => (⟨#[c]⟩ : Str))) from rfl, this, List.map_map]
    clear this h
    induction cs with
    | nil => rfl
    | cons c r ih => simp only [List.map_cons, List.flatten_cons, ih]; rfl
theorem word_ok (h : List D) (m : Int) (H : Hok h) (m0 : 0 < m) (m1 : m < 1000) : ∃ (w : Str) (h' : List D), cm_word [.ow true (.lst h), .fz (.int m)] = .ok (.fz (.str w)) [some (.ow true (.lst h')), some (.fz (.int m)), none] ∧ Hok h' ∧ low w ∧ 1 ≤ w.length ∧ (w.length : Int) ≤ m := by
  obtain ⟨r, h1, e, H1, r0, r1⟩ := take_call (i := 0) (fm := eN 1) (ρ := [some (.ow true (.lst h)), some (.fz (.int m)), none]) (m := m) rfl rfl H m0 (by omega)
  have hlen : (rangeD 0 (1 + r)).length = (1 + r).toNat := by simp [rangeD]
  obtain ⟨cs, h', e2, H', q1, q2⟩ := word_loop (.fz (.int m)) (rangeD 0 (1 + r)) [] h1 H1 (by rw [hlen]; simp; omega)
  have cl : cs.length ≤ 1000 := by rw [q1, hlen]; omega
  obtain ⟨w, j1, j2⟩ := join_one cs cl
  have wl : w.length = cs.length := by rw [← j2]; simp [Str.length]
  refine ⟨w, h', ?_, H', by unfold low; rw [j2]; exact q2, by rw [wl, q1, hlen]; omega, by rw [wl, q1, hlen]; omega⟩
  have sm : smallR 0 (1 + r) = true := by unfold smallR; simp; omega
  simp only [List.map_nil, List.nil_append] at e2
  simp only [cm_word, runB, cg_word, envOf, List.map, List.length, List.replicate, x_sR, x_eU, eLcR, x_eL1, x_eL0, x_eF, x_eOp, x_eC, x_bind_ok, e, List.append, List.cons_append, List.nil_append, Nat.reduceSub, List.replicate, List.set, x_rd0, x_add, x_frz0, rngOf1, sm, if_true, compR, freeOf, List.all, tgF, wipeE, e2, rest]
  simp [j1]
end DL
end
noncomputable section
/-! E23: mixed rows, some of a row. -/
namespace DL
open PySem PySem.Spec L2

theorem erase_map {α β : Type} (f : α → β) : ∀ (xs : List α) (i : Nat), (xs.map f).eraseIdx i = (xs.eraseIdx i).map f
  | [], _ => rfl
  | x :: r, 0 => rfl
  | x :: r, i + 1 => by simp only [List.map_cons, List.eraseIdx_cons_succ, erase_map f r i]
theorem get_erase_perm {α : Type} : ∀ (xs : List α) (i : Nat) (h : i < xs.length), (xs[i] :: xs.eraseIdx i).Perm xs
  | x :: r, 0, _ => .refl _
  | x :: r, i + 1, h => by
    have := get_erase_perm r i (by simpa using h)
    simp only [List.getElem_cons_succ, List.eraseIdx_cons_succ]
    exact (List.Perm.swap _ _ _).trans (.cons _ this)
def cb_shuffled : SSem := (sE (eMut 3 appM [(eMut 2 popM [(eCallD cm_take [] [(eN 0), (eU lenD (eN 2))])])]))
def cg_shuffled : SSem := (sQ (sPar2 2 3 (eU listD (eN 1)) (eLst []))
  (sQ (sWh (cT (eN 2)) cb_shuffled)
  (sR (eN 3))))
def cm_shuffled : FSem := runB cg_shuffled 4
section
variable {α : Type} (f : α → D) (s : SV)
theorem shuf_loop : ∀ (n : Nat) (h : List D) (xs acc : List α), xs.length = n → acc.length + n ≤ 1000 → Hok h →
    ∃ (ys : List α) (h' : List D), sWh (cT (eN 2)) cb_shuffled [some (.ow true (.lst h)), some s, some (.ow false (.lst (xs.map f))), some (.ow false (.lst (acc.map f)))] = .nx [some (.ow true (.lst h')), some s, some (.ow false (.lst [])), some (.ow false (.lst (ys.map f)))] ∧ ys.Perm (acc ++ xs) ∧ Hok h'
  | 0, h, xs, acc, hn, hl, H => by
    have : xs = [] := List.eq_nil_of_length_eq_zero hn
    subst this
    refine ⟨acc, h, ?_, by simp, H⟩
    rw [sWh_eq]
    simp [truthD]
  | n + 1, h, xs, acc, hn, hl, H => by
    obtain ⟨r, h1, e, H1, r0, r1⟩ := take_call (i := 0) (fm := eU lenD (eN 2)) (ρ := [some (.ow true (.lst h)), some s, some (.ow false (.lst (xs.map f))), some (.ow false (.lst (acc.map f)))]) (m := (xs.length : Int)) rfl (by simp) H (by omega) (by omega)
    have hj : r.toNat < xs.length := by omega
    obtain ⟨ys, h', e2, p, H'⟩ := shuf_loop n h1 (xs.eraseIdx r.toNat) (acc ++ [xs[r.toNat]]) (by rw [List.length_eraseIdx_of_lt hj]; omega) (by simp; omega) H1
    refine ⟨ys, h', ?_, ?_, H'⟩
    · have ix : ixN xs.length r = some r.toNat := by unfold ixN; rw [if_pos r0, if_pos r1]
      have ne : (xs.map f).isEmpty = false := by cases xs with
        | nil => simp at hn
        | cons => rfl
      have g1 : (xs.map f)[r.toNat]? = some (f xs[r.toNat]) := by rw [List.getElem?_map, List.getElem?_eq_getElem hj]; rfl
      have hs : acc.length < sizeLine := by rw [szL]; omega
      have bd : -(2 ^ 63) ≤ r ∧ r < 2 ^ 63 := by omega
      have em : (xs.map f).eraseIdx r.toNat = (xs.eraseIdx r.toNat).map f := erase_map _ _ _
      have eb : cb_shuffled [some (.ow true (.lst h)), some s, some (.ow false (.lst (xs.map f))), some (.ow false (.lst (acc.map f)))] = .nx [some (.ow true (.lst h1)), some s, some (.ow false (.lst ((xs.eraseIdx r.toNat).map f))), some (.ow false (.lst ((acc ++ [xs[r.toNat]]).map f)))] := by
        simp only [cb_shuffled, x_sE, x_eMut, x_eL1, x_eL0, x_eF, List.getElem?_cons_succ, List.getElem?_cons_zero, e, x_bind_ok, x_frz0, List.set, popM, List.length_map, ix, g1, bd, and_self, if_true, x_app, hs, em, x_sbind_ok]
        simp
      rw [sWh_eq, ← e2]
      simp [truthD, ne, eb]
    · refine p.trans ?_
      rw [List.append_assoc]
      exact List.Perm.append_left acc (get_erase_perm xs _ hj)
theorem shuf_ok (h : List D) (d : D) (xs : List α) (H : Hok h) (hd : listD d = some (.fr (.lst (xs.map f)))) (hl : xs.length ≤ 1000) :
    ∃ (ys : List α) (h' : List D) (ρ : Env), cm_shuffled [.ow true (.lst h), .fz d] = .ok (.fr (.lst (ys.map f))) (some (.ow true (.lst h')) :: ρ) ∧ ys.Perm xs ∧ Hok h' := by
  obtain ⟨ys, h', e, p, H'⟩ := shuf_loop f (.fz d) xs.length h xs [] rfl (by simpa using hl) H
  refine ⟨ys, h', [some (.fz d), some (.ow false (.lst [])), some (.ow false (.lst (ys.map f)))], ?_, by simpa using p, H'⟩
  simp only [List.map_nil] at e
  simp [cm_shuffled, runB, cg_shuffled, envOf, sPar2, hd, e]
end
def cg_some : SSem := (sR (eU tupD (eU srtA (eSlc (eCallD cm_shuffled [] [(eN 0), (eN 1)]) none (some (eN 2))))))
def cm_some : FSem := runB cg_some 3
theorem ints_map : ∀ ns : List Int, ints? (ns.map D.int) = some ns
  | [] => rfl
  | n :: r => by simp [ints?, ints_map r]
@[simp] theorem srtA_ints (ns : List Int) : srtA (.lst (ns.map D.int)) = some (.fr (.lst ((sortI ns).map D.int))) := by simp only [srtA, srtD, ints_map, Option.map_some]
theorem some_ok (h : List D) (d : D) (ns : List Int) (m : Nat) (H : Hok h) (hd : listD d = some (.fr (.lst (ns.map D.int)))) (hl : ns.length ≤ 1000) (hn : ns.Nodup) :
    ∃ (rs : List Int) (h' : List D) (ρ : Env), cm_some [.ow true (.lst h), .fz d, .fz (.int m)] = .ok (.fz (.tup (rs.map D.int))) (some (.ow true (.lst h')) :: ρ) ∧ rs.Pairwise (· < ·) ∧ (∀ r ∈ rs, r ∈ ns) ∧ rs.length = min m ns.length ∧ Hok h' := by
  obtain ⟨ys, h', ρ, e, p, H'⟩ := shuf_ok D.int h d ns H hd hl
  have hp := sortI_perm (ys.take m)
  have nd : (sortI (ys.take m)).Nodup := hp.nodup_iff.mpr ((List.take_sublist m ys).nodup (p.nodup_iff.mpr hn))
  refine ⟨sortI (ys.take m), h', [some (.fz d), some (.fz (.int m))], ?_, ?_, fun r hr => p.mem_iff.mp (List.mem_of_mem_take (hp.mem_iff.mp hr)), by rw [hp.length_eq, List.length_take, p.length_eq], H'⟩
  · have ec : eCallD cm_shuffled [] [eN 0, eN 1] [some (.ow true (.lst h)), some (.fz d), some (.fz (.int m))] = .ok (.fr (.lst (ys.map D.int))) [some (.ow true (.lst h')), some (.fz d), some (.fz (.int m))] := by simp [e]
    have cut : cutD (ys.map D.int) none (some (m : Int)) = (ys.take m).map D.int := by
      unfold cutD
      rw [HT.sIx_none, HT.sIx_nat]
      simp only [Nat.sub_zero, List.drop_zero, List.length_map]
      rw [← List.map_take]
      congr 1
      rw [List.take_eq_take_iff]
      omega
    simp only [cm_some, runB, cg_some, envOf, List.map, List.length, Nat.reduceSub, Nat.reduceAdd, List.replicate, List.append_nil, x_sR, x_eU, eSlc, ec, x_bind_ok, eO, x_eN, List.getElem?_cons_succ, List.getElem?_cons_zero, x_rd1, x_od, slcD, cut, srtD, ints_map, Option.map, tupD, x_sbind_ok, x_ret0, srtA_ints]
  · exact ((sortI_sorted _).and nd).imp fun ⟨h1, h2⟩ => by omega
end DL
end
noncomputable section
/-! E24: plain data compared and shown. -/
namespace DL
open PySem PySem.Spec L2

theorem toNat_inj : ∀ {l m : List Char}, l.map Char.toNat = m.map Char.toNat → l = m
  | [], [], _ => rfl
  | [], _ :: _, h => by cases h
  | _ :: _, [], h => by cases h
  | a :: l, b :: m, h => by
    simp only [List.map_cons, List.cons.injEq] at h
    rw [toNat_inj h.2, Char.toNat_inj.mp h.1]
@[simp] theorem x_ofS {a b : String} : (Str.ofString a = Str.ofString b) = (a = b) := by
  refine propext ⟨fun h => ?_, fun h => h ▸ rfl⟩
  have := congrArg TL.tl h
  rw [TL.tl_ofString, TL.tl_ofString] at this
  exact String.ext (toNat_inj this)
@[simp] theorem x_ofSb {a b : String} : (Str.ofString a == Str.ofString b) = (a == b) := by
  rw [Bool.eq_iff_iff, beq_iff_eq, beq_iff_eq, x_ofS]
def FineP (k n : Nat) (p : PyData) : Prop := p.canLay0 = true ∧ p.showable = true ∧ p.depth ≤ k ∧ p.bulk ≤ n
def Fine (k n : Nat) (d : D) : Prop := ∃ p, d.pd = some p ∧ FineP k n p
theorem fine_non {k n : Nat} : Fine k n .non := ⟨_, rfl, rfl, rfl, Nat.zero_le _, Nat.zero_le _⟩
theorem fine_bl {k n : Nat} {b : Bool} : Fine k n (.bl b) := ⟨_, rfl, rfl, rfl, Nat.zero_le _, Nat.zero_le _⟩
theorem fine_int {k n : Nat} {i : Int} (h : i.natAbs < 2 ^ 1000) : Fine k n (.int i) := by
  refine ⟨_, rfl, rfl, ?_, Nat.zero_le _, Nat.zero_le _⟩
  have := log2_small h (by decide)
  simp only [PyData.showable, decide_eq_true_eq]; omega
theorem fine_str {k n : Nat} {w : Str} (h : PyData.strOk w = true) (hl : w.length ≤ n) : Fine k n (.str w) := ⟨_, rfl, h, rfl, Nat.zero_le _, hl⟩
theorem fine_all {k m : Nat} : ∀ xs : List D, (∀ x ∈ xs, Fine k m x) → ∃ ps, pdL xs = some ps ∧ PyData.canLayAll0 ps = true ∧ PyData.showableAll ps = true ∧ PyData.depthAll ps ≤ k ∧ PyData.bulkAll ps ≤ xs.length * (m + 1)
  | [], _ => ⟨[], rfl, rfl, rfl, Nat.zero_le _, Nat.zero_le _⟩
  | x :: xs, h => by
    obtain ⟨p, e, h1, h2, h3, h4⟩ := h x (List.mem_cons_self ..)
    obtain ⟨ps, es, g1, g2, g3, g4⟩ := fine_all xs fun y hy => h y (List.mem_cons_of_mem _ hy)
    refine ⟨p :: ps, by simp only [pdL, e, es], by simp [PyData.canLayAll0, h1, g1], by simp [PyData.showableAll, h2, g2], by simp only [PyData.depthAll]; omega, ?_⟩
    simp only [PyData.bulkAll, List.length_cons, Nat.add_mul]; omega
theorem fine_lst {k m l n : Nat} {xs : List D} (h : ∀ x ∈ xs, Fine k m x) (hl : xs.length ≤ l) (hn : l * (m + 1) ≤ n) : Fine (k + 1) n (.lst xs) := by
  obtain ⟨ps, e, h1, h2, h3, h4⟩ := fine_all xs h
  refine ⟨.list ps, by simp only [D.pd, e]; rfl, h1, h2, by simp only [PyData.depth]; omega, ?_⟩
  have : xs.length * (m + 1) ≤ l * (m + 1) := Nat.mul_le_mul_right _ hl
  simp only [PyData.bulk]; omega
theorem fine_tup {k m l n : Nat} {xs : List D} (h : ∀ x ∈ xs, Fine k m x) (hl : xs.length ≤ l) (hn : l * (m + 1) ≤ n) : Fine (k + 1) n (.tup xs) := by
  obtain ⟨ps, e, h1, h2, h3, h4⟩ := fine_all xs h
  refine ⟨.tuple ps, by simp only [D.pd, e]; rfl, h1, h2, by simp only [PyData.depth]; omega, ?_⟩
  have : xs.length * (m + 1) ≤ l * (m + 1) := Nat.mul_le_mul_right _ hl
  simp only [PyData.bulk]; omega
theorem Fine.mono {k n k' n' : Nat} {d : D} (h : Fine k n d) (hk : k ≤ k') (hn : n ≤ n') : Fine k' n' d := by
  obtain ⟨p, e, h1, h2, h3, h4⟩ := h
  exact ⟨p, e, h1, h2, by omega, by omega⟩
theorem fine_deq {k n k' n' : Nat} {x y : D} {p q : PyData} (hx : x.pd = some p) (hy : y.pd = some q) (h1 : FineP k n p) (h2 : FineP k' n' q) (hk : k ≤ 64) (hk' : k' ≤ 64) : deq x y = some (PyData.eqv p q) := by
  simp only [deq, hx, hy]
  have s1 : SeqAt.shaped p = true := by simp only [SeqAt.shaped, h1.1, Bool.true_and, decide_eq_true_eq]; have := h1.2.2.1; omega
  have s2 : SeqAt.shaped q = true := by simp only [SeqAt.shaped, h2.1, Bool.true_and, decide_eq_true_eq]; have := h2.2.2.1; omega
  rw [s1, s2]; rfl
mutual
theorem eqv_self : ∀ p : PyData, p.canLay0 = true → PyData.eqv p p = true
  | .none, _ => rfl
  | .bool b, _ => by simp [PyData.eqv]
  | .int i, _ => by simp [PyData.eqv]
  | .str x, _ => by simp [PyData.eqv]
  | .list xs, h => by simp only [PyData.eqv]; exact eqvs_self xs h
  | .tuple xs, h => by simp only [PyData.eqv]; exact eqvs_self xs h
  | .dict _, h => by cases h
theorem eqvs_self : ∀ ps : List PyData, PyData.canLayAll0 ps = true → PyData.eqvAll ps ps = true
  | [], _ => rfl
  | p :: ps, h => by
    simp only [PyData.canLayAll0, Bool.and_eq_true] at h
    simp only [PyData.eqvAll, eqv_self p h.1, eqvs_self ps h.2, Bool.and_self]
end
theorem deq_self {k n : Nat} {d : D} (h : Fine k n d) (hk : k ≤ 64) : deq d d = some true := by
  obtain ⟨p, e, hp⟩ := h
  rw [fine_deq e e hp hp hk hk, eqv_self p hp.1]
theorem eqvInts : ∀ xs ys : List Int, PyData.eqvAll (xs.map .int) (ys.map .int) = decide (xs = ys)
  | [], [] => rfl
  | [], _ :: _ => by simp [PyData.eqvAll]
  | _ :: _, [] => by simp [PyData.eqvAll]
  | x :: xs, y :: ys => by
    have : (x == y) = decide (x = y) := by by_cases h : x = y <;> simp [h]
    simp [PyData.eqvAll, PyData.eqv, eqvInts xs ys, this]
theorem pdInts : ∀ xs : List Int, pdL (xs.map D.int) = some (xs.map PyData.int)
  | [] => rfl
  | x :: xs => by simp only [List.map_cons, pdL, D.pd, pdInts xs]
def Sm (xs : List Int) : Prop := xs.length ≤ 1000 ∧ ∀ x ∈ xs, x.natAbs < 2 ^ 1000
theorem fine_ints {xs : List Int} (h : Sm xs) : Fine 1 1000 (.tup (xs.map D.int)) ∧ Fine 1 1000 (.lst (xs.map D.int)) := by
  have : ∀ x ∈ xs.map D.int, Fine 0 0 x := fun x hx => by
    obtain ⟨i, hi, rfl⟩ := List.mem_map.mp hx
    exact fine_int (h.2 i hi)
  exact ⟨fine_tup (k := 0) this (l := 1000) (by simpa using h.1) (by omega), fine_lst (k := 0) this (l := 1000) (by simpa using h.1) (by omega)⟩
theorem deq_tups {xs ys : List Int} (h1 : Sm xs) (h2 : Sm ys) : deq (.tup (xs.map D.int)) (.tup (ys.map D.int)) = some (decide (xs = ys)) := by
  obtain ⟨p, e, hp⟩ := (fine_ints h1).1
  obtain ⟨q, f, hq⟩ := (fine_ints h2).1
  rw [fine_deq e f hp hq (by decide) (by decide)]
  simp only [D.pd, pdInts, Option.map] at e f
  cases e; cases f
  simp only [PyData.eqv, eqvInts]
/-! ### repr -/
mutual
theorem short_of : ∀ p : PyData, p.canLay0 = true → p.showable = true → p.leavesShort 1921 = true
  | .none, _, _ => rfl
  | .bool _, _, _ => rfl
  | .int i, _, h => by
    simp only [PyData.showable, decide_eq_true_eq] at h
    simp only [PyData.leavesShort, decide_eq_true_eq]
    exact PyProof.Rows.int_text_len_1921 h
  | .str x, h, _ => by
    simp only [PyData.canLay0, PyData.strOk, Array.all_eq_true'] at h
    simp only [PyData.leavesShort, List.all_eq_true, decide_eq_true_eq]
    intro c hc
    have := of_decide_eq_true (h c (Array.mem_toList_iff.mp hc))
    omega
  | .list xs, h, k => shorts_of xs h k
  | .tuple xs, h, k => shorts_of xs h k
  | .dict _, h, _ => by cases h
theorem shorts_of : ∀ ps : List PyData, PyData.canLayAll0 ps = true → PyData.showableAll ps = true → PyData.leavesShortAll 1921 ps = true
  | [], _, _ => rfl
  | p :: ps, h, k => by
    simp only [PyData.canLayAll0, Bool.and_eq_true] at h
    simp only [PyData.showableAll, Bool.and_eq_true] at k
    simp only [PyData.leavesShortAll, short_of p h.1 k.1, shorts_of ps h.2 k.2, Bool.and_self]
end
theorem okShow_fine {k n : Nat} {p : PyData} (h : FineP k n p) (hk : k ≤ 60) (hn : n ≤ 8000) : okShow p = true := by
  obtain ⟨h1, h2, h3, h4⟩ := h
  have e1 := PyData.hasDict_of_canLay p h1
  have sh : p.shown.length ≤ sizeLine := by
    have := PyData.shown_le_bulk 1921 (by decide) p (short_of p h1 h2)
    rw [szL]; omega
  simp only [okShow, h2, e1, Bool.not_false, Bool.true_and, Bool.and_eq_true, decide_eq_true_eq]
  exact ⟨by omega, sh⟩
theorem repr_lst {k n : Nat} {xs : List D} (h : Fine k n (.lst xs)) (hk : k ≤ 60) (hn : n ≤ 8000) : ∃ s, reprD (.lst xs) = some (.fz (.str s)) := by
  obtain ⟨p, e, hp⟩ := h
  have ok := okShow_fine hp hk hn
  have sq : isSeqP p = true := by
    simp only [D.pd] at e
    cases q : pdL xs with
    | none => rw [q] at e; cases e
    | some ps => rw [q] at e; cases e; rfl
  exact ⟨p.shown, by simp only [reprD, e, sq, ok, Bool.and_self, if_true]⟩
end DL
end
noncomputable section
/-! E25: steps of evaluation, one call after another. -/
namespace DL
open PySem PySem.Spec L2

section
variable {α β γ : Type}
@[simp] theorem y_bb {o : Out α} {f : α → Env → Out β} {g : β → Env → Out γ} : (o.bind f).bind g = o.bind fun a ρ => (f a ρ).bind g := by cases o <;> rfl
@[simp] theorem y_bs {o : Out α} {f : α → Env → Out β} {g : β → Env → SOut} : (o.bind f).sbind g = o.sbind fun a ρ => (f a ρ).sbind g := by cases o <;> rfl
@[simp] theorem y_sb {o : Out α} {f : α → Env → SOut} {g : SSem} : (o.sbind f).bind g = o.sbind fun a ρ => (f a ρ).bind g := by cases o <;> rfl
@[simp] theorem y_ss {o : SOut} {f g : SSem} : (o.bind f).bind g = o.bind fun ρ => (f ρ).bind g := by cases o <;> rfl
end
/-- what a call gives -/
def Gv (o : Out RV) (Q : RV → Env → Prop) : Prop := ∃ r ρ, o = .ok r ρ ∧ Q r ρ
theorem Gv.of {o : Out RV} {Q : RV → Env → Prop} {r : RV} {ρ : Env} (h : o = .ok r ρ) (q : Q r ρ) : Gv o Q := ⟨r, ρ, h, q⟩
theorem Gv.mp {o : Out RV} {Q Q' : RV → Env → Prop} (h : Gv o Q) (q : ∀ r ρ, Q r ρ → Q' r ρ) : Gv o Q' := let ⟨r, ρ, e, x⟩ := h; ⟨r, ρ, e, q r ρ x⟩
/-- a wish for an end -/
def W (Q : SOut → Prop) (o : SOut) : Prop := Q o
/-- .. for a value -/
def V1 {α : Type} (Q : Out α → Prop) (o : Out α) : Prop := Q o
theorem cw {o : Out RV} {S : RV → Env → Prop} {g : Env → Env} {K : RV → Env → SOut} {Q : SOut → Prop} (h : Gv o S) (k : ∀ r ρ, S r ρ → W Q (K r (g ρ))) : W Q ((o.onE g).sbind K) := by
  obtain ⟨r, ρ, rfl, s⟩ := h
  exact k r ρ s
theorem cv {α : Type} {o : Out RV} {S : RV → Env → Prop} {g : Env → Env} {K : RV → Env → Out α} {Q : Out α → Prop} (h : Gv o S) (k : ∀ r ρ, S r ρ → V1 Q (K r (g ρ))) : V1 Q ((o.onE g).bind K) := by
  obtain ⟨r, ρ, rfl, s⟩ := h
  exact k r ρ s
/-- the end of a body -/
def toOut : SOut → Out RV
  | .nx ρ => .ok (.fz .non) ρ
  | .rt r ρ => .ok r ρ
  | .ex c fs ρ => .ex c fs ρ
  | _ => .no
theorem run_w {g : SSem} {n : Nat} {as : List SV} {Q : RV → Env → Prop} (h : W (fun o => Gv (toOut o) Q) (g (envOf as ++ List.replicate (n - as.length) none))) : Gv (runB g n as) Q := by
  have e : runB g n as = toOut (g (envOf as ++ List.replicate (n - as.length) none)) := by
    unfold runB toOut
    cases g (envOf as ++ List.replicate (n - as.length) none) <;> rfl
  rw [e]
  exact h
@[simp] theorem w_rt {r : RV} {ρ : Env} {Q : RV → Env → Prop} : W (fun o => Gv (toOut o) Q) (.rt r ρ) ↔ Q r ρ := ⟨fun ⟨_, _, h, q⟩ => by cases h; exact q, fun q => ⟨_, _, rfl, q⟩⟩
@[simp] theorem w_nx {ρ : Env} {Q : RV → Env → Prop} : W (fun o => Gv (toOut o) Q) (.nx ρ) ↔ Q (.fz .non) ρ := ⟨fun ⟨_, _, h, q⟩ => by cases h; exact q, fun q => ⟨_, _, rfl, q⟩⟩
/-- a turn of a loop -/
def Nx (I : Env → Prop) (o : SOut) : Prop := ∃ ρ, o = .nx ρ ∧ I ρ
@[simp] theorem nx_nx {I : Env → Prop} {ρ : Env} : W (Nx I) (.nx ρ) ↔ I ρ := ⟨fun ⟨_, h, q⟩ => by cases h; exact q, fun q => ⟨_, rfl, q⟩⟩
/-- a loop that keeps I -/
theorem for_keeps {tg : D → Env → Option Env} {b : SSem} {I : Env → Prop} (st : ∀ d ρ, I ρ → ∃ ρ0, tg d ρ = some ρ0 ∧ W (Nx I) (b ρ0)) : ∀ (ds : List D) (ρ : Env), I ρ → ∃ ρ', forL tg b ds ρ = .nx ρ' ∧ I ρ'
  | [], ρ, h => ⟨ρ, rfl, h⟩
  | d :: ds, ρ, h => by
    obtain ⟨ρ0, e, ρ1, e1, h1⟩ := st d ρ h
    obtain ⟨ρ', e2, h2⟩ := for_keeps st ds ρ1 h1
    exact ⟨ρ', by rw [forL, e]; simp only [e1]; exact e2, h2⟩
theorem for_w {tg : D → Env → Option Env} {b g : SSem} {I : Env → Prop} {ds : List D} {ρ : Env} {Q : SOut → Prop} (h : I ρ) (st : ∀ d ρ, I ρ → ∃ ρ0, tg d ρ = some ρ0 ∧ W (Nx I) (b ρ0)) (k : ∀ ρ', I ρ' → W Q (g ρ')) : W Q ((forL tg b ds ρ).bind g) := by
  obtain ⟨ρ', e, h'⟩ := for_keeps st ds ρ h
  rw [e]
  exact k ρ' h'
theorem seq_w {g g' : SSem} {ρ : Env} {J : Env → Prop} {Q : SOut → Prop} (h : W (Nx J) (g ρ)) (k : ∀ ρ', J ρ' → W Q (g' ρ')) : W Q (sQ g g' ρ) := by
  obtain ⟨ρ', e, q⟩ := h
  show W Q ((g ρ).bind g')
  rw [e]
  exact k ρ' q
/-- the draws as calls -/
theorem take_s {h : List D} {m : Int} (H : Hok h) (m0 : 0 < m) (m1 : m < 1073741824) : Gv (cm_take [.ow true (.lst h), .fz (.int m)]) fun r ρ => ∃ v h' ρ', r = .fz (.int v) ∧ ρ = some (.ow true (.lst h')) :: ρ' ∧ Hok h' ∧ 0 ≤ v ∧ v < m := by
  obtain ⟨r, h', ρ, e, q⟩ := take_ok h m H m0 m1
  exact .of e ⟨r, h', ρ, rfl, rfl, q⟩
/-- hands: draw on -/
theorem draw {h : List D} {m : Int} {g : Env → Env} {K : RV → Env → SOut} {Q : SOut → Prop} (H : Hok h) (m0 : 0 < m) (m1 : m < 1073741824) (k : ∀ v h' ρ', Hok h' → 0 ≤ v → v < m → W Q (K (.fz (.int v)) (g (some (.ow true (.lst h')) :: ρ')))) : W Q (((cm_take [.ow true (.lst h), .fz (.int m)]).onE g).sbind K) :=
  cw (take_s H m0 m1) fun _ _ ⟨v, h', ρ', e1, e2, H', r0, r1⟩ => by subst e1 e2; exact k v h' ρ' H' r0 r1
theorem drawV {α : Type} {h : List D} {m : Int} {g : Env → Env} {K : RV → Env → Out α} {Q : Out α → Prop} (H : Hok h) (m0 : 0 < m) (m1 : m < 1073741824) (k : ∀ v h' ρ', Hok h' → 0 ≤ v → v < m → V1 Q (K (.fz (.int v)) (g (some (.ow true (.lst h')) :: ρ')))) : V1 Q (((cm_take [.ow true (.lst h), .fz (.int m)]).onE g).bind K) :=
  cv (take_s H m0 m1) fun _ _ ⟨v, h', ρ', e1, e2, H', r0, r1⟩ => by subst e1 e2; exact k v h' ρ' H' r0 r1
/-! ### objects made -/
def Out.mk1 (c : Str) (g : Env → Env) : Out RV → Out RV
  | .ok r ρa => match madeOf c r ρa.head? with
    | some fs => .ok (.fz (.ins c fs)) (g ρa.tail)
    | none => .no
  | .ex c' fs ρa => .ex c' fs (g ρa.tail)
  | .no => .no
@[simp] theorem x_eMake {c : Str} {m : FSem} {dds : List D} {fs : List ESem} {ρ : Env} : eMake c m dds fs ρ = (eP fs ρ).bind fun rs ρ1 => match argsOf ρ1 (rs ++ dds.map .fz) with
  | some as => if (slotsOf rs).Nodup then (m (.ow true (.ob c []) :: as)).mk1 c (back ρ1 (rs ++ dds.map .fz)) else .no
  | none => .no := by
  unfold eMake
  congr 1
@[simp] theorem x_mk1_ex {c c' : Str} {g : Env → Env} {fs : List (Str × D)} {ρ : Env} : (Out.ex c' fs ρ : Out RV).mk1 c g = .ex c' fs (g ρ.tail) := (rfl)
@[simp] theorem x_mk1_ok {c : Str} {g : Env → Env} {fs : List (Str × D)} {ρ : Env} : (Out.ok (.fz .non) (some (.ow true (.ob c fs)) :: ρ) : Out RV).mk1 c g = .ok (.fz (.ins c fs)) (g ρ) := by simp [Out.mk1, madeOf]
/-! ### comprehensions, loops, fields -/
section
variable {ρ : Env} {src el f : ESem} {tg : Tg1} {tt : CSem} {vs : List Nat} {ds acc : List D} {g : D → Env → Option Env} {b : SSem}
@[simp] theorem x_eLc : eLc src tg tt el vs ρ = (src ρ).bind fun r ρ1 => match rd ρ1 r with
  | some d => (match itemsD d with
    | some ds => (compB tg tt el vs r ds ρ1).nox.bind fun acc ρ2 => .ok (.fr (.lst acc)) ρ2
    | none => .no)
  | none => .no := (rfl)
@[simp] theorem x_compB0 {d : D} : compB tg tt el vs (.fz d) ds ρ = compR tg tt el vs ds ρ := (rfl)
@[simp] theorem x_compB1 {o : OB} : compB tg tt el vs (.fr o) ds ρ = compR tg tt el vs ds ρ := (rfl)
@[simp] theorem x_compB2 {k : Nat} : compB tg tt el vs (.sl k) ds ρ = match ρ[k]? with
    | some (some (.ow w o)) => (compR tg tt el vs ds (ρ.set k (some (.lk o)))).onE (unl k w)
    | _ => compR tg tt el vs ds ρ := (rfl)
@[simp] theorem x_compR : compR tg tt el vs ds ρ = if DL.freeOf ρ vs = true then (compL (tgF tg) tt el vs ds [] (wipeE ρ vs)).bind fun acc ρ' => .ok acc (DL.rest ρ vs ρ') else .no := (rfl)
@[simp] theorem x_compL0 : compL g tt el vs [] acc ρ = .ok acc ρ := (rfl)
@[simp] theorem x_tgN {i : Nat} {d : D} : tgN i d ρ = some (ρ.set i (some (.fz d))) := (rfl)
@[simp] theorem x_tgF {i : Nat} : tgF (.nm i) = tgN i := (rfl)
@[simp] theorem x_wipe0 : wipeE ρ [] = ρ := (rfl)
@[simp] theorem x_wipe1 {v : Nat} : wipeE ρ (v :: vs) = (wipeE ρ vs).set v none := (rfl)
@[simp] theorem x_rest0 {ρ0 : Env} : DL.rest ρ0 [] ρ = ρ := (rfl)
@[simp] theorem x_rest1 {ρ0 : Env} {v : Nat} : DL.rest ρ0 (v :: vs) ρ = (DL.rest ρ0 vs ρ).set v ((ρ0[v]?).join) := (rfl)
@[simp] theorem x_freeOf {vs : List Nat} : DL.freeOf ρ vs = vs.all fun v => match ρ[v]? with
  | some (some s) => !s.obj
  | _ => true := (rfl)
@[simp] theorem x_obj0 {d : D} : (SV.fz d).obj = false := (rfl)
@[simp] theorem x_cYes : cYes ρ = .ok true ρ := (rfl)
@[simp] theorem x_eFld {n : Str} {cs : List Str} : eFld n cs f ρ = (f ρ).bind fun r ρ1 => match rdF ρ1 r with
  | some (c, fs) => if c ∈ cs then (match fs.lookup n with | some d => .ok (.fz d) ρ1 | none => .no) else .no
  | none => .no := (rfl)
@[simp] theorem x_rdF0 {c : Str} {fs : List (Str × D)} : rdF ρ (.fz (.ins c fs)) = some (c, fs) := (rfl)
@[simp] theorem x_eProp {c : Str} {m : FSem} : eProp c m f ρ = (f ρ).bind fun r ρ1 => match rd ρ1 r with
  | some (.ins c' fs) => if c' = c then (match m [.fz (.ins c' fs)] with
    | .ok r' _ => .ok r' ρ1
    | _ => .no) else .no
  | _ => .no := (rfl)
@[simp] theorem x_itL : itemsD (.lst ds) = some ds := (rfl)
@[simp] theorem x_itT : itemsD (.tup ds) = some ds := (rfl)
@[simp] theorem x_listT : listD (.tup ds) = some (.fr (.lst ds)) := (rfl)
@[simp] theorem x_listL : listD (.lst ds) = some (.fr (.lst ds)) := (rfl)
@[simp] theorem x_tupT : tupD (.tup ds) = some (.fz (.tup ds)) := (rfl)
@[simp] theorem x_tupL : tupD (.lst ds) = some (.fz (.tup ds)) := (rfl)
@[simp] theorem x_sFldS {k : Nat} {n : Str} {cs : List Str} : sFldS k n cs f ρ = (eF f ρ).sbind fun d ρ1 => match ρ1[k]? with
  | some (some (.ow b (.ob c fs))) => if c ∈ cs ∧ fs.length < 1000 then .nx (ρ1.set k (some (.ow b (.ob c (putD n d fs))))) else .no
  | _ => .no := (rfl)
@[simp] theorem x_sRaise {c : Str} {n : Nat} {is : List (Str × Nat)} {fs : List ESem} : sRaise c n is fs ρ = (eL fs ρ).sbind fun ds ρ1 => if ds.length = n then .ex c (exFs .non ds is []) ρ1 else .no := (rfl)
end
end DL
end
noncomputable section
/-! E26: small facts: items by place, rows compared. -/
namespace DL
open PySem PySem.Spec L2

theorem at_n {xs : List D} {n : Nat} {x : D} (h : xs[n]? = some x) : atI xs (n : Int) = some x := by
  have hn : n < xs.length := (List.getElem?_eq_some_iff.mp h).1
  have : ixN xs.length (n : Int) = some n := by unfold ixN; rw [if_pos (by omega), if_pos (by omega)]; rfl
  simp only [atI, this, Option.bind, h]
theorem at_some {xs : List D} {i : Int} (h0 : 0 ≤ i) (h1 : i < xs.length) : ∃ d, atI xs i = some d ∧ d ∈ xs := by
  have hn : i.toNat < xs.length := by omega
  have e : atI xs i = some xs[i.toNat] := by
    have := at_n (xs := xs) (n := i.toNat) (List.getElem?_eq_getElem hn)
    rwa [show ((i.toNat : Nat) : Int) = i by omega] at this
  exact ⟨_, e, List.getElem_mem hn⟩
section
variable {a b c d e f g x : D} {xs : List D}
@[simp] theorem at_0 : atI (a :: xs) 0 = some a := at_n (n := 0) rfl
@[simp] theorem at_1 : atI (a :: b :: xs) 1 = some b := at_n (n := 1) rfl
@[simp] theorem at_2 : atI (a :: b :: c :: xs) 2 = some c := at_n (n := 2) rfl
@[simp] theorem at_3 : atI (a :: b :: c :: d :: xs) 3 = some d := at_n (n := 3) rfl
@[simp] theorem at_4 : atI (a :: b :: c :: d :: e :: xs) 4 = some e := at_n (n := 4) rfl
@[simp] theorem at_5 : atI (a :: b :: c :: d :: e :: f :: xs) 5 = some f := at_n (n := 5) rfl
@[simp] theorem at_6 : atI (a :: b :: c :: d :: e :: f :: g :: xs) 6 = some g := at_n (n := 6) rfl
end
theorem szk {n : Nat} (h : n ≤ 16777216) : n ≤ sizeLine := by rw [szL]; exact h
theorem szk' {n : Nat} (h : n < 16777216) : n < sizeLine := by rw [szL]; exact h
@[simp] theorem sz0 : (0 : Nat) ≤ sizeLine := szk (by decide)
@[simp] theorem sz0' : (0 : Nat) < sizeLine := szk' (by decide)
@[simp] theorem sz1 : (1 : Nat) ≤ sizeLine := szk (by decide)
@[simp] theorem sz1' : (1 : Nat) < sizeLine := szk' (by decide)
@[simp] theorem sz2 : (2 : Nat) ≤ sizeLine := szk (by decide)
@[simp] theorem sz3 : (3 : Nat) ≤ sizeLine := szk (by decide)
@[simp] theorem sz4 : (4 : Nat) ≤ sizeLine := szk (by decide)
@[simp] theorem sz5 : (5 : Nat) ≤ sizeLine := szk (by decide)
@[simp] theorem sz6 : (6 : Nat) ≤ sizeLine := szk (by decide)
@[simp] theorem sz7 : (7 : Nat) ≤ sizeLine := szk (by decide)
@[simp] theorem sz8 : (8 : Nat) ≤ sizeLine := szk (by decide)
/-! ### texts -/
theorem strOk_of {x : Str} (h : ∀ c ∈ TL.tl x, c < 1114112) : PyData.strOk x = true := by
  simp only [PyData.strOk, Array.all_eq_true']
  intro c hc
  exact decide_eq_true (h c (Array.mem_toList_iff.mpr hc))
theorem low_ok {x : Str} (h : low x) : PyData.strOk x = true := strOk_of fun c hc => by have := h c hc; omega
theorem sIx_1 {n : Nat} (h : 1 ≤ n) : HT.sIx n 0 (some 1) = 1 := by
  have := HT.sIx_nat n 0 1
  rw [show (((1 : Nat) : Int)) = 1 from rfl] at this
  rw [this]; omega
theorem tl_tail {x : Str} (h : 1 ≤ x.length) : TL.tl (cutS x (some 1) none) = (TL.tl x).drop 1 := by
  show ((x.cps.toList.drop (HT.sIx x.length 0 (some 1))).take (HT.sIx x.length x.length none - HT.sIx x.length 0 (some 1))).toArray.toList = _
  rw [sIx_1 h, HT.sIx_none]
  show List.take _ _ = _
  rw [List.take_of_length_le]
  rw [List.length_drop, Array.length_toList]
  exact Nat.le_refl _
theorem tail_len {x : Str} (h : 1 ≤ x.length) : (cutS x (some 1) none).length = x.length - 1 := by
  rw [TL.len_tl, tl_tail h, List.length_drop, ← TL.len_tl]
theorem low_tail {x : Str} (h : low x) (h1 : 1 ≤ x.length) : low (cutS x (some 1) none) := fun c hc => by
  have : c ∈ TL.tl (cutS x (some 1) none) := hc
  rw [tl_tail h1] at this
  exact h c (List.mem_of_mem_drop this)
theorem low_app {x y : Str} (h : low x) (h' : low y) : low (x ++ y) := fun c hc => by
  have : c ∈ TL.tl (x ++ y) := hc
  rw [TL.tl_append] at this
  rcases List.mem_append.mp this with q | q
  · exact h c q
  · exact h' c q
theorem addS {x y : Str} (h : x.length + y.length ≤ 16777216) : addD (.str x) (.str y) = some (.fz (.str (x ++ y))) := by
  simp only [addD]; rw [if_pos (szk h)]
theorem slcS {x : Str} {lo hi : Option Int} (h : x.length ≤ 16777216) : slcD (.str x) lo hi = some (.fz (.str (cutS x lo hi))) := by
  simp only [slcD]; rw [if_pos (szk h)]
@[simp] theorem x_eSlc {f : ESem} {lo hi : Option ESem} {ρ : Env} : eSlc f lo hi ρ = (f ρ).bind fun r ρ1 => (eO lo ρ1).bind fun l ρ2 => (eO hi ρ2).bind fun h ρ3 => match rd ρ3 r with
  | some x => (match slcD x l h with | some r => .ok r ρ3 | none => .no)
  | none => .no := (rfl)
@[simp] theorem x_eO0 {ρ : Env} : eO none ρ = .ok none ρ := (rfl)
@[simp] theorem x_eO1 {f : ESem} {ρ : Env} : eO (some f) ρ = (f ρ).bind fun r ρ1 => match r with
    | .fz (.int i) => .ok (some i) ρ1
    | _ => .no := (rfl)
theorem eqD_nil : eqD (.lst []) (.lst []) = some (.fz (.bl true)) := rfl
theorem Fine.deq {k n k' n' : Nat} {x y : D} (h1 : Fine k n x) (h2 : Fine k' n' y) (hk : k ≤ 64) (hk' : k' ≤ 64) : ∃ p q, x.pd = some p ∧ y.pd = some q ∧ DL.deq x y = some (PyData.eqv p q) := by
  obtain ⟨p, e, hp⟩ := h1
  obtain ⟨q, f, hq⟩ := h2
  exact ⟨p, q, e, f, fine_deq e f hp hq hk hk'⟩
theorem eqD_cons {k n : Nat} {x : D} {xs : List D} (h : Fine k n (.lst (x :: xs))) (hk : k ≤ 64) : eqD (.lst (x :: xs)) (.lst []) = some (.fz (.bl false)) := by
  obtain ⟨p, q, e, f, z⟩ := h.deq (fine_lst (k := 0) (m := 0) (l := 0) (n := 0) (xs := []) (fun _ h => nomatch h) (by decide) (by decide)) hk (by decide)
  simp only [D.pd, pdL] at e f
  cases f
  cases e1 : x.pd with
  | none => rw [e1] at e; cases e
  | some a =>
    cases e2 : pdL xs with
    | none => rw [e1, e2] at e; cases e
    | some b =>
      rw [e1, e2] at e
      cases e
      simp only [eqD, z, PyData.eqv, PyData.eqvAll, Option.map]
theorem neD_self {k n : Nat} {x : D} (h : Fine k n x) (hk : k ≤ 64) (hs : ∀ s, x ≠ .str s) : neD x x = some (.fz (.bl false)) := by
  have := deq_self h hk
  cases x <;> first | exact absurd rfl (hs _) | simp [neD, this]
theorem eqD_self {k n : Nat} {x : D} (h : Fine k n x) (hk : k ≤ 64) (hs : ∀ s, x ≠ .str s) : eqD x x = some (.fz (.bl true)) := by
  have := deq_self h hk
  cases x <;> first | exact absurd rfl (hs _) | simp [eqD, this]
end DL
end
noncomputable section
/-! E27: the G layer's constructs evaluated. -/
namespace DL
open PySem PySem.Spec L2

section
variable {ρ ρ0 : Env} {f g el : ESem} {vs : List Nat} {ds xs : List D} {r : RV} {rs : List RV} {d : D} {β : Type} {em : β → Env → Out β} {a0 acc : β} {c : CL} {cs : List CL} {tg : D → Env → Option Env} {gs : List D → Env → Option Env} {tt : CSem} {n k : Nat}
@[simp] theorem x_srcD : srcD f ρ = (f ρ).bind fun r ρ1 => match rd ρ1 r with
  | some d => (match itemsD d with
    | some ds => .ok (ds, [r]) ρ1
    | none => .no)
  | none => .no := (rfl)
@[simp] theorem x_srcR {rg : List D → Option (Int × Int)} {args : List ESem} : srcR rg args ρ = (eL args ρ).bind fun ds ρ1 => match rg ds with
  | some (i, j) => if smallR i j = true then .ok (rangeD i j, []) ρ1 else .no
  | none => .no := (rfl)
@[simp] theorem x_cmpO : cmpO c cs em a0 vs ρ = (c.src ρ).bind fun r ρ1 => if DL.freeOf (lockL ρ1 r.2) vs = true then ((loopF c.tg c.tt (clF cs em) r.1 a0 (wipeE (lockL ρ1 r.2) vs)).nox.bind fun acc ρ' => .ok acc (unlL ρ1 r.2 (DL.rest (lockL ρ1 r.2) vs (wipeE ρ' vs)))) else .no := (rfl)
@[simp] theorem x_clF0 : clF [] em = em := (rfl)
@[simp] theorem x_clF1 : clF (c :: cs) em acc ρ = (c.src ρ).nox.bind fun r ρ1 => (loopF c.tg c.tt (clF cs em) r.1 acc (lockL ρ1 r.2)).onE (unlL ρ1 r.2) := (rfl)
@[simp] theorem x_loop0 {inn : β → Env → Out β} : loopF tg tt inn [] acc ρ = .ok acc ρ := (rfl)
@[simp] theorem x_lock0 : lockL ρ [] = ρ := (rfl)
@[simp] theorem x_lock1 : lockL ρ (.fz d :: rs) = lockL ρ rs := (rfl)
@[simp] theorem x_lock2 {o : OB} : lockL ρ (.fr o :: rs) = lockL ρ rs := (rfl)
@[simp] theorem x_lock3 : lockL ρ (.sl k :: rs) = lockL (match ρ[k]? with
    | some (some (.ow _ o)) => ρ.set k (some (.lk o))
    | _ => ρ) rs := (rfl)
@[simp] theorem x_unl0 : unlL ρ0 [] ρ = ρ := (rfl)
@[simp] theorem x_unl1 : unlL ρ0 (.fz d :: rs) ρ = unlL ρ0 rs ρ := (rfl)
@[simp] theorem x_unl2 {o : OB} : unlL ρ0 (.fr o :: rs) ρ = unlL ρ0 rs ρ := (rfl)
@[simp] theorem x_unl3 : unlL ρ0 (.sl k :: rs) ρ = (match ρ0[k]? with
    | some (some (.ow w _)) => unl k w (unlL (lock1 ρ0 (.sl k)) rs ρ)
    | _ => unlL (lock1 ρ0 (.sl k)) rs ρ) := (rfl)
@[simp] theorem x_eLG : eLG c cs el vs ρ = (cmpO c cs (emL el) [] vs ρ).bind fun acc ρ' => .ok (.fr (.lst acc)) ρ' := (rfl)
@[simp] theorem x_eDT : eDT c cs f g vs ρ = (cmpO c cs (emDT f g) [] vs ρ).bind fun acc ρ' => .ok (.fr (.dT acc)) ρ' := (rfl)
@[simp] theorem x_eSrtS {h : Env → Out (List Int)} : eSrtS h ρ = (h ρ).bind fun acc ρ' => if acc.length < 64 then .ok (.fr (.lst ((sortI acc).map .int))) ρ' else .no := (rfl)
@[simp] theorem x_eSrtP {h : Env → Out (List (Int × Int))} : eSrtP h ρ = (h ρ).bind fun acc ρ' => if (acc.all fun p => decide (inB p)) = true then .ok (.fr (.lst ((sortP acc).map pairD))) ρ' else .no := (rfl)
@[simp] theorem x_emL {a : List D} : emL el a ρ = (eF el ρ).nox.bind fun d ρ1 => if a.length < sizeLine then .ok (a ++ [d]) ρ1 else .no := (rfl)
@[simp] theorem x_emSI {a : List Int} : emSI el a ρ = (eF el ρ).nox.bind fun d ρ1 => match d with
  | .int i => if a.length < 1000 then .ok (addI a i) ρ1 else .no
  | _ => .no := (rfl)
@[simp] theorem x_emSP {a : List (Int × Int)} : emSP el a ρ = (eF el ρ).nox.bind fun d ρ1 => match pairD? d with
  | some p => if a.length + 1 < 64 then .ok (addP a p) ρ1 else .no
  | none => .no := (rfl)
@[simp] theorem x_emDT {a : List (List L2.Key × D)} : emDT f g a ρ = (eF f ρ).nox.bind fun dk ρ1 => (eF g ρ1).nox.bind fun dv ρ2 => match tkeyD dk with
  | some k => if a.length < sizeLine then .ok (putG a k dv) ρ2 else .no
  | none => .no := (rfl)
@[simp] theorem x_tgU1 : tgU n gs (.tup ds) ρ = if ds.length = n then gs ds ρ else none := (rfl)
@[simp] theorem x_tgU2 : tgU n gs (.lst ds) ρ = if ds.length = n then gs ds ρ else none := (rfl)
@[simp] theorem x_tgT1 : tgT n gs (.tup ds) ρ = if ds.length = n then gs ds ρ else none := (rfl)
@[simp] theorem x_tgC1 : tgCons tg gs (d :: ds) ρ = (match tg d ρ with | some ρ1 => gs ds ρ1 | none => none) := (rfl)
@[simp] theorem x_tgC0 : tgNil [] ρ = some ρ := (rfl)
@[simp] theorem x_pairD {p : Int × Int} : pairD? (.tup [.int p.1, .int p.2]) = some p := (rfl)
@[simp] theorem x_pairD' {i j : Int} : pairD? (.tup [.int i, .int j]) = some (i, j) := (rfl)
@[simp] theorem x_tkey {i j : Int} : tkeyD (.tup [.int i, .int j]) = some (kPair (i, j)) := (rfl)
@[simp] theorem x_inT {x : D} {kvs : List (List L2.Key × D)} : inA x (.dT kvs) = (tkeyD x).map fun k => .fz (.bl (getG kvs k).isSome) := by
  simp only [inA, orO, inD, din, Option.map_none, inDD, dctHas, Option.map_map]; rfl
theorem x_inO {x y : D} {b : Bool} (h : din x y = some b) : inA x y = some (.fz (.bl b)) := by simp only [inA, orO, inD, h, Option.map_some]
theorem x_ninO {x y : D} {b : Bool} (h : din x y = some b) : ninA x y = some (.fz (.bl (!b))) := by simp only [ninA, orO, ninD, h, Option.map_some]
@[simp] theorem x_putT {kvs : List (List L2.Key × D)} {i j : Int} : putO (.dT kvs) (.tup [.int i, .int j]) d = if kvs.length < sizeLine then some (.dT (putG kvs (kPair (i, j)) d)) else none := (rfl)
@[simp] theorem x_sRaise0 {c : Str} : sRaise0 c ρ = .ex c [] ρ := (rfl)
@[simp] theorem x_eNewK : eNewK ρ = .ok (.fr (.dK [])) ρ := (rfl)
@[simp] theorem x_eDic1 {k : L2.Key} : eDic1 k d ρ = .ok (.fr (.dK [(k, d)])) ρ := (rfl)
@[simp] theorem x_sPar2 {i j : Nat} : sPar2 i j f g ρ = (f ρ).sbind fun ra ρ1 => (g ρ1).sbind fun rb ρ2 => match ra, rb with
  | .fr oa, .fr ob => .nx ((ρ2.set i (some (.ow false oa))).set j (some (.ow false ob)))
  | _, _ => .no := (rfl)
@[simp] theorem x_sFor {b : SSem} : sFor f tg b ρ = (f ρ).sbind fun r ρ1 => match rd ρ1 r with
  | some d => (match itemsD d with
    | some ds => sForB tg b r ds ρ1
    | none => .no)
  | none => .no := (rfl)
@[simp] theorem x_sForR {rg : List D → Option (Int × Int)} {args : List ESem} {b : SSem} : sForR rg args tg b ρ = (eL args ρ).sbind fun ds ρ1 => match rg ds with
  | some (i, j) => if smallR i j = true then forL tg b (rangeD i j) ρ1 else .no
  | none => .no := (rfl)
@[simp] theorem x_forB0 {b : SSem} : sForB tg b (.fz d) ds ρ = forL tg b ds ρ := (rfl)
@[simp] theorem x_forB1 {b : SSem} {o : OB} : sForB tg b (.fr o) ds ρ = forL tg b ds ρ := (rfl)
@[simp] theorem x_isA0 : isA d .non = some (.fz (.bl d.isNon)) := (rfl)
@[simp] theorem x_isA1 : isntA d .non = some (.fz (.bl (!d.isNon))) := (rfl)
@[simp] theorem x_isA2 {a b : Bool} : isA (.bl a) (.bl b) = some (.fz (.bl (decide (a = b)))) := (rfl)
@[simp] theorem x_isA3 {a b : Bool} : isntA (.bl a) (.bl b) = some (.fz (.bl (!decide (a = b)))) := (rfl)
end
/-- a loop that gathers -/
theorem loop_inv {β : Type} {tg : D → Env → Option Env} {tt : CSem} {inn : β → Env → Out β} (I : List D → β → Env → Prop) (st : ∀ x r acc ρ, I (x :: r) acc ρ → ∃ ρ0 k ρ1, tg x ρ = some ρ0 ∧ tt ρ0 = .ok k ρ1 ∧ (k = true → ∃ acc' ρ2, inn acc ρ1 = .ok acc' ρ2 ∧ I r acc' ρ2) ∧ (k = false → I r acc ρ1)) :
    ∀ (ds : List D) (acc : β) (ρ : Env), I ds acc ρ → ∃ acc' ρ', loopF tg tt inn ds acc ρ = .ok acc' ρ' ∧ I [] acc' ρ'
  | [], acc, ρ, h => ⟨acc, ρ, rfl, h⟩
  | x :: r, acc, ρ, h => by
    obtain ⟨ρ0, k, ρ1, e1, e2, h1, h2⟩ := st x r acc ρ h
    cases k with
    | true =>
      obtain ⟨acc', ρ2, e3, h3⟩ := h1 rfl
      obtain ⟨a, ρ', e4, h4⟩ := loop_inv I st r acc' ρ2 h3
      exact ⟨a, ρ', by simp only [loopF, e1, e2, x_nox, x_bind_ok, if_true, e3, e4], h4⟩
    | false =>
      obtain ⟨a, ρ', e4, h4⟩ := loop_inv I st r acc ρ1 (h2 rfl)
      exact ⟨a, ρ', by simp only [loopF, e1, e2, x_nox, x_bind_ok, Bool.false_eq_true, if_false, e4], h4⟩
end DL
end
noncomputable section
set_option maxHeartbeats 4000000
/-! K01b: closure_of, as lists of pairs. -/
namespace K01
open PySem PySem.Spec L2 DL

def rowD (r : Bool × (Int × Int)) : D := if r.1 then .lst [.int r.2.1, .int r.2.2] else .tup [.int r.2.1, .int r.2.2]
def tb (ks : List (Int × Int)) : List (List L2.Key × D) := ks.map fun p => (kPair p, .bl true)
theorem kPair_inj {p q : Int × Int} : kPair p = kPair q ↔ p = q := by
  constructor
  · intro h
    simp only [kPair, List.cons.injEq, Sum.inl.injEq] at h
    exact Prod.ext h.1 h.2.1
  · intro h; rw [h]
theorem tb_any (ks : List (Int × Int)) (p : Int × Int) : ((tb ks).any fun q => decide (q.1 = kPair p)) = decide (p ∈ ks) := by
  induction ks with
  | nil => rfl
  | cons k ks ih =>
    have ih' : ((tb ks).any fun q => decide (q.1 = kPair p)) = decide (p ∈ ks) := ih
    simp only [tb, List.map_cons, List.any_cons] at ih' ⊢
    rw [ih', Bool.eq_iff_iff]
    simp only [Bool.or_eq_true, decide_eq_true_eq, kPair_inj, List.mem_cons]
    constructor
    · rintro (h | h)
      · exact .inl h.symm
      · exact .inr h
    · rintro (h | h)
      · exact .inl h.symm
      · exact .inr h
theorem has_tb (ks : List (Int × Int)) (p : Int × Int) : (getG (tb ks) (kPair p)).isSome = decide (p ∈ ks) := by
  rw [← tb_any]
  unfold getG
  rw [Option.isSome_map, List.isSome_find?]
theorem put_tb (ks : List (Int × Int)) (p : Int × Int) : putG (tb ks) (kPair p) (.bl true) = tb (addP ks p) := by
  unfold putG addP
  rw [tb_any]
  by_cases h : p ∈ ks
  · rw [if_pos (by simpa using h), if_pos h, tb, List.map_map]
    refine List.map_congr_left fun q _ => ?_
    show (if kPair q = kPair p then (kPair q, D.bl true) else (kPair q, D.bl true)) = _
    rw [ite_self]
  · rw [if_neg (by simpa using h), if_neg h]
    simp [tb]
@[simp] theorem len_tb (ks : List (Int × Int)) : (tb ks).length = ks.length := by simp [tb]
theorem pairs_tb : ∀ ks : List (Int × Int), pairsK? (tb ks) = some ks
  | [] => rfl
  | k :: ks => by
    have := pairs_tb ks
    simp only [tb, List.map_cons, pairsK?, kPair, pairK?] at this ⊢
    rw [this]
theorem addP_len (ks : List (Int × Int)) (p : Int × Int) : (addP ks p).length ≤ ks.length + 1 := by
  unfold addP; split <;> simp
theorem dc_loop : ∀ (rs : List (Bool × (Int × Int))) (ks : List (Int × Int)) (s x5 x6 : Option SV), ks.length + rs.length ≤ 10000 → ∃ y5 y6, loopF (tgU 2 (tgCons (tgN 5) (tgCons (tgN 6) tgNil))) cYes (emDT (eTup [eN 5, eN 6]) (eC (.bl true))) (rs.map rowD) (tb ks) [s, none, none, none, none, x5, x6, none, none, none] = .ok (tb (rs.foldl (fun a r => addP a r.2) ks)) [s, none, none, none, none, y5, y6, none, none, none]
  | [], ks, s, x5, x6, _ => ⟨x5, x6, rfl⟩
  | (b, p) :: rs, ks, s, x5, x6, h => by
    have h1 := addP_len ks p
    obtain ⟨y5, y6, e⟩ := dc_loop rs (addP ks p) s (some (.fz (.int p.1))) (some (.fz (.int p.2))) (by simp at h; omega)
    refine ⟨y5, y6, ?_⟩
    have hz : ks.length < sizeLine := szk' (by simp at h; omega)
    have e2 := put_tb ks p
    have e3 : putG (tb ks) (kPair (p.1, p.2)) (.bl true) = tb (addP ks p) := e2
    cases b <;> simp [loopF, rowD, hz, e3, e]
theorem addI_len (acc : List Int) (n : Int) : (addI acc n).length ≤ acc.length + 1 := by unfold addI; split <;> simp
theorem in2_loop : ∀ (ns acc : List Int) (s l x7 x8 : Option SV), acc.length + ns.length ≤ 900 → ∃ y8, loopF (tgN 8) cYes (emSI (eN 8)) (ns.map .int) acc [s, l, none, none, none, none, none, x7, x8, none] = .ok (ns.foldl addI acc) [s, l, none, none, none, none, none, x7, y8, none]
  | [], acc, s, l, x7, x8, _ => ⟨x8, rfl⟩
  | n :: ns, acc, s, l, x7, x8, h => by
    have h1 := addI_len acc n
    obtain ⟨y8, e⟩ := in2_loop ns (addI acc n) s l x7 (some (.fz (.int n))) (by simp at h; omega)
    refine ⟨y8, ?_⟩
    have hz : acc.length < 1000 := by simp at h; omega
    simp [loopF, hz, e]
theorem fold_addI_len (ns acc : List Int) : (ns.foldl addI acc).length ≤ acc.length + ns.length := by
  induction ns generalizing acc with
  | nil => simp
  | cons n ns ih => have := ih (addI acc n); have := addI_len acc n; simp; omega
theorem loop_cons {β : Type} {tg : D → DL.Env → Option DL.Env} {tt : CSem} {inn : β → DL.Env → Out β} {x : D} {r : List D} {acc : β} {ρ : DL.Env} : loopF tg tt inn (x :: r) acc ρ = match tg x ρ with
    | some ρ0 => (tt ρ0).nox.bind fun k ρ1 => if k = true then (inn acc ρ1).nox.bind fun acc' ρ2 => loopF tg tt inn r acc' ρ2 else loopF tg tt inn r acc ρ1
    | none => .no := rfl
def addR (acc : List Int) (r : Bool × (Int × Int)) : List Int := addI (addI acc r.2.1) r.2.2
theorem in1_loop : ∀ (rs : List (Bool × (Int × Int))) (acc : List Int) (s l x7 x8 : Option SV), acc.length + 2 * rs.length ≤ 800 → ∃ y7 y8, loopF (tgN 7) cYes (clF [⟨srcD (eN 7), tgN 8, cYes⟩] (emSI (eN 8))) (rs.map rowD) acc [s, l, none, none, none, none, none, x7, x8, none] = .ok (rs.foldl addR acc) [s, l, none, none, none, none, none, y7, y8, none]
  | [], acc, s, l, x7, x8, _ => ⟨x7, x8, rfl⟩
  | (b, p) :: rs, acc, s, l, x7, x8, h => by
    have h1 := addI_len acc p.1
    have h2 := addI_len (addI acc p.1) p.2
    obtain ⟨z8, e1⟩ := in2_loop [p.1, p.2] acc s l (some (.fz (rowD (b, p)))) x8 (by simp at h ⊢; omega)
    obtain ⟨y7, y8, e⟩ := in1_loop rs (addR acc (b, p)) s l (some (.fz (rowD (b, p)))) z8 (by simp [addR] at h ⊢; omega)
    refine ⟨y7, y8, ?_⟩
    simp only [List.map_cons, List.map_nil, List.foldl_cons, List.foldl_nil] at e1
    rw [List.map_cons, loop_cons]
    cases b <;> simp [rowD] at e1 e ⊢ <;> simp [e1, addR] at e ⊢ <;> exact e
/-! ### the three loops -/
def stepL (f m : Int) (ks : List (Int × Int)) (l : Int) : List (Int × Int) := if (m, l) ∈ ks then addP ks (f, l) else ks
def stepF (m : Int) (ns : List Int) (ks : List (Int × Int)) (f : Int) : List (Int × Int) := if (f, m) ∈ ks then ns.foldl (stepL f m) ks else ks
def stepM (ns : List Int) (ks : List (Int × Int)) (m : Int) : List (Int × Int) := ns.foldl (stepF m ns) ks
theorem stepL_len (f m : Int) (ks : List (Int × Int)) (l : Int) : (stepL f m ks l).length ≤ ks.length + 1 := by
  unfold stepL; split
  · exact addP_len _ _
  · omega
theorem foldL_len (f m : Int) : ∀ (ns : List Int) (ks : List (Int × Int)), (ns.foldl (stepL f m) ks).length ≤ ks.length + ns.length
  | [], ks => by simp
  | l :: ns, ks => by have := foldL_len f m ns (stepL f m ks l); have := stepL_len f m ks l; simp; omega
theorem stepF_len (m : Int) (ns : List Int) (ks : List (Int × Int)) (f : Int) : (stepF m ns ks f).length ≤ ks.length + ns.length := by
  unfold stepF; split
  · exact foldL_len _ _ _ _
  · omega
theorem foldF_len (m : Int) (N : List Int) : ∀ (ns : List Int) (ks : List (Int × Int)), (ns.foldl (stepF m N) ks).length ≤ ks.length + ns.length * N.length
  | [], ks => by simp
  | l :: ns, ks => by
    have h1 := foldF_len m N ns (stepF m N ks l)
    have h2 := stepF_len m N ks l
    simp only [List.foldl_cons, List.length_cons, Nat.add_mul, Nat.one_mul]
    omega
def bodL : SSem := sIf (cB (eOp inA (eTup [(eN 3), (eN 9)]) (eN 1))) (sIA 1 (eTup [(eN 4), (eN 9)]) (eC (.bl true))) sN
def bodF : SSem := sIf (cB (eOp inA (eTup [(eN 4), (eN 3)]) (eN 1))) (sFor (eN 2) (tgN 9) bodL) sN
def bodM : SSem := sFor (eN 2) (tgN 4) bodF
theorem lp_L (s x2 : Option SV) (m f : Int) : ∀ (ns : List Int) (ks : List (Int × Int)) (x9 : Option SV), ks.length + ns.length ≤ 1000000 → ∃ y9, forL (tgN 9) bodL (ns.map .int) [s, some (.ow false (.dT (tb ks))), x2, some (.fz (.int m)), some (.fz (.int f)), none, none, none, none, x9] = .nx [s, some (.ow false (.dT (tb (ns.foldl (stepL f m) ks)))), x2, some (.fz (.int m)), some (.fz (.int f)), none, none, none, none, y9]
  | [], ks, x9, _ => ⟨x9, rfl⟩
  | l :: ns, ks, x9, h => by
    have h1 := stepL_len f m ks l
    obtain ⟨y9, e⟩ := lp_L s x2 m f ns (stepL f m ks l) (some (.fz (.int l))) (by simp at h; omega)
    refine ⟨y9, ?_⟩
    have hz : ks.length < sizeLine := szk' (by simp at h; omega)
    by_cases c : (m, l) ∈ ks
    · have e2 : stepL f m ks l = addP ks (f, l) := by rw [stepL, if_pos c]
      rw [e2] at e
      simp [forL, bodL, has_tb, c, hz, put_tb, e2]
      exact e
    · have e2 : stepL f m ks l = ks := by rw [stepL, if_neg c]
      rw [e2] at e
      simp [forL, bodL, has_tb, c, e2]
      exact e
@[simp] theorem x_unl {k : Nat} {w : Bool} {ρ : DL.Env} : unl k w ρ = match ρ[k]? with
    | some (some (.lk o)) => ρ.set k (some (.ow w o))
    | _ => ρ := (rfl)
@[simp] theorem x_forB2 {k : Nat} {ds : List D} {tg : D → DL.Env → Option DL.Env} {b : SSem} {ρ : DL.Env} : sForB tg b (.sl k) ds ρ = match ρ[k]? with
    | some (some (.ow w o)) => (forL tg b ds (ρ.set k (some (.lk o)))).onE (unl k w)
    | _ => forL tg b ds ρ := (rfl)
@[simp] theorem x_onE_nx {ρ : DL.Env} {f : DL.Env → DL.Env} : (SOut.nx ρ).onE f = .nx (f ρ) := (rfl)
theorem lp_F (s : Option SV) (N : List Int) (m : Int) : ∀ (ns : List Int) (ks : List (Int × Int)) (x4 x9 : Option SV), ks.length + (ns.length + 1) * (N.length + 1) ≤ 1000000 → ∃ y4 y9, forL (tgN 4) bodF (ns.map .int) [s, some (.ow false (.dT (tb ks))), some (.lk (.lst (N.map .int))), some (.fz (.int m)), x4, none, none, none, none, x9] = .nx [s, some (.ow false (.dT (tb (ns.foldl (stepF m N) ks)))), some (.lk (.lst (N.map .int))), some (.fz (.int m)), y4, none, none, none, none, y9]
  | [], ks, x4, x9, _ => ⟨x4, x9, rfl⟩
  | f :: ns, ks, x4, x9, h => by
    have h1 := stepF_len m N ks f
    have h2 : ks.length + N.length ≤ 1000000 := by
      have : N.length ≤ (ns.length + 1 + 1) * (N.length + 1) := Nat.le_trans (Nat.le_succ _) (Nat.le_mul_of_pos_left _ (Nat.succ_pos _))
      simp at h; omega
    have h3 : (stepF m N ks f).length + (ns.length + 1) * (N.length + 1) ≤ 1000000 := by
      simp only [List.length_cons] at h
      have : (ns.length + 1 + 1) * (N.length + 1) = (ns.length + 1) * (N.length + 1) + (N.length + 1) := Nat.succ_mul _ _
      omega
    obtain ⟨z9, e1⟩ := lp_L s (some (.lk (.lst (N.map .int)))) m f N ks x9 h2
    by_cases c : (f, m) ∈ ks
    · have e2 : stepF m N ks f = N.foldl (stepL f m) ks := by rw [stepF, if_pos c]
      obtain ⟨y4, y9, e⟩ := lp_F s N m ns (stepF m N ks f) (some (.fz (.int f))) z9 h3
      refine ⟨y4, y9, ?_⟩
      rw [e2] at e
      simp [forL, bodF, has_tb, c, e1, e2]
      exact e
    · have e2 : stepF m N ks f = ks := by rw [stepF, if_neg c]
      obtain ⟨y4, y9, e⟩ := lp_F s N m ns (stepF m N ks f) (some (.fz (.int f))) x9 h3
      refine ⟨y4, y9, ?_⟩
      rw [e2] at e
      simp [forL, bodF, has_tb, c, e2]
      exact e
theorem lp_M (s : Option SV) (N : List Int) (hN : N.length ≤ 70) : ∀ (ns : List Int) (ks : List (Int × Int)) (x3 x4 x9 : Option SV), ks.length + ns.length * 4900 ≤ 900000 → ∃ y3 y4 y9, forL (tgN 3) bodM (ns.map .int) [s, some (.ow false (.dT (tb ks))), some (.lk (.lst (N.map .int))), x3, x4, none, none, none, none, x9] = .nx [s, some (.ow false (.dT (tb (ns.foldl (stepM N) ks)))), some (.lk (.lst (N.map .int))), y3, y4, none, none, none, none, y9]
  | [], ks, x3, x4, x9, _ => ⟨x3, x4, x9, rfl⟩
  | m :: ns, ks, x3, x4, x9, h => by
    have h1 := foldF_len m N N ks
    have h4 : N.length * N.length ≤ 70 * 70 := Nat.mul_le_mul hN hN
    have h5 : (N.length + 1) * (N.length + 1) ≤ 71 * 71 := Nat.mul_le_mul (by omega) (by omega)
    obtain ⟨z4, z9, e1⟩ := lp_F s N m N ks x4 x9 (by simp at h; omega)
    obtain ⟨y3, y4, y9, e⟩ := lp_M s N hN ns (stepM N ks m) (some (.fz (.int m))) z4 z9 (by simp [stepM] at h ⊢; omega)
    refine ⟨y3, y4, y9, ?_⟩
    simp [forL, bodM, e1]
    exact e
/-- what closure_of computes -/
def rolesOf (rs : List (Bool × (Int × Int))) : List Int := sortI (rs.foldl addR [])
def closed (rs : List (Bool × (Int × Int))) : List (Int × Int) := (rolesOf rs).foldl (stepM (rolesOf rs)) (rs.foldl (fun a r => addP a r.2) [])
theorem foldP_len : ∀ (rs : List (Bool × (Int × Int))) (ks : List (Int × Int)), (rs.foldl (fun a r => addP a r.2) ks).length ≤ ks.length + rs.length
  | [], ks => by simp
  | r :: rs, ks => by have := foldP_len rs (addP ks r.2); have := addP_len ks r.2; simp; omega
@[simp] theorem srtA_tb (ks : List (Int × Int)) : srtA (.dT (tb ks)) = some (.fr (.lst ((sortP ks).map pairD))) := by simp [srtA, srtD, srtDT, pairs_tb]
/-- what rows are handed in -/
inductive Src : SV → List D → Prop
  | lst (ds : List D) : Src (.fz (.lst ds)) ds
  | tup (ds : List D) : Src (.fz (.tup ds)) ds
  | own (ds : List D) : Src (.ow true (.lst ds)) ds
theorem closure_s {s : SV} {rs : List (Bool × (Int × Int))} (hs : Src s (rs.map rowD)) (h1 : rs.length ≤ 200) (h2 : (rs.foldl addR []).length ≤ 60) : Gv (m_closure_of [s]) fun r ρ => r = .fz (.tup ((sortP (closed rs)).map pairD)) ∧ ∃ ρ', ρ = some s :: ρ' := by
  have l1 := foldP_len rs []
  have lr : (rolesOf rs).length ≤ 60 := by rw [rolesOf, (sortI_perm _).length_eq]; exact h2
  have h64 : (rs.foldl addR []).length < 64 := by omega
  refine run_w ?_
  simp only [g_closure_of]
  have go : ∀ sl : Option SV, ∃ y5 y6 y7 y8, (loopF (tgU 2 (tgCons (tgN 5) (tgCons (tgN 6) tgNil))) cYes (emDT (eTup [eN 5, eN 6]) (eC (.bl true))) (rs.map rowD) [] [sl, none, none, none, none, none, none, none, none, none] = .ok (tb (rs.foldl (fun a r => addP a r.2) [])) [sl, none, none, none, none, y5, y6, none, none, none]) ∧
      (loopF (tgN 7) cYes (clF [⟨srcD (eN 7), tgN 8, cYes⟩] (emSI (eN 8))) (rs.map rowD) [] [sl, some (.ow false (.dT (tb (rs.foldl (fun a r => addP a r.2) [])))), none, none, none, none, none, none, none, none] = .ok (rs.foldl addR []) [sl, some (.ow false (.dT (tb (rs.foldl (fun a r => addP a r.2) [])))), none, none, none, none, none, y7, y8, none]) := fun sl => by
    obtain ⟨y5, y6, e1⟩ := dc_loop rs [] sl none none (by simp; omega)
    obtain ⟨y7, y8, e2⟩ := in1_loop rs [] sl (some (.ow false (.dT (tb (rs.foldl (fun a r => addP a r.2) []))))) none none (by simp; omega)
    exact ⟨y5, y6, y7, y8, e1, e2⟩
  have fin : ∀ s' : Option SV, ∃ y3 y4 y9, forL (tgN 3) bodM ((rolesOf rs).map .int) [s', some (.ow false (.dT (tb (rs.foldl (fun a r => addP a r.2) [])))), some (.lk (.lst ((rolesOf rs).map .int))), none, none, none, none, none, none, none] = .nx [s', some (.ow false (.dT (tb (closed rs)))), some (.lk (.lst ((rolesOf rs).map .int))), y3, y4, none, none, none, none, y9] := fun s' =>
    lp_M s' (rolesOf rs) (by omega) (rolesOf rs) _ none none none (by simp at l1; omega)
  simp only [bodM, bodF, bodL, rolesOf] at fin
  generalize rs.map rowD = ds at hs go
  cases hs with
  | lst =>
    obtain ⟨y5, y6, y7, y8, e1, e2⟩ := go (some (.fz (.lst ds)))
    obtain ⟨y3, y4, y9, e3⟩ := fin (some (.fz (.lst ds)))
    simp [envOf, e1, e2, e3, h64]
  | tup =>
    obtain ⟨y5, y6, y7, y8, e1, e2⟩ := go (some (.fz (.tup ds)))
    obtain ⟨y3, y4, y9, e3⟩ := fin (some (.fz (.tup ds)))
    simp [envOf, e1, e2, e3, h64]
  | own =>
    obtain ⟨y5, y6, y7, y8, e1, e2⟩ := go (some (.lk (.lst ds)))
    obtain ⟨y3, y4, y9, e3⟩ := fin (some (.ow true (.lst ds)))
    simp [envOf, e1, e2, e3, h64]
end K01
end
section
set_option maxHeartbeats 4000000
/-! K01c: what closure_of computes is the closure. -/
namespace K01
open DL

/-- led by one couple or more -/
inductive Rch (E : Int × Int → Prop) : Int → Int → Prop
  | one {a b : Int} : E (a, b) → Rch E a b
  | cons {a b c : Int} : E (a, b) → Rch E b c → Rch E a c
theorem Rch.trans {E : Int × Int → Prop} {a b c : Int} (h : Rch E a b) (k : Rch E b c) : Rch E a c := by
  induction h with
  | one e => exact .cons e k
  | cons e _ ih => exact .cons e (ih k)
theorem Rch.snoc {E : Int × Int → Prop} {a b c : Int} (h : Rch E a b) (e : E (b, c)) : Rch E a c := h.trans (.one e)
section
variable {f m l : Int} {ns N M : List Int} {ks : List (Int × Int)} {q : Int × Int}
theorem mem_stepL : q ∈ stepL f m ks l ↔ q ∈ ks ∨ ((m, l) ∈ ks ∧ q = (f, l)) := by
  unfold stepL
  by_cases h : (m, l) ∈ ks
  · rw [if_pos h, mem_addP]
    exact ⟨fun z => z.imp id fun e => ⟨h, e⟩, fun z => z.imp id fun ⟨_, e⟩ => e⟩
  · rw [if_neg h]
    exact ⟨.inl, fun z => z.elim id fun ⟨e, _⟩ => absurd e h⟩
theorem row_stepL {x : Int} : (m, x) ∈ stepL f m ks l ↔ (m, x) ∈ ks := by
  rw [mem_stepL]
  refine ⟨fun z => z.elim id fun ⟨h, e⟩ => ?_, .inl⟩
  simp only [Prod.mk.injEq] at e
  rw [e.2]; exact h
theorem memL : ∀ (ns : List Int) (ks : List (Int × Int)), q ∈ ns.foldl (stepL f m) ks ↔ q ∈ ks ∨ ∃ l ∈ ns, (m, l) ∈ ks ∧ q = (f, l)
  | [], ks => by simp
  | l :: ns, ks => by
    rw [List.foldl_cons, memL ns, mem_stepL]
    simp only [row_stepL, List.mem_cons]
    constructor
    · rintro ((h | ⟨h1, h2⟩) | ⟨l', h1, h2, h3⟩)
      · exact .inl h
      · exact .inr ⟨l, .inl rfl, h1, h2⟩
      · exact .inr ⟨l', .inr h1, h2, h3⟩
    · rintro (h | ⟨l', rfl | h1, h2, h3⟩)
      · exact .inl (.inl h)
      · exact .inl (.inr ⟨h2, h3⟩)
      · exact .inr ⟨l', h1, h2, h3⟩
theorem mem_stepF : q ∈ stepF m N ks f ↔ q ∈ ks ∨ ((f, m) ∈ ks ∧ ∃ l ∈ N, (m, l) ∈ ks ∧ q = (f, l)) := by
  unfold stepF
  by_cases h : (f, m) ∈ ks
  · rw [if_pos h, memL]
    exact ⟨fun z => z.imp id fun e => ⟨h, e⟩, fun z => z.imp id fun ⟨_, e⟩ => e⟩
  · rw [if_neg h]
    exact ⟨.inl, fun z => z.elim id fun ⟨e, _⟩ => absurd e h⟩
theorem row_stepF {x : Int} : (m, x) ∈ stepF m N ks f ↔ (m, x) ∈ ks := by
  rw [mem_stepF]
  refine ⟨fun z => z.elim id fun ⟨_, l, _, h, e⟩ => ?_, .inl⟩
  simp only [Prod.mk.injEq] at e
  rw [e.2]; exact h
theorem col_stepF {x : Int} : (x, m) ∈ stepF m N ks f ↔ (x, m) ∈ ks := by
  rw [mem_stepF]
  refine ⟨fun z => z.elim id fun ⟨h, l, _, _, e⟩ => ?_, .inl⟩
  simp only [Prod.mk.injEq] at e
  rw [e.1]; exact h
theorem memF : ∀ (ns : List Int) (ks : List (Int × Int)), q ∈ ns.foldl (stepF m N) ks ↔ q ∈ ks ∨ ∃ f ∈ ns, (f, m) ∈ ks ∧ ∃ l ∈ N, (m, l) ∈ ks ∧ q = (f, l)
  | [], ks => by simp
  | f :: ns, ks => by
    rw [List.foldl_cons, memF ns, mem_stepF]
    simp only [row_stepF, col_stepF, List.mem_cons]
    constructor
    · rintro ((h | ⟨h1, h2⟩) | ⟨f', h1, h2, h3⟩)
      · exact .inl h
      · exact .inr ⟨f, .inl rfl, h1, h2⟩
      · exact .inr ⟨f', .inr h1, h2, h3⟩
    · rintro (h | ⟨f', rfl | h1, h2, h3⟩)
      · exact .inl (.inl h)
      · exact .inl (.inr ⟨h2, h3⟩)
      · exact .inr ⟨f', h1, h2, h3⟩
/-- all of these stand in N -/
def Vin (N : List Int) (ks : List (Int × Int)) : Prop := ∀ p ∈ ks, p.1 ∈ N ∧ p.2 ∈ N
theorem memM (v : Vin N ks) : q ∈ stepM N ks m ↔ q ∈ ks ∨ ((q.1, m) ∈ ks ∧ (m, q.2) ∈ ks) := by
  unfold stepM
  rw [memF]
  constructor
  · rintro (h | ⟨f, h1, h2, l, h3, h4, rfl⟩)
    · exact .inl h
    · exact .inr ⟨h2, h4⟩
  · rintro (h | ⟨h1, h2⟩)
    · exact .inl h
    · exact .inr ⟨q.1, (v _ h1).1, h1, q.2, (v _ h2).2, h2, rfl⟩
theorem vin_step (v : Vin N ks) : Vin N (stepM N ks m) := fun p hp => by
  rcases (memM v).mp hp with h | ⟨h1, h2⟩
  · exact v p h
  · exact ⟨(v _ h1).1, (v _ h2).2⟩
/-- closed over these -/
def Clo (M : List Int) (ks : List (Int × Int)) : Prop := ∀ m ∈ M, ∀ a b, (a, m) ∈ ks → (m, b) ∈ ks → (a, b) ∈ ks
theorem clo_step (v : Vin N ks) (c : Clo M ks) : Clo (m :: M) (stepM N ks m) := by
  intro m' hm a b h1 h2
  rw [memM v] at h1 h2 ⊢
  dsimp only at h1 h2 ⊢
  rcases List.mem_cons.mp hm with rfl | hm
  · rcases h1 with h1 | ⟨h1, h1'⟩ <;> rcases h2 with h2 | ⟨h2, h2'⟩
    · exact .inr ⟨h1, h2⟩
    · exact .inr ⟨h1, h2'⟩
    · exact .inr ⟨h1, h2⟩
    · exact .inr ⟨h1, h2'⟩
  · rcases h1 with h1 | ⟨h1, h1'⟩ <;> rcases h2 with h2 | ⟨h2, h2'⟩
    · exact .inl (c m' hm a b h1 h2)
    · exact .inr ⟨c m' hm a m h1 h2, h2'⟩
    · exact .inr ⟨h1, c m' hm m b h1' h2⟩
    · exact .inr ⟨h1, h2'⟩
theorem fold_clo : ∀ (ns M : List Int) (ks : List (Int × Int)), Vin N ks → Clo M ks → Vin N (ns.foldl (stepM N) ks) ∧ Clo ns (ns.foldl (stepM N) ks) ∧ Clo M (ns.foldl (stepM N) ks) ∧ ∀ p ∈ ks, p ∈ ns.foldl (stepM N) ks
  | [], M, ks, v, c => ⟨v, (fun _ h => by cases h), c, fun _ h => h⟩
  | m :: ns, M, ks, v, c => by
    obtain ⟨h1, h2, h3, h4⟩ := fold_clo ns (m :: M) (stepM N ks m) (vin_step v) (clo_step v c)
    refine ⟨h1, fun x hx => ?_, fun x hx => h3 x (List.mem_cons_of_mem _ hx), fun p hp => h4 p ((memM v).mpr (.inl hp))⟩
    rcases List.mem_cons.mp hx with rfl | hx
    · exact h3 x List.mem_cons_self
    · exact h2 x hx
theorem fold_sound {E : Int × Int → Prop} : ∀ (ns : List Int) (ks : List (Int × Int)), Vin N ks → (∀ p ∈ ks, Rch E p.1 p.2) → ∀ p ∈ ns.foldl (stepM N) ks, Rch E p.1 p.2
  | [], ks, v, h => h
  | m :: ns, ks, v, h => fold_sound ns (stepM N ks m) (vin_step v) fun p hp => by
    rcases (memM v).mp hp with z | ⟨z1, z2⟩
    · exact h p z
    · exact (h _ z1).trans (h _ z2)
end
theorem mem_foldP : ∀ (rs : List (Bool × (Int × Int))) (ks : List (Int × Int)) (q : Int × Int), q ∈ rs.foldl (fun a r => addP a r.2) ks ↔ q ∈ ks ∨ q ∈ rs.map (·.2)
  | [], ks, q => by simp
  | r :: rs, ks, q => by
    rw [List.foldl_cons, mem_foldP rs, mem_addP, List.map_cons, List.mem_cons, or_assoc]
theorem mem_addI {acc : List Int} {i x : Int} : x ∈ addI acc i ↔ x ∈ acc ∨ x = i := by
  unfold addI
  split
  · rename_i h
    exact ⟨.inl, fun z => z.elim id fun e => e ▸ h⟩
  · simp
theorem mem_foldR : ∀ (rs : List (Bool × (Int × Int))) (acc : List Int) (x : Int), x ∈ rs.foldl addR acc ↔ x ∈ acc ∨ ∃ r ∈ rs, x = r.2.1 ∨ x = r.2.2
  | [], acc, x => by simp
  | r :: rs, acc, x => by
    rw [List.foldl_cons, mem_foldR rs, addR, mem_addI, mem_addI]
    simp only [List.mem_cons, exists_eq_or_imp]
    rw [or_assoc, or_assoc, or_assoc]
theorem mem_roles {rs : List (Bool × (Int × Int))} {x : Int} : x ∈ rolesOf rs ↔ ∃ r ∈ rs, x = r.2.1 ∨ x = r.2.2 := by
  rw [rolesOf, (sortI_perm _).mem_iff, mem_foldR]; simp
theorem mem_closed {rs : List (Bool × (Int × Int))} {a b : Int} : (a, b) ∈ closed rs ↔ Rch (· ∈ rs.map (·.2)) a b := by
  have v : Vin (rolesOf rs) (rs.foldl (fun a r => addP a r.2) []) := fun p hp => by
    rw [mem_foldP] at hp
    rcases hp with hp | hp
    · cases hp
    · obtain ⟨r, hr, rfl⟩ := List.mem_map.mp hp
      exact ⟨mem_roles.mpr ⟨r, hr, .inl rfl⟩, mem_roles.mpr ⟨r, hr, .inr rfl⟩⟩
  obtain ⟨h1, h2, _, h4⟩ := fold_clo (rolesOf rs) [] _ v (fun _ h => by cases h)
  constructor
  · intro h
    exact fold_sound (E := (· ∈ rs.map (·.2))) (rolesOf rs) _ v (fun p hp => by
      rw [mem_foldP] at hp
      rcases hp with hp | hp
      · cases hp
      · exact .one hp) (a, b) h
  · intro h
    have e : ∀ p, p ∈ rs.map (·.2) → p ∈ closed rs := fun p hp => h4 p ((mem_foldP _ _ _).mpr (.inr hp))
    induction h with
    | one z => exact e _ z
    | cons z _ ih =>
      have z' := e _ z
      exact h2 _ (h1 _ z').2 _ _ z' ih
theorem fold_nd {α : Type} {f : List (Int × Int) → α → List (Int × Int)} (h : ∀ ks x, ks.Nodup → (f ks x).Nodup) : ∀ (ns : List α) (ks : List (Int × Int)), ks.Nodup → (ns.foldl f ks).Nodup
  | [], _, k => k
  | x :: ns, ks, k => fold_nd h ns _ (h ks x k)
theorem closed_nd (rs : List (Bool × (Int × Int))) : (closed rs).Nodup := by
  refine fold_nd (fun ks m k => fold_nd (fun ks f k => ?_) _ _ k) _ _ (fold_nd (fun ks r k => addP_nd k) _ _ List.nodup_nil)
  unfold stepF
  split
  · refine fold_nd (fun ks l k => ?_) _ _ k
    unfold stepL
    split
    · exact addP_nd k
    · exact k
  · exact k
end K01
end
noncomputable section
set_option maxHeartbeats 4000000
/-! K01d: has_ring, is_rule, check_rules. -/
namespace K01
open PySem PySem.Spec L2 DL

def goodI (lo hi : Int) : D → Bool
  | .int i => decide (lo ≤ i) && decide (i ≤ hi)
  | _ => false
def isInt : D → Bool
  | .int _ => true
  | _ => false
def pl : D → Bool
  | .ins _ _ => false
  | .scr _ => false
  | .ktp _ => false
  | _ => true
theorem whole_ev (d : D) (lo hi : Int) (h : pl d = true) : m_is_whole [.fz d, .fz (.int lo), .fz (.int hi)] = .ok (.fz (.bl (goodI lo hi d))) [some (.fz d), some (.fz (.int lo)), some (.fz (.int hi))] := by
  cases d with
  | ins => cases h
  | scr => cases h
  | ktp => cases h
  | int i => by_cases h1 : lo ≤ i <;> by_cases h2 : i ≤ hi <;> simp [m_is_whole, runB, g_is_whole, envOf, isiD, tyD, List.lookup, goodI, h1, h2, isD, D.isNon]
  | _ => simp [m_is_whole, runB, g_is_whole, envOf, isiD, tyD, List.lookup, goodI]
/-- the rule at d -/
def okR (many : Int) (p : Int × Int) : Bool := decide (0 ≤ p.1) && decide (p.1 < many) && (decide (0 ≤ p.2) && decide (p.2 < many)) && decide (p.1 ≠ p.2)
def rule? (many : Int) : D → Option (Int × Int)
  | .tup [.int a, .int b] => if okR many (a, b) = true then some (a, b) else none
  | .lst [.int a, .int b] => if okR many (a, b) = true then some (a, b) else none
  | _ => none
def items2 : D → Option (List D)
  | .tup xs => some xs
  | .lst xs => some xs
  | _ => none
def wfR (d : D) : Prop := pl d = true ∧ ∀ xs, items2 d = some xs → ∀ x ∈ xs, pl x = true
theorem goodI_lt {many : Int} {x : D} : goodI 0 (many - 1) x = true ↔ ∃ a, x = .int a ∧ 0 ≤ a ∧ a < many := by
  cases x with
  | int a => simp only [goodI, Bool.and_eq_true, decide_eq_true_eq, D.int.injEq]; exact ⟨fun h => ⟨a, rfl, h.1, by omega⟩, fun ⟨b, e, h1, h2⟩ => by subst e; omega⟩
  | _ => simp [goodI]
theorem rule_two {many : Int} {x y : D} (hx : pl x = true) (hy : pl y = true) (d : D) (hd : d = .tup [x, y] ∨ d = .lst [x, y]) : m_is_rule [.fz (.int many), .fz d] = .ok (.fz (.bl (rule? many d).isSome)) [some (.fz (.int many)), some (.fz d)] := by
  have wx := whole_ev x 0 (many - 1) hx
  have wy := whole_ev y 0 (many - 1) hy
  by_cases gx : goodI 0 (many - 1) x = true
  · by_cases gy : goodI 0 (many - 1) y = true
    · obtain ⟨a, rfl, a0, a1⟩ := goodI_lt.mp gx
      obtain ⟨b, rfl, b0, b1⟩ := goodI_lt.mp gy
      rw [gx] at wx
      rw [gy] at wy
      rcases hd with rfl | rfl <;> by_cases e : a = b <;> simp [m_is_rule, runB, g_is_rule, envOf, isiD, tyD, List.lookup, wx, wy, rule?, okR, a0, a1, b0, b1, e]
    · have gy' : goodI 0 (many - 1) y = false := by simpa using gy
      rw [gx] at wx
      rw [gy'] at wy
      have no : (rule? many d).isSome = false := by
        obtain ⟨a, rfl, a0, a1⟩ := goodI_lt.mp gx
        cases y with
        | int b =>
          have : ¬ (0 ≤ b ∧ b < many) := fun h => gy (goodI_lt.mpr ⟨b, rfl, h.1, h.2⟩)
          have nk : okR many (a, b) = false := by
            simp only [okR, Bool.and_eq_false_iff, decide_eq_false_iff_not]
            by_cases h0 : 0 ≤ b
            · exact .inl (.inr (.inr fun h => this ⟨h0, h⟩))
            · exact .inl (.inr (.inl h0))
          rcases hd with rfl | rfl <;> simp [rule?, nk]
        | _ => rcases hd with rfl | rfl <;> simp [rule?]
      rw [no]
      rcases hd with rfl | rfl <;> simp [m_is_rule, runB, g_is_rule, envOf, isiD, tyD, List.lookup, wx, wy]
  · have gx' : goodI 0 (many - 1) x = false := by simpa using gx
    rw [gx'] at wx
    have no : (rule? many d).isSome = false := by
      cases x with
      | int a =>
        cases y with
        | int b =>
          have : ¬ (0 ≤ a ∧ a < many) := fun h => gx (goodI_lt.mpr ⟨a, rfl, h.1, h.2⟩)
          have nk : okR many (a, b) = false := by
            simp only [okR, Bool.and_eq_false_iff, decide_eq_false_iff_not]
            by_cases h0 : 0 ≤ a
            · exact .inl (.inl (.inr fun h => this ⟨h0, h⟩))
            · exact .inl (.inl (.inl h0))
          rcases hd with rfl | rfl <;> simp [rule?, nk]
        | _ => rcases hd with rfl | rfl <;> simp [rule?]
      | _ => rcases hd with rfl | rfl <;> simp [rule?]
    rw [no]
    rcases hd with rfl | rfl <;> simp [m_is_rule, runB, g_is_rule, envOf, isiD, tyD, List.lookup, wx]
theorem rule_ev (many : Int) (d : D) (h : wfR d) : m_is_rule [.fz (.int many), .fz d] = .ok (.fz (.bl (rule? many d).isSome)) [some (.fz (.int many)), some (.fz d)] := by
  obtain ⟨h1, h2⟩ := h
  cases d with
  | ins => cases h1
  | scr => cases h1
  | ktp => cases h1
  | tup xs =>
    match xs, h2 with
    | [x, y], h2 => exact rule_two (h2 _ rfl x (by simp)) (h2 _ rfl y (by simp)) _ (.inl rfl)
    | [], _ => simp [m_is_rule, runB, g_is_rule, envOf, isiD, tyD, List.lookup, rule?]
    | [x], _ => simp [m_is_rule, runB, g_is_rule, envOf, isiD, tyD, List.lookup, rule?]
    | x :: y :: z :: r, _ =>
      have e : ¬ ((r.length : Int) + 1 + 1 + 1 = 2) := by omega
      simp [m_is_rule, runB, g_is_rule, envOf, isiD, tyD, List.lookup, rule?, e]
  | lst xs =>
    match xs, h2 with
    | [x, y], h2 => exact rule_two (h2 _ rfl x (by simp)) (h2 _ rfl y (by simp)) _ (.inr rfl)
    | [], _ => simp [m_is_rule, runB, g_is_rule, envOf, isiD, tyD, List.lookup, rule?]
    | [x], _ => simp [m_is_rule, runB, g_is_rule, envOf, isiD, tyD, List.lookup, rule?]
    | x :: y :: z :: r, _ =>
      have e : ¬ ((r.length : Int) + 1 + 1 + 1 = 2) := by omega
      simp [m_is_rule, runB, g_is_rule, envOf, isiD, tyD, List.lookup, rule?, e]
  | _ => simp [m_is_rule, runB, g_is_rule, envOf, isiD, tyD, List.lookup, rule?]
/-! ### has_ring -/
def ringP (rs : List (Bool × (Int × Int))) : Bool := (sortP (closed rs)).any fun p => decide (p.1 = p.2)
theorem ring_loop (s : Option SV) : ∀ (qs : List (Int × Int)) (x1 x2 : Option SV), ∃ y1 y2, forL (tgT 2 (tgCons (tgN 1) (tgCons (tgN 2) tgNil))) (sIf (cB (eOp eqD (eN 1) (eN 2))) (sR (eC (.bl true))) sN) (qs.map pairD) [s, x1, x2] = if (qs.any fun p => decide (p.1 = p.2)) = true then .rt (.fz (.bl true)) [s, y1, y2] else .nx [s, y1, y2]
  | [], x1, x2 => ⟨x1, x2, rfl⟩
  | q :: qs, x1, x2 => by
    by_cases c : q.1 = q.2
    · exact ⟨some (.fz (.int q.1)), some (.fz (.int q.2)), by simp [forL, pairD, c]⟩
    · obtain ⟨y1, y2, e⟩ := ring_loop s qs (some (.fz (.int q.1))) (some (.fz (.int q.2)))
      refine ⟨y1, y2, ?_⟩
      rw [List.any_cons, decide_eq_false c, Bool.false_or]
      simp [forL, pairD, c]
      exact e
theorem ring_s {s : SV} {rs : List (Bool × (Int × Int))} (hs : Src s (rs.map rowD)) (h1 : rs.length ≤ 200) (h2 : (rs.foldl addR []).length ≤ 60) : Gv (m_has_ring [s]) fun r ρ => r = .fz (.bl (ringP rs)) ∧ ∃ ρ', ρ = some s :: ρ' := by
  refine run_w ?_
  simp only [g_has_ring]
  have hc := closure_s hs h1 h2
  generalize rs.map rowD = ds at hs
  have key : ∀ {r : RV} {ρ : DL.Env}, (r = .fz (.tup ((sortP (closed rs)).map pairD)) ∧ ∃ ρ', ρ = some s :: ρ') → ∃ ρ', r = .fz (.tup ((sortP (closed rs)).map pairD)) ∧ ρ = some s :: ρ' := fun h => ⟨h.2.choose, h.1, h.2.choose_spec⟩
  cases hs with
  | lst =>
    simp [envOf]
    refine cw hc ?_
    rintro _ _ ⟨rfl, ρ', rfl⟩
    obtain ⟨y1, y2, e⟩ := ring_loop (some (.fz (.lst ds))) (sortP (closed rs)) none none
    change _ = if ringP rs = true then _ else _ at e
    by_cases c : ringP rs = true
    · rw [if_pos c] at e; simp [e, c]
    · rw [if_neg c] at e; simp [e, c]
  | tup =>
    simp [envOf]
    refine cw hc ?_
    rintro _ _ ⟨rfl, ρ', rfl⟩
    obtain ⟨y1, y2, e⟩ := ring_loop (some (.fz (.tup ds))) (sortP (closed rs)) none none
    change _ = if ringP rs = true then _ else _ at e
    by_cases c : ringP rs = true
    · rw [if_pos c] at e; simp [e, c]
    · rw [if_neg c] at e; simp [e, c]
  | own =>
    simp [envOf]
    refine cw hc ?_
    rintro _ _ ⟨rfl, ρ', rfl⟩
    obtain ⟨y1, y2, e⟩ := ring_loop (some (.ow true (.lst ds))) (sortP (closed rs)) none none
    change _ = if ringP rs = true then _ else _ at e
    by_cases c : ringP rs = true
    · rw [if_pos c] at e; simp [e, c]
    · rw [if_neg c] at e; simp [e, c]
end K01
end
noncomputable section
set_option maxHeartbeats 4000000
/-! K01e: check_rules. -/
namespace K01
open PySem PySem.Spec L2 DL

theorem ringP_iff {rs : List (Bool × (Int × Int))} : ringP rs = true ↔ ∃ a, Rch (· ∈ rs.map (·.2)) a a := by
  unfold ringP
  rw [List.any_eq_true]
  constructor
  · rintro ⟨p, hp, e⟩
    have e := of_decide_eq_true e
    refine ⟨p.1, mem_closed.mp ?_⟩
    have : (p.1, p.1) = p := Prod.ext rfl e
    rw [this]
    exact (sortP_perm _).mem_iff.mp hp
  · rintro ⟨a, h⟩
    exact ⟨(a, a), (sortP_perm _).mem_iff.mpr (mem_closed.mpr h), decide_eq_true rfl⟩
theorem Rch.mono {E F : Int × Int → Prop} (h : ∀ p, E p → F p) {a b : Int} (r : Rch E a b) : Rch F a b := by
  induction r with
  | one e => exact .one (h _ e)
  | cons e _ ih => exact .cons (h _ e) ih
theorem ringP_congr {rs rs' : List (Bool × (Int × Int))} (h : ∀ p, p ∈ rs.map (·.2) ↔ p ∈ rs'.map (·.2)) : ringP rs = ringP rs' := by
  rw [Bool.eq_iff_iff, ringP_iff, ringP_iff]
  exact ⟨fun ⟨a, r⟩ => ⟨a, r.mono fun p => (h p).mp⟩, fun ⟨a, r⟩ => ⟨a, r.mono fun p => (h p).mpr⟩⟩
def badX (i : Int) (w : Str) : Out RV := .ex "BadRules" [("what", .str w), ("index", .int i)] []
/-- an error of these values, whatever the slots -/
def isX (o : Out RV) (i : Int) (w : Str) : Prop := ∃ ρ, o = .ex "BadRules" [("what", .str w), ("index", .int i)] ρ
theorem check_no (many : Int) (d : D) (h1 : pl d = true) (h2 : items2 d = none) : isX (m_check_rules [.fz (.int many), .fz d]) 0 "many" := by
  cases d with
  | ins => cases h1
  | scr => cases h1
  | ktp => cases h1
  | tup => cases h2
  | lst => cases h2
  | _ => exact ⟨_, by simp [m_check_rules, runB, g_check_rules, envOf, isiD, tyD, List.lookup, exFs]; rfl⟩
theorem check_many (many : Int) (d : D) (ds : List D) (hd : d = .lst ds ∨ d = .tup ds) (h : 30 < ds.length) : isX (m_check_rules [.fz (.int many), .fz d]) 0 "many" := by
  have e : (30 : Int) < ds.length := by omega
  rcases hd with rfl | rfl <;> exact ⟨_, by simp [m_check_rules, runB, g_check_rules, envOf, isiD, tyD, List.lookup, exFs, e]; rfl⟩
def badB (many : Int) (ds : List D) (i : Nat) : Bool := (rule? many (ds.getD i .non)).isNone
theorem chk_loop (many : Int) (d : D) (ds : List D) (hd : d = .lst ds ∨ d = .tup ds) (hw : ∀ x ∈ ds, wfR x) : ∀ (is : List Nat) (x2 : Option SV), (∀ i ∈ is, i < ds.length) →
    (∀ i, is.find? (badB many ds) = some i → ∃ ρ, forL (tgN 2) (sIf (cNot (cT (eCallD m_is_rule [] [(eN 0), (eOp idxD (eN 1) (eN 2))]))) (sRaise "BadRules" 2 [("index", 0), ("what", 1)] [(eN 2), (eC (.str "rule"))]) sN) (is.map fun (i : Nat) => D.int (0 + (i : Int))) [some (.fz (.int many)), some (.fz d), x2, none, none] = .ex "BadRules" [("what", .str "rule"), ("index", .int i)] ρ) ∧
    (is.find? (badB many ds) = none → ∃ y2, forL (tgN 2) (sIf (cNot (cT (eCallD m_is_rule [] [(eN 0), (eOp idxD (eN 1) (eN 2))]))) (sRaise "BadRules" 2 [("index", 0), ("what", 1)] [(eN 2), (eC (.str "rule"))]) sN) (is.map fun (i : Nat) => D.int (0 + (i : Int))) [some (.fz (.int many)), some (.fz d), x2, none, none] = .nx [some (.fz (.int many)), some (.fz d), y2, none, none])
  | [], x2, _ => ⟨fun i h => by simp at h, fun _ => ⟨x2, rfl⟩⟩
  | i :: is, x2, hi => by
    have hlt := hi i List.mem_cons_self
    have hat : atI ds (i : Int) = some (ds.getD i .non) := by
      rw [List.getD_eq_getElem?_getD, List.getElem?_eq_getElem hlt]
      exact at_n (List.getElem?_eq_getElem hlt)
    have hwf : wfR (ds.getD i .non) := by
      rw [List.getD_eq_getElem?_getD, List.getElem?_eq_getElem hlt]
      exact hw _ (List.getElem_mem hlt)
    have ev := rule_ev many _ hwf
    obtain ⟨h1, h2⟩ := chk_loop many d ds hd hw is (some (.fz (.int (i : Int)))) fun j hj => hi j (List.mem_cons_of_mem _ hj)
    by_cases c : badB many ds i = true
    · have c2 : (rule? many (ds.getD i .non)).isSome = false := by
        unfold badB at c; cases q : rule? many (ds.getD i .non) <;> rw [q] at c <;> simp at c ⊢
      rw [c2] at ev
      generalize ds.getD i D.non = x at hat ev
      refine ⟨fun j hj => ?_, fun hj => ?_⟩
      · rw [List.find?_cons_of_pos (p := badB many ds) c] at hj
        cases hj
        rcases hd with rfl | rfl <;> exact ⟨_, by simp [forL, hat, ev, exFs]; rfl⟩
      · rw [List.find?_cons_of_pos (p := badB many ds) c] at hj; cases hj
    · have c2 : (rule? many (ds.getD i .non)).isSome = true := by
        unfold badB at c; cases q : rule? many (ds.getD i .non) <;> rw [q] at c <;> simp at c ⊢
      rw [c2] at ev
      generalize ds.getD i D.non = x at hat ev
      refine ⟨fun j hj => ?_, fun hj => ?_⟩
      · rw [List.find?_cons_of_neg (p := badB many ds) c] at hj
        obtain ⟨ρ, e⟩ := h1 j hj
        refine ⟨ρ, ?_⟩
        rcases hd with rfl | rfl <;> (simp [forL, hat, ev]; simpa using e)
      · rw [List.find?_cons_of_neg (p := badB many ds) c] at hj
        obtain ⟨y2, e⟩ := h2 hj
        refine ⟨y2, ?_⟩
        rcases hd with rfl | rfl <;> (simp [forL, hat, ev]; simpa using e)
end K01
end
noncomputable section
set_option maxHeartbeats 4000000
/-! K01f: check_rules, whole. -/
namespace K01
open PySem PySem.Spec L2 DL

@[simp] theorem x_rng1 {j : Int} : rngOf1 [.int j] = some (0, j) := (rfl)
@[simp] theorem x_rng2 {i j : Int} : rngOf2 [.int i, .int j] = some (i, j) := (rfl)
theorem small_n {n : Nat} (h : n ≤ 1000000) : smallR 0 (n : Int) = true := by
  unfold smallR
  simp only [Bool.and_eq_true, decide_eq_true_eq]
  omega
theorem range_n (n : Nat) : rangeD 0 (n : Int) = (List.range n).map fun (i : Nat) => D.int (0 + (i : Int)) := by
  unfold rangeD
  rw [show ((n : Int) - 0).toNat = n by omega]
theorem check_bad (many : Int) (d : D) (ds : List D) (hd : d = .lst ds ∨ d = .tup ds) (hw : ∀ x ∈ ds, wfR x) (h : ds.length ≤ 30) (i : Nat) (hi : (List.range ds.length).find? (badB many ds) = some i) : isX (m_check_rules [.fz (.int many), .fz d]) i "rule" := by
  have e : ¬ (30 : Int) < ds.length := by omega
  obtain ⟨ρ, e1⟩ := (chk_loop many d ds hd hw (List.range ds.length) none fun i hi => List.mem_range.mp hi).1 i hi
  have e2 := small_n (n := ds.length) (by omega)
  rw [← range_n] at e1
  rcases hd with rfl | rfl <;> exact ⟨_, by simp [m_check_rules, runB, g_check_rules, envOf, isiD, tyD, List.lookup, e, e2, e1]; rfl⟩
theorem sp_loop (a0 a1 a2 a3 : Option SV) : ∀ (rs : List (Bool × (Int × Int))) (acc : List (Int × Int)) (x4 : Option SV), acc.length + rs.length ≤ 62 → ∃ y4, loopF (tgN 4) cYes (emSP (eTup [(eOp idxD (eN 4) (eC (.int 0))), (eOp idxD (eN 4) (eC (.int 1)))])) (rs.map rowD) acc [a0, a1, a2, a3, x4] = .ok (rs.foldl (fun a r => addP a r.2) acc) [a0, a1, a2, a3, y4]
  | [], acc, x4, _ => ⟨x4, rfl⟩
  | (b, p) :: rs, acc, x4, h => by
    have h1 := addP_len acc p
    obtain ⟨y4, e⟩ := sp_loop a0 a1 a2 a3 rs (addP acc p) (some (.fz (rowD (b, p)))) (by simp at h; omega)
    refine ⟨y4, ?_⟩
    have hz : acc.length + 1 < 64 := by simp at h; omega
    rw [List.map_cons, loop_cons]
    cases b <;> simp [rowD, hz] at e ⊢ <;> exact e
theorem rule?_row {many : Int} {x : D} {p : Int × Int} (h : rule? many x = some p) : ∃ b, x = rowD (b, p) ∧ okR many p = true := by
  unfold rule? at h
  split at h
  · split at h
    · cases h; exact ⟨false, rfl, by assumption⟩
    · cases h
  · split at h
    · cases h; exact ⟨true, rfl, by assumption⟩
    · cases h
  · cases h
theorem rule?_of {many : Int} {b : Bool} {p : Int × Int} (h : okR many p = true) : rule? many (rowD (b, p)) = some p := by
  cases b <;> simp [rowD, rule?, h]
theorem rows_of {many : Int} : ∀ {ds : List D}, (∀ x ∈ ds, (rule? many x).isSome = true) → ∃ rs : List (Bool × (Int × Int)), ds = rs.map rowD ∧ ∀ r ∈ rs, okR many r.2 = true
  | [], _ => ⟨[], rfl, fun _ h => by cases h⟩
  | x :: ds, h => by
    obtain ⟨rs, e, k⟩ := rows_of (ds := ds) fun y hy => h y (List.mem_cons_of_mem _ hy)
    obtain ⟨p, hp⟩ := Option.isSome_iff_exists.mp (h x List.mem_cons_self)
    obtain ⟨b, e1, k1⟩ := rule?_row hp
    refine ⟨(b, p) :: rs, by rw [e1, e]; rfl, fun r hr => ?_⟩
    rcases List.mem_cons.mp hr with rfl | hr
    · exact k1
    · exact k r hr
theorem rowD_pair (ps : List (Int × Int)) : (ps.map fun p => (false, p)).map rowD = ps.map pairD := by
  rw [List.map_map]; rfl
theorem foldR_len : ∀ (rs : List (Bool × (Int × Int))) (acc : List Int), (rs.foldl addR acc).length ≤ acc.length + 2 * rs.length
  | [], acc => by simp
  | r :: rs, acc => by
    have := foldR_len rs (addR acc r)
    have h1 := addI_len acc r.2.1
    have h2 := addI_len (addI acc r.2.1) r.2.2
    simp [addR] at this ⊢; omega
theorem check_good (many : Int) (hm : many ≤ 64) (d : D) (rs : List (Bool × (Int × Int))) (hd : d = .lst (rs.map rowD) ∨ d = .tup (rs.map rowD)) (hk : ∀ r ∈ rs, okR many r.2 = true) (h : rs.length ≤ 30) :
    (ringP rs = true → isX (m_check_rules [.fz (.int many), .fz d]) 0 "ring") ∧ (ringP rs = false → ∃ ρ, m_check_rules [.fz (.int many), .fz d] = .ok (.fz (.tup ((sortP (ddP (rs.map (·.2)))).map pairD))) ρ) := by
  have e : ¬ (30 : Int) < (rs.map rowD).length := by simp; omega
  have el : ¬ (30 : Int) < rs.length := by omega
  have hw : ∀ x ∈ rs.map rowD, wfR x := fun x hx => by
    obtain ⟨⟨b, p⟩, hr, rfl⟩ := List.mem_map.mp hx
    cases b <;> exact ⟨rfl, fun xs e y hy => by simp only [rowD, items2] at e; cases e; simp at hy; rcases hy with rfl | rfl <;> rfl⟩
  have hn : (List.range (rs.map rowD).length).find? (badB many (rs.map rowD)) = none := by
    rw [List.find?_eq_none]
    intro i hi
    have hlt := List.mem_range.mp hi
    have hl2 : i < rs.length := by simpa using hlt
    have : (rs.map rowD).getD i .non = rowD (rs[i].1, rs[i].2) := by
      rw [List.getD_eq_getElem?_getD, List.getElem?_eq_getElem hlt]; simp
    unfold badB
    rw [this, rule?_of (hk _ (List.getElem_mem hl2))]
    simp
  obtain ⟨y2, e1⟩ := (chk_loop many d (rs.map rowD) hd hw (List.range (rs.map rowD).length) none fun i hi => List.mem_range.mp hi).2 hn
  have e2 := small_n (n := (rs.map rowD).length) (by simp; omega)
  rw [← range_n] at e1
  rw [List.length_map] at e1 e2
  obtain ⟨y4, e3⟩ := sp_loop (some (.fz (.int many))) (some (.fz d)) y2 none rs [] none (by simp; omega)
  have ef : rs.foldl (fun a r => addP a r.2) [] = ddP (rs.map (·.2)) := by rw [ddP, List.foldl_map]
  rw [ef] at e3
  have eb : ((ddP (rs.map (·.2))).all fun p => decide (inB p)) = true := by
    rw [List.all_eq_true]
    intro p hp
    rw [mem_ddP] at hp
    obtain ⟨r, hr, rfl⟩ := List.mem_map.mp hp
    have := hk r hr
    simp only [okR, Bool.and_eq_true, decide_eq_true_eq] at this
    exact decide_eq_true ⟨this.1.1.1, by omega, this.1.2.1, by omega⟩
  have lq : (sortP (ddP (rs.map (·.2)))).length ≤ 30 := by
    rw [(sortP_perm _).length_eq, ← ef]
    have := foldP_len rs []
    simp at this; omega
  obtain ⟨r0, ρ0, e4, rfl, ρ1, rfl⟩ := ring_s (rs := (sortP (ddP (rs.map (·.2)))).map fun p => (false, p)) (.own _) (by simp; omega) (by
    have := foldR_len ((sortP (ddP (rs.map (·.2)))).map fun p => (false, p)) []
    simp at this ⊢; omega)
  have er : ringP ((sortP (ddP (rs.map (·.2)))).map fun p => (false, p)) = ringP rs := ringP_congr fun p => by
    rw [List.map_map]
    show p ∈ (sortP (ddP (rs.map (·.2)))).map (fun p => p) ↔ _
    rw [List.map_id', (sortP_perm _).mem_iff, mem_ddP]
  rw [er, rowD_pair] at e4
  constructor
  · intro c
    rw [c] at e4
    rcases hd with rfl | rfl <;> exact ⟨_, by simp [m_check_rules, runB, g_check_rules, envOf, isiD, tyD, List.lookup, el, e2, e1, e3, eb, e4, exFs]; rfl⟩
  · intro c
    rw [c] at e4
    rcases hd with rfl | rfl <;> exact ⟨_, by simp [m_check_rules, runB, g_check_rules, envOf, isiD, tyD, List.lookup, el, e2, e1, e3, eb, e4]; rfl⟩
end K01
end
noncomputable section
set_option maxHeartbeats 4000000
/-! K01g: what the law is told; its own reach. -/
namespace K01
open PySem PySem.Spec L2 DL

theorem told_bad {many i : Int} {d : D} {w : Str} (h : isX (m_check_rules [.fz (.int many), .fz d]) i w) : ∃ ρ, m__law_told [.fz (.int many), .fz d] = .ok (.fz (.tup [.str "bad", .int i, .str w])) ρ := by
  obtain ⟨ρ, e⟩ := h
  exact ⟨_, by simp [m__law_told, runB, g__law_told, envOf, e, sTry, eIsX, eXf, List.lookup]; rfl⟩
theorem told_good {many : Int} {d x : D} {ρ : DL.Env} (h : m_check_rules [.fz (.int many), .fz d] = .ok (.fz x) ρ) : ∃ ρ, m__law_told [.fz (.int many), .fz d] = .ok (.fz (.tup [.str "good", x])) ρ := by
  exact ⟨_, by simp [m__law_told, runB, g__law_told, envOf, h, sTry]; rfl⟩
/-! ### b in found -/
theorem pd_ints : ∀ ns : List Int, pdL (ns.map D.int) = some (ns.map PyData.int)
  | [] => rfl
  | n :: ns => by simp [pdL, D.pd, pd_ints ns]
theorem can_ints : ∀ ns : List Int, PyData.canLayAll0 (ns.map PyData.int) = true
  | [] => by simp [PyData.canLayAll0]
  | n :: ns => by simp [PyData.canLayAll0, PyData.canLay0, can_ints ns]
theorem dep_ints : ∀ ns : List Int, PyData.depthAll (ns.map PyData.int) = 0
  | [] => by simp [PyData.depthAll]
  | n :: ns => by simp [PyData.depthAll, PyData.depth, dep_ints ns]
theorem din_ints (b : Int) (ns : List Int) : din (.int b) (.lst (ns.map D.int)) = some (decide (b ∈ ns)) := by
  simp only [din, D.pd, pd_ints]
  have h1 : SeqAt.shaped (.int b) = true := by simp [SeqAt.shaped, PyData.canLay0, PyData.depth]
  have h2 : SeqAt.shaped (.list (ns.map PyData.int)) = true := by simp [SeqAt.shaped, PyData.canLay0, PyData.depth, can_ints, dep_ints]
  rw [h1, h2]
  simp only [Bool.and_self, if_true, List.any_map]
  congr 1
  rw [Bool.eq_iff_iff, List.any_eq_true]
  simp only [Function.comp, decide_eq_true_eq]
  constructor
  · rintro ⟨x, hx, e⟩
    simp [PyData.eqv] at e
    exact e ▸ hx
  · intro h
    exact ⟨b, h, by simp [PyData.eqv]⟩
/-! ### the reach -/
def rbody : SSem := sIf (cAnd (cB (eOp eqD (eOp idxD (eN 5) (eC (.int 0))) (eN 4))) (cB (eOp ninA (eOp idxD (eN 5) (eC (.int 1))) (eN 2)))) (sQ (sE (eMut 2 appM [(eOp idxD (eN 5) (eC (.int 1)))]))
  (sE (eMut 3 appM [(eOp idxD (eN 5) (eC (.int 1)))]))) sN
def rstep (one : Int) (ft : List Int × List Int) (p : Int × Int) : List Int × List Int := if p.1 = one ∧ p.2 ∉ ft.1 then (ft.1 ++ [p.2], ft.2 ++ [p.2]) else ft
theorem rstep_len (one : Int) (ft : List Int × List Int) (p : Int × Int) : (rstep one ft p).1.length ≤ ft.1.length + 1 ∧ (rstep one ft p).2.length ≤ ft.2.length + 1 := by
  unfold rstep; split <;> simp
theorem rloop (s0 s1 : Option SV) (one : Int) : ∀ (ps : List (Int × Int)) (f t : List Int) (x5 : Option SV), f.length + ps.length ≤ 10000 → t.length + ps.length ≤ 10000 → ∃ y5, forL (tgN 5) rbody (ps.map pairD) [s0, s1, some (.ow false (.lst (f.map .int))), some (.ow false (.lst (t.map .int))), some (.fz (.int one)), x5] = .nx [s0, s1, some (.ow false (.lst ((ps.foldl (rstep one) (f, t)).1.map .int))), some (.ow false (.lst ((ps.foldl (rstep one) (f, t)).2.map .int))), some (.fz (.int one)), y5]
  | [], f, t, x5, _, _ => ⟨x5, rfl⟩
  | p :: ps, f, t, x5, h1, h2 => by
    obtain ⟨l1, l2⟩ := rstep_len one (f, t) p
    simp only [List.length_cons] at h1 h2
    dsimp only at l1 l2
    obtain ⟨y5, e⟩ := rloop s0 s1 one ps (rstep one (f, t) p).1 (rstep one (f, t) p).2 (some (.fz (pairD p))) (by omega) (by omega)
    refine ⟨y5, ?_⟩
    have hn := x_ninO (din_ints p.2 f)
    have z1 : f.length < sizeLine := szk' (by omega)
    have z2 : t.length < sizeLine := szk' (by omega)
    rw [List.foldl_cons]
    by_cases c1 : p.1 = one
    · by_cases c2 : p.2 ∈ f
      · have e2 : rstep one (f, t) p = (f, t) := by rw [rstep, if_neg (fun z => z.2 c2)]
        rw [e2] at e ⊢
        dsimp only at e
        subst c1
        simp [forL, rbody, pairD, c2, hn]
        exact e
      · have e2 : rstep one (f, t) p = (f ++ [p.2], t ++ [p.2]) := by rw [rstep, if_pos ⟨c1, c2⟩]
        rw [e2] at e ⊢
        dsimp only at e
        simp only [List.map_append, List.map_cons, List.map_nil] at e
        subst c1
        simp [forL, rbody, pairD, c2, hn, z1, z2]
        exact e
    · have e2 : rstep one (f, t) p = (f, t) := by rw [rstep, if_neg (fun z => c1 z.1)]
      rw [e2] at e ⊢
      dsimp only at e
      simp [forL, rbody, pairD, c1]
      exact e
/-- one turn's effect: what is found, what is to do -/
theorem rfold (one : Int) : ∀ (ps : List (Int × Int)) (f t : List Int), ∃ k : List Int, ps.foldl (rstep one) (f, t) = (f ++ k, t ++ k) ∧ (f.Nodup → (f ++ k).Nodup) ∧ (∀ x ∈ k, (one, x) ∈ ps) ∧ ∀ x, (one, x) ∈ ps → x ∈ f ++ k
  | [], f, t => ⟨[], by simp, by simp, (fun x h => by cases h), fun x h => by cases h⟩
  | p :: ps, f, t => by
    rw [List.foldl_cons]
    by_cases c : p.1 = one ∧ p.2 ∉ f
    · have e2 : rstep one (f, t) p = (f ++ [p.2], t ++ [p.2]) := by rw [rstep, if_pos c]
      rw [e2]
      obtain ⟨k, e, h1, h2, h3⟩ := rfold one ps (f ++ [p.2]) (t ++ [p.2])
      have hp : (one, p.2) = p := by rw [← c.1]
      refine ⟨p.2 :: k, by rw [e]; simp, fun nd => ?_, fun x hx => ?_, fun x hx => ?_⟩
      · have : (f ++ [p.2]).Nodup := List.nodup_append.mpr ⟨nd, by simp, fun a ha b hb => by rw [List.mem_singleton.mp hb]; exact fun e => c.2 (e ▸ ha)⟩
        simpa using h1 this
      · rcases List.mem_cons.mp hx with rfl | hx
        · rw [hp]; exact List.mem_cons_self
        · exact List.mem_cons_of_mem _ (h2 x hx)
      · rcases List.mem_cons.mp hx with e | hx
        · rw [← e]; simp
        · have := h3 x hx; simpa using this
    · have e2 : rstep one (f, t) p = (f, t) := by rw [rstep, if_neg c]
      rw [e2]
      obtain ⟨k, e, h1, h2, h3⟩ := rfold one ps f t
      refine ⟨k, e, h1, fun x hx => List.mem_cons_of_mem _ (h2 x hx), fun x hx => ?_⟩
      rcases List.mem_cons.mp hx with e | hx
      · have : p.2 ∈ f := Classical.not_not.mp fun h => c ⟨by rw [← e], by rw [← e]; rw [← e] at h; exact h⟩
        rw [← e] at this
        exact List.mem_append_left _ this
      · exact h3 x hx
theorem nd_len : ∀ (l D : List Int), l.Nodup → (∀ x ∈ l, x ∈ D) → l.length ≤ D.length
  | [], _, _, _ => Nat.zero_le _
  | x :: l, D, hn, hs => by
    obtain ⟨h1, h2⟩ := List.nodup_cons.mp hn
    have hx : x ∈ D := hs x List.mem_cons_self
    have ih := nd_len l (D.erase x) h2 fun y hy => (List.mem_erase_of_ne (by intro e; subst e; exact h1 hy)).2 (hs y (List.mem_cons_of_mem _ hy))
    have e := List.length_erase_of_mem hx
    have hp : 0 < D.length := List.length_pos_of_mem hx
    rw [List.length_cons]
    omega
def rwh : SSem := sWh (cT (eN 3)) (sQ (sA 4 (eMut 3 popM [])) (sFor (eN 0) (tgN 5) rbody))
/-- the worklist -/
theorem reach_loop (ps : List (Int × Int)) (role : Int) (hl : ps.length ≤ 100) : ∀ (n : Nat) (f t : List Int) (x4 x5 : Option SV), 2 * (ps.length - f.length) + t.length < n → f.Nodup → (∀ x ∈ f, Rch (· ∈ ps) role x) → (∀ x ∈ t, x = role ∨ x ∈ f) → t.length ≤ f.length + 1 →
    (∀ x, x = role ∨ x ∈ f → x ∈ t ∨ ∀ y, (x, y) ∈ ps → y ∈ f) → ∃ (g : List Int) (y4 y5 : Option SV), rwh [some (.ow true (.lst (ps.map pairD))), some (.fz (.int role)), some (.ow false (.lst (f.map .int))), some (.ow false (.lst (t.map .int))), x4, x5] = .nx [some (.ow true (.lst (ps.map pairD))), some (.fz (.int role)), some (.ow false (.lst (g.map .int))), some (.ow false (.lst [])), y4, y5] ∧ g.Nodup ∧ ∀ x, x ∈ g ↔ Rch (· ∈ ps) role x
  | 0, f, t, x4, x5, h, _, _, _, _, _ => absurd h (Nat.not_lt_zero _)
  | n + 1, f, t, x4, x5, h, nd, hf, ht, hz, hc => by
    have fl : f.length ≤ ps.length := by
      have := nd_len f (ps.map (·.2)) nd fun x hx => by
        have : ∀ {a b : Int}, Rch (· ∈ ps) a b → b ∈ ps.map (·.2) := fun r => by
          induction r with
          | one e => exact List.mem_map.mpr ⟨_, e, rfl⟩
          | cons _ _ ih => exact ih
        exact this (hf x hx)
      rwa [List.length_map] at this
    rcases List.eq_nil_or_concat t with rfl | ⟨t', one, rfl⟩
    · refine ⟨f, x4, x5, ?_, nd, fun x => ⟨hf x, fun r => ?_⟩⟩
      · unfold rwh
        rw [sWh_eq]
        simp [truthD]
      · have clo : ∀ {a b : Int}, Rch (· ∈ ps) a b → (a = role ∨ a ∈ f) → b ∈ f := fun r => by
          induction r with
          | one e => intro ha; exact ((hc _ ha).resolve_left (by simp)) _ e
          | cons e _ ih => intro ha; exact ih (.inr (((hc _ ha).resolve_left (by simp)) _ e))
        exact clo r (.inl rfl)
    · rw [List.concat_eq_append] at *
      obtain ⟨k, ek, k1, k2, k3⟩ := rfold one ps f t'
      have hone : one = role ∨ one ∈ f := ht one (by simp)
      have hkl : (f ++ k).length ≤ ps.length := by
        have := nd_len (f ++ k) (ps.map (·.2)) (k1 nd) fun x hx => by
          have : ∀ {a b : Int}, Rch (· ∈ ps) a b → b ∈ ps.map (·.2) := fun r => by
            induction r with
            | one e => exact List.mem_map.mpr ⟨_, e, rfl⟩
            | cons _ _ ih => exact ih
          rcases List.mem_append.mp hx with hx | hx
          · exact this (hf x hx)
          · exact List.mem_map.mpr ⟨_, k2 x hx, rfl⟩
        rwa [List.length_map] at this
      simp only [List.length_append, List.length_cons, List.length_nil] at h hz hkl
      obtain ⟨y5, e5⟩ := rloop (some (.lk (.lst (ps.map pairD)))) (some (.fz (.int role))) one ps f t' x5 (by omega) (by omega)
      rw [ek] at e5
      obtain ⟨g, z4, z5, e6, g1, g2⟩ := reach_loop ps role hl n (f ++ k) (t' ++ k) (some (.fz (.int one))) y5 (by simp only [List.length_append]; omega) (k1 nd)
        (fun x hx => by
          rcases List.mem_append.mp hx with hx | hx
          · exact hf x hx
          · rcases hone with e | ho
            · exact .one (e ▸ k2 x hx)
            · exact (hf one ho).snoc (k2 x hx))
        (fun x hx => by
          rcases List.mem_append.mp hx with hx | hx
          · exact (ht x (by simp [hx])).imp id fun z => List.mem_append_left _ z
          · exact .inr (List.mem_append_right _ hx))
        (by simp only [List.length_append]; omega)
        (fun x hx => by
          by_cases ex : x = one
          · exact .inr fun y hy => k3 y (by rw [← ex]; exact hy)
          · have old : (x = role ∨ x ∈ f) ∨ x ∈ k := by
              rcases hx with e | hx
              · exact .inl (.inl e)
              · rcases List.mem_append.mp hx with hx | hx
                · exact .inl (.inr hx)
                · exact .inr hx
            rcases old with old | hk
            · rcases hc x old with z | z
              · rcases List.mem_append.mp z with z | z
                · exact .inl (List.mem_append_left _ z)
                · exact absurd (List.mem_singleton.mp z) ex
              · exact .inr fun y hy => List.mem_append_left _ (z y hy)
            · exact .inl (List.mem_append_right _ hk))
      refine ⟨g, z4, z5, ?_, g1, g2⟩
      unfold rwh at e6 ⊢
      rw [sWh_eq]
      have lastE : ((t' ++ [one]).map D.int)[((t' ++ [one]).map D.int).length - 1]? = some (.int one) := by simp
      have dropE : ((t' ++ [one]).map D.int).dropLast = t'.map D.int := by simp
      have ne : ((t' ++ [one]).map D.int).isEmpty = false := by simp
      have pe : popM ((t' ++ [one]).map D.int) [] = some (.int one, t'.map D.int) := by
        simp only [popM, lastE, dropE]
      generalize (t' ++ [one]).map D.int = T at ne pe
      simp only [List.map_append] at e6 e5
      simp [truthD, ne, pe, e5]
      exact e6
theorem reach_s (ps : List (Int × Int)) (role : Int) (hl : ps.length ≤ 100) : Gv (m__law_reach [.ow true (.lst (ps.map pairD)), .fz (.int role)]) fun r ρ => ∃ (g : List Int) (ρ' : DL.Env), r = .fr (.lst (g.map .int)) ∧ ρ = some (.ow true (.lst (ps.map pairD))) :: ρ' ∧ g.Nodup ∧ ∀ x, x ∈ g ↔ Rch (· ∈ ps) role x := by
  obtain ⟨g, y4, y5, e, h1, h2⟩ := reach_loop ps role hl (2 * ps.length + 2) [] [role] none none (by simp) List.nodup_nil (fun x h => by cases h) (fun x h => .inl (by simpa using h)) (by simp) (fun x h => .inl (by simpa using h))
  refine run_w ?_
  simp only [g__law_reach]
  simp only [rwh, rbody, List.map_nil, List.map_cons] at e
  simp [envOf, e]
  exact ⟨g, rfl, h1, h2⟩
end K01
end
noncomputable section
set_option maxHeartbeats 4000000
/-! K01h: what the law draws: rows as lists or tuples, wrong entries. -/
namespace K01
open PySem PySem.Spec L2 DL

theorem take_eq : m__law_take = cm_take := rfl
theorem hand_eq : m__law_hand = cm_hand := rfl
theorem shuf_eq : m__law_shuffled = cm_shuffled := rfl
theorem asList_s {h xs : List D} {s : SV} (H : Hok h) (hs : Src s xs) : Gv (m__law_as_list [.ow true (.lst h), s]) fun r ρ => ∃ h' ρ', (r = .fr (.lst xs) ∨ r = .fz (.tup xs)) ∧ ρ = some (.ow true (.lst h')) :: some s :: ρ' ∧ Hok h' := by
  refine run_w ?_
  simp only [g__law_as_list, take_eq]
  cases hs <;> simp [envOf] <;> (refine draw H (by decide) (by decide) fun v h1 ρ1 H1 v0 v1 => ?_) <;> simp <;> by_cases e0 : v = 0 <;> simp [e0] <;> exact H1
def noRole (many : Int) (d : D) : Prop := pl d = true ∧ (∀ i, d = .int i → ¬ (0 ≤ i ∧ i < many)) ∧ Fine 0 1 d
theorem fineI {i : Int} (h : i.natAbs < 2 ^ 200) {k n : Nat} : Fine k n (.int i) := fine_int (Nat.lt_of_lt_of_le h (Nat.pow_le_pow_right (by decide) (by decide)))
theorem pow21 : powD (.int 10) (.int 21) = some (.fz (.int 1000000000000000000000)) := by simp [powD, gI]
section
variable {many : Int}
theorem noRoleI {i : Int} (h : ¬ (0 ≤ i ∧ i < many)) (hs : i.natAbs < 2 ^ 200) : noRole many (.int i) := ⟨rfl, fun j e => by cases e; exact h, fineI hs⟩
theorem noRole_non : noRole many .non := ⟨rfl, (fun i e => by cases e), fine_non⟩
theorem noRole_bl {b : Bool} : noRole many (.bl b) := ⟨rfl, (fun i e => by cases e), fine_bl⟩
theorem noRole_0 : noRole many (.str "0") := ⟨rfl, (fun i e => by cases e), fine_str (by decide +kernel) (by decide +kernel)⟩
theorem noRole_s {h : List D} (H : Hok h) (m0 : 1 ≤ many) (m1 : many ≤ 6) : Gv (m__law_no_role [.ow true (.lst h), .fz (.int many)]) fun r ρ => ∃ d h' ρ', r = .fz d ∧ ρ = some (.ow true (.lst h')) :: some (.fz (.int many)) :: ρ' ∧ Hok h' ∧ noRole many d := by
  refine run_w ?_
  simp only [g__law_no_role, take_eq]
  simp [envOf]
  refine draw H (by decide) (by decide) fun v h1 ρ1 H1 v0 v1 => ?_
  simp
  by_cases e0 : v = 0
  · simp [e0]
    exact ⟨H1, noRole_non⟩
  simp [e0]
  by_cases e1 : v = 1
  · simp [e1]
    exact ⟨H1, noRole_bl⟩
  simp [e1]
  by_cases e2 : v = 2
  · simp [e2]
    refine draw H1 (by decide) (by decide) fun v2 h2 ρ2 H2 v20 v21 => ?_
    simp
    exact ⟨H2, noRoleI (by omega) (by omega)⟩
  simp [e2]
  by_cases e3 : v = 3
  · simp [e3, pow21]
    refine draw H1 (by decide) (by decide) fun v2 h2 ρ2 H2 v20 v21 => ?_
    simp
    exact ⟨H2, noRoleI (by omega) (by omega)⟩
  simp [e3]
  by_cases e4 : v = 4
  · simp [e4]
    exact ⟨H1, noRole_0⟩
  simp [e4]
  by_cases e5 : v = 5
  · simp [e5]
    exact ⟨H1, noRole_bl⟩
  simp [e5]
  refine draw H1 (by decide) (by decide) fun v2 h2 ρ2 H2 v20 v21 => ?_
  simp
  exact ⟨H2, noRoleI (by omega) (by omega)⟩
/-- a wrong entry -/
def wrongD (many : Int) (d : D) : Prop := wfR d ∧ rule? many d = none ∧ Fine 1 10 d
theorem w_seq {many : Int} {xs : List D} (hl : xs.length ≤ 5) (hp : ∀ x ∈ xs, pl x = true) (hf : ∀ x ∈ xs, Fine 0 1 x) (h2 : ∀ a b, xs = [.int a, .int b] → okR many (a, b) = false) : wrongD many (.tup xs) ∧ wrongD many (.lst xs) := by
  have n1 : ∀ d, (d = .tup xs ∨ d = .lst xs) → rule? many d = none := fun d hd => by
    unfold rule?
    split
    · rename_i a b
      have : xs = [.int a, .int b] := by rcases hd with e | e <;> cases e <;> rfl
      rw [h2 a b this]; rfl
    · rename_i a b
      have : xs = [.int a, .int b] := by rcases hd with e | e <;> cases e <;> rfl
      rw [h2 a b this]; rfl
    · rfl
  exact ⟨⟨⟨rfl, fun ys e => by cases e; exact hp⟩, n1 _ (.inl rfl), fine_tup hf hl (by decide)⟩, ⟨⟨rfl, fun ys e => by cases e; exact hp⟩, n1 _ (.inr rfl), fine_lst hf hl (by decide)⟩⟩
theorem ok_no1 {a b : Int} (h : ¬ (0 ≤ a ∧ a < many)) : okR many (a, b) = false := by
  simp only [okR, Bool.and_eq_false_iff, decide_eq_false_iff_not]
  by_cases h0 : 0 ≤ a
  · exact .inl (.inl (.inr fun z => h ⟨h0, z⟩))
  · exact .inl (.inl (.inl h0))
theorem ok_no2 {a b : Int} (h : ¬ (0 ≤ b ∧ b < many)) : okR many (a, b) = false := by
  simp only [okR, Bool.and_eq_false_iff, decide_eq_false_iff_not]
  by_cases h0 : 0 ≤ b
  · exact .inl (.inr (.inr fun z => h ⟨h0, z⟩))
  · exact .inl (.inr (.inl h0))
theorem ok_no3 {a : Int} : okR many (a, a) = false := by simp [okR]
theorem w_two {x y : D} (hx : pl x = true) (hy : pl y = true) (fx : Fine 0 1 x) (fy : Fine 0 1 y) (h : ∀ a b, x = .int a → y = .int b → okR many (a, b) = false) : wrongD many (.tup [x, y]) ∧ wrongD many (.lst [x, y]) :=
  w_seq (by simp) (fun z hz => by simp at hz; rcases hz with rfl | rfl <;> assumption) (fun z hz => by simp at hz; rcases hz with rfl | rfl <;> assumption) fun a b e => by simp at e; exact h a b e.1 e.2
theorem wrong_s {h : List D} (H : Hok h) (m0 : 1 ≤ many) (m1 : many ≤ 6) : Gv (m__law_wrong [.ow true (.lst h), .fz (.int many)]) fun r ρ => ∃ d h' ρ', (r = .fz d ∨ ∃ xs, d = .lst xs ∧ r = .fr (.lst xs)) ∧ ρ = some (.ow true (.lst h')) :: ρ' ∧ Hok h' ∧ wrongD many d := by
  refine run_w ?_
  simp only [g__law_wrong, take_eq]
  simp [envOf]
  refine draw H (by decide) (by decide) fun v h1 ρ1 H1 v0 v1 => ?_
  simp
  by_cases e0 : v = 0
  · simp [e0]
    exact ⟨H1, ⟨rfl, fun xs e => by cases e⟩, rfl, fine_non⟩
  simp [e0]
  by_cases e1 : v = 1
  · simp [e1]
    refine draw H1 (by omega) (by omega) fun v2 h2 ρ2 H2 v20 v21 => ?_
    simp
    exact ⟨H2, (w_two rfl rfl (fineI (by omega)) (fineI (by omega)) fun a b ea eb => by cases ea; cases eb; exact ok_no3).1⟩
  simp [e1]
  by_cases e2 : v = 2
  · simp [e2]
    exact ⟨H1, (w_seq (by simp) (fun x hx => by simp at hx; subst hx; rfl) (fun x hx => by simp at hx; subst hx; exact fineI (by decide)) fun a b e => by simp at e).1⟩
  simp [e2]
  by_cases e3 : v = 3
  · simp [e3]
    exact ⟨H1, (w_seq (by simp) (fun x hx => by simp at hx; rcases hx with rfl | rfl | rfl <;> rfl) (fun x hx => by simp at hx; rcases hx with rfl | rfl | rfl <;> exact fineI (by decide)) fun a b e => by simp at e).2⟩
  simp [e3]
  by_cases e4 : v = 4
  · simp [e4]
    exact ⟨H1, ⟨rfl, fun xs e => by cases e⟩, rfl, fine_str (by decide +kernel) (by decide +kernel)⟩
  simp [e4]
  by_cases e5 : v = 5
  · simp [e5]
    refine draw H1 (by decide) (by decide) fun v2 h2 ρ2 H2 v20 v21 => ?_
    simp
    exact ⟨H2, (w_two rfl rfl (fineI (by omega)) (fineI (by decide)) fun a b ea eb => by cases ea; cases eb; exact ok_no1 (by omega)).1⟩
  simp [e5]
  by_cases e6 : v = 6
  · simp [e6]
    refine cw (noRole_s H1 m0 m1) ?_
    rintro _ _ ⟨d, h2, ρ2, rfl, rfl, H2, n1, n2, n3⟩
    simp
    exact ⟨H2, (w_two rfl n1 (fineI (by decide)) n3 fun a b ea eb => ok_no2 (n2 b eb)).2⟩
  simp [e6]
  refine draw H1 (by decide) (by decide) fun v2 h2 ρ2 H2 v20 v21 => ?_
  simp
  exact ⟨H2, (w_two rfl rfl (fineI (by omega)) (fineI (by decide)) fun a b ea eb => by cases ea; cases eb; exact ok_no1 (by omega)).1⟩
end
end K01
end
noncomputable section
set_option maxHeartbeats 4000000
/-! K01i: the couples that the law draws. -/
namespace K01
open PySem PySem.Spec L2 DL

theorem forL_inv {tg : D → DL.Env → Option DL.Env} {b : SSem} (I : List D → DL.Env → Prop) (st : ∀ x r ρ, I (x :: r) ρ → ∃ ρ0, tg x ρ = some ρ0 ∧ W (Nx (I r)) (b ρ0)) : ∀ (ds : List D) (ρ : DL.Env), I ds ρ → ∃ ρ', forL tg b ds ρ = .nx ρ' ∧ I [] ρ'
  | [], ρ, h => ⟨ρ, rfl, h⟩
  | x :: r, ρ, h => by
    obtain ⟨ρ0, e, ρ1, e1, h1⟩ := st x r ρ h
    obtain ⟨ρ', e2, h2⟩ := forL_inv I st r ρ1 h1
    exact ⟨ρ', by rw [forL, e]; simp only [e1]; exact e2, h2⟩
theorem forL_w {tg : D → DL.Env → Option DL.Env} {b g : SSem} {I : List D → DL.Env → Prop} {ds : List D} {ρ : DL.Env} {Q : SOut → Prop} (h : I ds ρ) (st : ∀ x r ρ, I (x :: r) ρ → ∃ ρ0, tg x ρ = some ρ0 ∧ W (Nx (I r)) (b ρ0)) (k : ∀ ρ', I [] ρ' → W Q (g ρ')) : W Q ((forL tg b ds ρ).bind g) := by
  obtain ⟨ρ', e, h'⟩ := forL_inv I st ds ρ h
  rw [e]
  exact k ρ' h'
theorem small_i {j : Int} (h0 : 0 ≤ j) (h : j ≤ 1000000) : smallR 0 j = true := by
  unfold smallR
  simp only [Bool.and_eq_true, decide_eq_true_eq]
  omega
theorem okRg_i {j : Int} (h0 : 0 ≤ j) (h : j ≤ 1000000) : okRg 0 j = true := by
  simp only [okRg, Bool.and_eq_true, decide_eq_true_eq]
  exact ⟨small_i h0 h, by omega⟩
/-- 0 to many - 1 -/
def upTo (many : Int) : List Int := (List.range many.toNat).map fun (i : Nat) => (i : Int)
theorem range_up (many : Int) : rangeD 0 many = (upTo many).map D.int := by
  unfold rangeD upTo
  rw [List.map_map, show (many - 0).toNat = many.toNat by omega]
  refine List.map_congr_left fun i _ => ?_
  simp
theorem mem_upTo {many x : Int} : x ∈ upTo many ↔ 0 ≤ x ∧ x < many := by
  unfold upTo
  rw [List.mem_map]
  constructor
  · rintro ⟨i, hi, rfl⟩
    have := List.mem_range.mp hi
    omega
  · intro h
    exact ⟨x.toNat, List.mem_range.mpr (by omega), by omega⟩
theorem upTo_nd (many : Int) : (upTo many).Nodup := by
  unfold upTo
  rw [List.Nodup, List.pairwise_map]
  exact List.nodup_range.imp fun h e => h (by omega)
theorem upTo_len (many : Int) : (upTo many).length = many.toNat := by simp [upTo]
@[simp] theorem x_eLstRg {rg : List D → Option (Int × Int)} {args : List ESem} {ρ : DL.Env} : eLstRg rg args ρ = (eL args ρ).bind fun ds ρ1 => match rg ds with
  | some (i, j) => if okRg i j = true then .ok (.fr (.lst (rangeD i j))) ρ1 else .no
  | none => .no := (rfl)
@[simp] theorem x_sPar {i j : Nat} {f g : ESem} {ρ : DL.Env} : sPar i j f g ρ = (eL [f, g] ρ).sbind fun ds ρ1 => match ds with
  | [a, b] => .nx ((ρ1.set i (some (.fz a))).set j (some (.fz b)))
  | _ => .no := (rfl)
theorem shuf_s {α : Type} (f : α → D) {h : List D} {d : D} {xs : List α} (H : Hok h) (hd : listD d = some (.fr (.lst (xs.map f)))) (hl : xs.length ≤ 1000) :
    Gv (m__law_shuffled [.ow true (.lst h), .fz d]) fun r ρ => ∃ (ys : List α) (h' : List D) (ρ' : DL.Env), r = .fr (.lst (ys.map f)) ∧ ρ = some (.ow true (.lst h')) :: ρ' ∧ ys.Perm xs ∧ Hok h' := by
  obtain ⟨ys, h', ρ, e, p, H'⟩ := shuf_ok f h d xs H hd hl
  exact .of e ⟨ys, h', ρ, rfl, rfl, p, H'⟩
/-- the loop's slots -/
def CI (many : Int) (ys : List Int) (cnt : Int) (rg : Bool) (r : List D) (ρ : DL.Env) : Prop := ∃ (h : List D) (ps : List (Int × Int)) (x6 x7 x8 : Option SV), ρ = [some (.ow true (.lst h)), some (.fz (.int many)), some (.ow false (.lst (ps.map pairD))), some (.fz (.int cnt)), some (.ow false (.lst (ys.map .int))), some (.fz (.bl rg)), x6, x7, x8] ∧ Hok h ∧ ps.length + r.length ≤ 33 ∧ ∀ p ∈ ps, okR many p = true
theorem row_at {many : Int} {ys : List Int} (hp : ys.Perm (upTo many)) {i : Int} (h0 : 0 ≤ i) (h1 : i < many) : ∃ y, atI (ys.map D.int) i = some (.int y) ∧ 0 ≤ y ∧ y < many ∧ ys[i.toNat]? = some y := by
  have hl : ys.length = many.toNat := by rw [hp.length_eq, upTo_len]
  have hi : i.toNat < ys.length := by omega
  refine ⟨ys[i.toNat], atI_map h0 (by omega) (List.getElem?_eq_getElem hi), ?_, ?_, List.getElem?_eq_getElem hi⟩
  · exact (mem_upTo.mp (hp.mem_iff.mp (List.getElem_mem hi))).1
  · exact (mem_upTo.mp (hp.mem_iff.mp (List.getElem_mem hi))).2
theorem row_ne {many : Int} {ys : List Int} (hp : ys.Perm (upTo many)) {i j a b : Int} (hij : i ≠ j) (h0 : 0 ≤ i) (h1 : 0 ≤ j) (ha : ys[i.toNat]? = some a) (hb : ys[j.toNat]? = some b) : a ≠ b := by
  have nd : ys.Nodup := hp.nodup_iff.mpr (upTo_nd many)
  intro e
  obtain ⟨hi, ei⟩ := List.getElem?_eq_some_iff.mp ha
  obtain ⟨hj, ej⟩ := List.getElem?_eq_some_iff.mp hb
  have := (List.getElem_inj nd).mp (ei.trans (e.trans ej.symm))
  omega
theorem couples_s {h : List D} {many : Int} (H : Hok h) (m0 : 1 ≤ many) (m1 : many ≤ 6) : Gv (m__law_couples [.ow true (.lst h), .fz (.int many)]) fun r ρ => ∃ (ps : List (Int × Int)) (h' : List D) (ρ' : DL.Env), r = .fr (.lst (ps.map pairD)) ∧ ρ = some (.ow true (.lst h')) :: ρ' ∧ Hok h' ∧ ps.length ≤ 33 ∧ ∀ p ∈ ps, okR many p = true := by
  refine run_w ?_
  simp only [g__law_couples, take_eq]
  simp [envOf]
  by_cases em : many = 1
  · simp [em]
    exact H
  simp [em]
  have rest : ∀ (h2 : List D) (cnt : Int), Hok h2 → 0 ≤ cnt → cnt ≤ 33 → W (fun o => Gv (toOut o) fun r ρ => ∃ (ps : List (Int × Int)) (h' : List D), r = .fr (.lst (ps.map pairD)) ∧ (∃ ρ', ρ = some (.ow true (.lst h')) :: ρ') ∧ Hok h' ∧ ps.length ≤ 33 ∧ ∀ p ∈ ps, okR many p = true)
      ((sQ (sA 4 (eCallD m__law_shuffled [] [(eN 0), (eLstRg rngOf1 [(eN 1)])]))
  (sQ (sA 5 (eOp gtD (eCallD cm_take [] [(eN 0), (eC (.int 3))]) (eC (.int 0))))
  (sQ (sForR rngOf1 [(eN 3)] (tgN 6) (sQ (sA 7 (eCallD cm_take [] [(eN 0), (eN 1)]))
  (sQ (sA 8 (eOp modD (eU intD (eOp addD (eOp addD (eN 7) (eC (.int 1))) (eCallD cm_take [] [(eN 0), (eOp subD (eN 1) (eC (.int 1)))]))) (eN 1)))
  (sQ (sIf (cAnd (cT (eN 5)) (cB (eOp gtD (eN 7) (eN 8)))) (sPar 7 8 (eN 8) (eN 7)) sN)
  (sE (eMut 2 appM [(eTup [(eOp idxD (eN 4) (eN 7)), (eOp idxD (eN 4) (eN 8))])]))))))
  (sR (eN 2))))) [some (.ow true (.lst h2)), some (.fz (.int many)), some (.ow false (.lst [])), some (.fz (.int cnt)), none, none, none, none, none]) := by
    intro h2 cnt H2 c0 c1
    have hrg : okRg 0 many = true := okRg_i (by omega) (by omega)
    simp [hrg, range_up]
    refine cw (shuf_s D.int (xs := upTo many) H2 rfl (by rw [upTo_len]; omega)) ?_
    rintro _ _ ⟨ys, h3, ρ3, rfl, rfl, hp, H3⟩
    simp
    refine draw H3 (by decide) (by decide) fun v h4 ρ4 H4 v0 v1 => ?_
    simp [small_i c0 (by omega : cnt ≤ 1000000)]
    refine forL_w (I := CI many ys cnt (decide (0 < v))) ⟨h4, [], none, none, none, rfl, H4, by simp [rangeD]; omega, fun p hp => by cases hp⟩ ?_ ?_
    · rintro x r _ ⟨h5, ps, x6, x7, x8, rfl, H5, hl, hk⟩
      refine ⟨_, rfl, ?_⟩
      simp
      refine draw H5 (by omega) (by omega) fun a h6 ρ6 H6 a0 a1 => ?_
      simp
      refine draw H6 (by omega) (by omega) fun t h7 ρ7 H7 t0 t1 => ?_
      have me : modD (.int (a + 1 + t)) (.int many) = some (.fz (.int ((a + 1 + t) % many))) := mod_eval (by omega)
      have b0 := Int.emod_nonneg (a + 1 + t) (show many ≠ 0 by omega)
      have b1 := Int.emod_lt_of_pos (a + 1 + t) (show 0 < many by omega)
      have ne : a ≠ (a + 1 + t) % many := by
        by_cases q : a + 1 + t < many
        · rw [Int.emod_eq_of_lt (by omega) q]; omega
        · have e : (a + 1 + t) % many = a + 1 + t - many := by
            rw [← Int.sub_emod_right, Int.emod_eq_of_lt (by omega) (by omega)]
          rw [e]; omega
      simp [me]
      generalize (a + 1 + t) % many = b at b0 b1 ne
      obtain ⟨ya, ea, ya0, ya1, ga⟩ := row_at hp a0 a1
      obtain ⟨yb, eb, yb0, yb1, gb⟩ := row_at hp b0 b1
      have hne := row_ne hp ne a0 b0 ga gb
      have z : ps.length < sizeLine := szk' (by omega)
      have o1 : okR many (ya, yb) = true := by simp [okR, ya0, ya1, yb0, yb1, hne]
      have o2 : okR many (yb, ya) = true := by simp [okR, ya0, ya1, yb0, yb1, Ne.symm hne]
      have l1 : ps.length + 1 + r.length ≤ 33 := by simp at hl; omega
      have fin : ∀ (p : Int × Int) (y7 y8 : Option SV), okR many p = true → CI many ys cnt (decide (0 < v)) r [some (.ow true (.lst h7)), some (.fz (.int many)), some (.ow false (.lst (ps.map pairD ++ [.tup [.int p.1, .int p.2]]))), some (.fz (.int cnt)), some (.ow false (.lst (ys.map .int))), some (.fz (.bl (decide (0 < v)))), some (.fz x), y7, y8] := fun p y7 y8 hp => by
        refine ⟨h7, ps ++ [p], some (.fz x), y7, y8, by simp [pairD], H7, by simpa using l1, fun q hq => ?_⟩
        rcases List.mem_append.mp hq with hq | hq
        · exact hk q hq
        · rw [List.mem_singleton.mp hq]; exact hp
      have f1 := fin (ya, yb) (some (.fz (.int a))) (some (.fz (.int b))) o1
      have f2 := fin (yb, ya) (some (.fz (.int b))) (some (.fz (.int a))) o2
      by_cases c : 0 < v
      · by_cases c2 : b < a
        · simp only [c, decide_true] at f2
          simp [c, c2, ea, eb, z]
          exact f2
        · simp only [c, decide_true] at f1
          simp [c, c2, ea, eb, z]
          exact f1
      · simp only [c, decide_false] at f1
        simp [c, ea, eb, z]
        exact f1
    · rintro _ ⟨h5, ps, x6, x7, x8, rfl, H5, hl, hk⟩
      simp
      exact ⟨ps, rfl, H5, by simpa using hl, fun a b => hk (a, b)⟩
  refine draw H (by decide) (by decide) fun v h1 ρ1 H1 v0 v1 => ?_
  simp
  by_cases e0 : v = 0
  · simp [e0]
    refine draw H1 (by decide) (by decide) fun v2 h2 ρ2 H2 v20 v21 => ?_
    have := rest h2 (25 + v2) H2 (by omega) (by omega)
    simpa using this
  · simp [e0]
    refine draw H1 (by decide) (by decide) fun v2 h2 ρ2 H2 v20 v21 => ?_
    have := rest h2 v2 H2 (by omega) (by omega)
    simpa using this
end K01
end
noncomputable section
set_option maxHeartbeats 4000000
/-! K01j: a turn of the law, its second half: check_rules. -/
namespace K01
open PySem PySem.Spec L2 DL

/-- what a turn keeps -/
def Inv (ns : List Int) (ρ : DL.Env) : Prop := ∃ (h : List D) (z2 z3 z4 z5 z6 z7 z8 z9 z10 z11 z12 z13 z14 z15 z16 : Option SV), ρ = [some (.fz (.scr ns)), some (.ow false (.lst h)), z2, z3, z4, z5, z6, z7, z8, z9, z10, z11, z12, z13, z14, z15, z16, none, none, none] ∧ Hok h
/-- the rules as they are told, and where the wrong one stands -/
structure RulesOk (many : Int) (ps : List (Int × Int)) (ds : List D) (wv : D) : Prop where
  l : ds.length ≤ 35
  wf : ∀ x ∈ ds, wfR x ∧ Fine 1 10 x
  ok : (wv = .non ∧ ∃ rs : List (Bool × (Int × Int)), ds = rs.map rowD ∧ rs.map (·.2) = ps) ∨ ∃ w : Nat, wv = .int w ∧ w < ds.length ∧ (∀ i, i < w → (rule? many (ds.getD i .non)).isSome = true) ∧ rule? many (ds.getD w .non) = none
def badT (i : Int) (w : Str) : D := .tup [.str "bad", .int i, .str w]
def goodT (ps : List (Int × Int)) : D := .tup [.str "good", .tup ((sortP (ddP ps)).map pairD)]
/-- what is to be told -/
def due (ps : List (Int × Int)) (rg : Bool) (ds : List D) (wv : D) : D := if 30 < ds.length then badT 0 "many" else match wv with
  | .int w => badT w "rule"
  | _ => if rg = true then badT 0 "ring" else goodT ps
theorem told_due {many : Int} {ps : List (Int × Int)} {ds : List D} {wv : D} {rg : Bool} (R : RulesOk many ps ds wv) (m1 : many ≤ 6) (hk : ∀ p ∈ ps, okR many p = true) (hr : rg = true ↔ ∃ a, Rch (· ∈ ps) a a) (d : D) (hd : d = .lst ds ∨ d = .tup ds) :
    ∃ ρ, m__law_told [.fz (.int many), .fz d] = .ok (.fz (due ps rg ds wv)) ρ := by
  have hw : ∀ x ∈ ds, wfR x := fun x hx => (R.wf x hx).1
  unfold due
  by_cases c : 30 < ds.length
  · rw [if_pos c]
    exact told_bad (check_many many d ds hd c)
  · rw [if_neg c]
    rcases R.ok with ⟨rfl, rs, rfl, rfl⟩ | ⟨w, rfl, w1, w2, w3⟩
    · have hk2 : ∀ r ∈ rs, okR many r.2 = true := fun r hr => hk r.2 (List.mem_map.mpr ⟨r, hr, rfl⟩)
      obtain ⟨g1, g2⟩ := check_good many (by omega) d rs hd hk2 (by simpa using c)
      have er : ringP rs = rg := by rw [Bool.eq_iff_iff, ringP_iff, hr]
      rw [er] at g1 g2
      dsimp only
      by_cases q : rg = true
      · rw [if_pos q]
        exact told_bad (g1 q)
      · rw [if_neg q]
        obtain ⟨ρ, e⟩ := g2 (by simpa using q)
        exact told_good e
    · dsimp only
      refine told_bad (check_bad many d ds hd hw (by omega) w ?_)
      refine L2.find_range (badB many ds) w1 ?_ fun i hi => ?_
      · unfold badB; rw [w3]; rfl
      · unfold badB
        have := w2 i hi
        cases q : rule? many (ds.getD i .non) with
        | none => rw [q] at this; cases this
        | some _ => rfl
theorem fine_badT {i : Int} (h : i.natAbs < 2 ^ 200) {w : Str} (hw : PyData.strOk w = true) (hl : w.length ≤ 10) : Fine 1 1000 (badT i w) := by
  refine fine_tup (m := 10) (l := 3) (fun x hx => ?_) (by simp) (by decide)
  simp at hx
  rcases hx with rfl | rfl | rfl
  · exact fine_str (by decide +kernel) (by decide +kernel)
  · exact fineI h
  · exact fine_str hw hl
theorem fine_pair {p : Int × Int} (h1 : p.1.natAbs < 2 ^ 200) (h2 : p.2.natAbs < 2 ^ 200) : Fine 1 10 (pairD p) := by
  refine fine_tup (m := 1) (l := 2) (fun x hx => ?_) (by simp) (by decide)
  simp at hx
  rcases hx with rfl | rfl <;> exact fineI (by assumption)
theorem okR_b {many : Int} {p : Int × Int} (h : okR many p = true) : 0 ≤ p.1 ∧ p.1 < many ∧ 0 ≤ p.2 ∧ p.2 < many ∧ p.1 ≠ p.2 := by
  simp only [okR, Bool.and_eq_true, decide_eq_true_eq] at h
  exact ⟨h.1.1.1, h.1.1.2, h.1.2.1, h.1.2.2, h.2⟩
theorem fine_goodT {ps : List (Int × Int)} {many : Int} (m1 : many ≤ 6) (hk : ∀ p ∈ ps, okR many p = true) (hl : ps.length ≤ 33) : Fine 3 1000 (goodT ps) := by
  have l1 : (sortP (ddP ps)).length ≤ 33 := by
    rw [(sortP_perm _).length_eq]
    have := foldP_len (ps.map fun p => (false, p)) []
    rw [List.foldl_map] at this
    simp at this
    exact Nat.le_trans this hl
  refine fine_tup (k := 2) (m := 400) (l := 2) (fun x hx => ?_) (by simp) (by decide)
  simp at hx
  rcases hx with rfl | rfl
  · exact fine_str (by decide +kernel) (by decide +kernel)
  · refine fine_tup (m := 10) (l := 33) (fun x hx => ?_) (by simpa using l1) (by decide)
    obtain ⟨p, hp, rfl⟩ := List.mem_map.mp hx
    have hp := (sortP_perm _).mem_iff.mp hp
    rw [mem_ddP] at hp
    have := okR_b (hk p hp)
    exact fine_pair (by omega) (by omega)
theorem srtSet_ok {ps : List (Int × Int)} {many : Int} (m1 : many ≤ 6) (hk : ∀ p ∈ ps, okR many p = true) (hl : ps.length ≤ 33) : srtSet (.lst (ps.map pairD)) = some (.fr (.lst ((sortP (ddP ps)).map pairD))) := by
  have hb : (ps.all fun p => decide (inB p)) = true := List.all_eq_true.mpr fun p hp => by
    have := okR_b (hk p hp)
    exact decide_eq_true ⟨by omega, by omega, by omega, by omega⟩
  have h64 : ps.length < 64 := by omega
  simp only [srtSet, pairs?_map, Option.bind, hb, h64, and_self, if_true]
section
variable {ns : List Int} {h : List D} {many : Int} {ps : List (Int × Int)} {ds : List D} {wv : D} {rg : Bool} {kept : Str} {z2 z3 z6 z7 z9 z10 z12 z13 z16 z17 z18 z19 : Option SV}
theorem t23 (H : Hok h) (R : RulesOk many ps ds wv) (m1 : many ≤ 6) (hk : ∀ p ∈ ps, okR many p = true) (hl : ps.length ≤ 33) (er : reprA (.lst ds) = some (.fz (.str kept))) :
    W (Nx (Inv ns)) (g_law_23 [some (.fz (.scr ns)), some (.ow false (.lst h)), z2, z3, some (.fz (.int many)), some (.ow false (.lst (ps.map pairD))), z6, z7, some (.fz (.bl rg)), z9, z10, some (.fz (.str kept)), some (.fz (due ps rg ds wv)), z13, some (.ow false (.lst ds)), some (.fz wv), z16, none, none, none]) := by
  have e1 : eqD (badT 0 "many") (.tup [.str "bad", .int 0, .str "many"]) = some (.fz (.bl true)) := eqD_self (fine_badT (i := 0) (w := "many") (by decide) (by decide +kernel) (by decide +kernel)) (by decide) (fun s => by simp [badT])
  have e2 : eqD (badT 0 "ring") (.tup [.str "bad", .int 0, .str "ring"]) = some (.fz (.bl true)) := eqD_self (fine_badT (i := 0) (w := "ring") (by decide) (by decide +kernel) (by decide +kernel)) (by decide) (fun s => by simp [badT])
  have e3 : eqD (goodT ps) (.tup [.str "good", .tup ((sortP (ddP ps)).map pairD)]) = some (.fz (.bl true)) := eqD_self (fine_goodT m1 hk hl) (by decide) (fun s => by simp [goodT])
  have es := srtSet_ok m1 hk hl
  by_cases c : (30 : Int) < ds.length
  · have c' : 30 < ds.length := by omega
    have ed : due ps rg ds wv = badT 0 "many" := by unfold due; rw [if_pos c']
    rw [ed]
    simp [g_law_23, c, e1, er]
    exact ⟨h, _, _, _, _, _, _, _, _, _, _, _, _, _, _, _, rfl, H⟩
  · have c' : ¬ 30 < ds.length := by omega
    rcases R.ok with ⟨rfl, _⟩ | ⟨w, rfl, w1, _⟩
    · cases rg with
      | true =>
        have ed : due ps true ds .non = badT 0 "ring" := by unfold due; rw [if_neg c']; rfl
        rw [ed]
        simp [g_law_23, c, e2, er]
        exact ⟨h, _, _, _, _, _, _, _, _, _, _, _, _, _, _, _, rfl, H⟩
      | false =>
        have ed : due ps false ds .non = goodT ps := by unfold due; rw [if_neg c']; rfl
        rw [ed]
        simp [g_law_23, c, e3, er, es]
        exact ⟨h, _, _, _, _, _, _, _, _, _, _, _, _, _, _, _, rfl, H⟩
    · have ed : due ps rg ds (.int w) = badT w "rule" := by unfold due; rw [if_neg c']
      have e4 : eqD (badT w "rule") (.tup [.str "bad", .int w, .str "rule"]) = some (.fz (.bl true)) := eqD_self (fine_badT (i := w) (w := "rule") (by have := R.l; omega) (by decide +kernel) (by decide +kernel)) (by decide) (fun s => by simp [badT])
      rw [ed]
      simp [g_law_23, c, e4, er]
      exact ⟨h, _, _, _, _, _, _, _, _, _, _, _, _, _, _, _, rfl, H⟩
end
end K01
end
noncomputable section
set_option maxHeartbeats 4000000
/-! K01k: a turn of the law: the rules are drawn and told. -/
namespace K01
open PySem PySem.Spec L2 DL

theorem reprA_of {x : D} {y : RV} (h : reprD x = some y) : reprA x = some y := by simp only [reprA, h]
theorem RulesOk.rp {many : Int} {ps : List (Int × Int)} {ds : List D} {wv : D} (R : RulesOk many ps ds wv) : ∃ s, reprA (.lst ds) = some (.fz (.str s)) := by
  obtain ⟨s, e⟩ := repr_lst (fine_lst (k := 1) (m := 10) (l := 35) (n := 385) (fun x hx => (R.wf x hx).2) R.l (by decide)) (by decide) (by decide)
  exact ⟨s, reprA_of e⟩
theorem RulesOk.app {many : Int} {ps : List (Int × Int)} {ds : List D} {w : Int} {d : D} (R : RulesOk many ps ds (.int w)) (h : ds.length ≤ 34) (hd : wrongD many d) : RulesOk many ps (ds ++ [d]) (.int w) := by
  refine ⟨by simp; omega, fun x hx => ?_, .inr ?_⟩
  · rcases List.mem_append.mp hx with hx | hx
    · exact R.wf x hx
    · rw [List.mem_singleton.mp hx]; exact ⟨hd.1, hd.2.2⟩
  · rcases R.ok with ⟨e, _⟩ | ⟨w', e, w1, w2, w3⟩
    · cases e
    · refine ⟨w', e, by simp; omega, fun i hi => ?_, ?_⟩
      · rw [List.getD_eq_getElem?_getD, List.getElem?_append_left (by omega), ← List.getD_eq_getElem?_getD]
        exact w2 i hi
      · rw [List.getD_eq_getElem?_getD, List.getElem?_append_left (by omega), ← List.getD_eq_getElem?_getD]
        exact w3
theorem RulesOk.base {many : Int} {rs : List (Bool × (Int × Int))} (hm : many ≤ 6) (hk : ∀ r ∈ rs, okR many r.2 = true) (h : rs.length ≤ 35) : RulesOk many (rs.map (·.2)) (rs.map rowD) .non := by
  refine ⟨by simpa using h, fun x hx => ?_, .inl ⟨rfl, rs, rfl, rfl⟩⟩
  obtain ⟨⟨b, p⟩, hr, rfl⟩ := List.mem_map.mp hx
  have k := okR_b (hk _ hr)
  dsimp only at k
  have f : ∀ y, y = D.int p.1 ∨ y = D.int p.2 → Fine 0 1 y := fun y hy => by rcases hy with rfl | rfl <;> exact fineI (by omega)
  cases b
  · exact ⟨⟨rfl, fun xs e y hy => by simp only [rowD, items2] at e; cases e; simp at hy; rcases hy with rfl | rfl <;> rfl⟩, fine_tup (m := 1) (l := 2) (fun y hy => f y (by simpa using hy)) (by simp) (by decide)⟩
  · exact ⟨⟨rfl, fun xs e y hy => by simp only [rowD, items2] at e; cases e; simp at hy; rcases hy with rfl | rfl <;> rfl⟩, fine_lst (m := 1) (l := 2) (fun y hy => f y (by simpa using hy)) (by simp) (by decide)⟩
theorem RulesOk.ins {many : Int} {rs : List (Bool × (Int × Int))} {d : D} {w : Nat} (hm : many ≤ 6) (hk : ∀ r ∈ rs, okR many r.2 = true) (h : rs.length ≤ 34) (hw : w ≤ rs.length) (hd : wrongD many d) : RulesOk many (rs.map (·.2)) ((rs.map rowD).take w ++ d :: (rs.map rowD).drop w) (.int (w : Int)) := by
  have B := RulesOk.base hm hk (by omega)
  refine ⟨by simp; omega, fun x hx => ?_, .inr ⟨w, rfl, by simp; omega, fun i hi => ?_, ?_⟩⟩
  · rcases List.mem_append.mp hx with hx | hx
    · exact B.wf x (List.mem_of_mem_take hx)
    · rcases List.mem_cons.mp hx with rfl | hx
      · exact ⟨hd.1, hd.2.2⟩
      · exact B.wf x (List.mem_of_mem_drop hx)
  · have hi2 : i < rs.length := by omega
    rw [List.getD_eq_getElem?_getD, List.getElem?_append_left (by simp; omega), List.getElem?_take_of_lt hi, List.getElem?_map, List.getElem?_eq_getElem hi2]
    show (rule? many (rowD (rs[i].1, rs[i].2))).isSome = true
    rw [rule?_of (hk _ (List.getElem_mem hi2))]; rfl
  · rw [List.getD_eq_getElem?_getD, List.getElem?_append_right (by simp; omega)]
    have : w - ((rs.map rowD).take w).length = 0 := by simp; omega
    rw [this]
    exact hd.2.1
section
variable {ns : List Int} {h : List D} {many : Int} {ps : List (Int × Int)} {ds : List D} {wv : D} {rg : Bool} {kept : Str} {z2 z3 z6 z7 z9 z10 z11 z12 z13 z14 z15 z16 z17 z18 z19 : Option SV}
theorem t22 (H : Hok h) (R : RulesOk many ps ds wv) (m1 : many ≤ 6) (hk : ∀ p ∈ ps, okR many p = true) (hl : ps.length ≤ 33) (hr : rg = true ↔ ∃ a, Rch (· ∈ ps) a a) (er : reprA (.lst ds) = some (.fz (.str kept))) :
    W (Nx (Inv ns)) (g_law_22 [some (.fz (.scr ns)), some (.ow false (.lst h)), z2, z3, some (.fz (.int many)), some (.ow false (.lst (ps.map pairD))), z6, z7, some (.fz (.bl rg)), z9, z10, some (.fz (.str kept)), z12, z13, some (.ow false (.lst ds)), some (.fz wv), z16, none, none, none]) := by
  obtain ⟨ρl, tl⟩ := told_due R m1 hk hr (.lst ds) (.inl rfl)
  obtain ⟨ρt, tt⟩ := told_due R m1 hk hr (.tup ds) (.inr rfl)
  simp [g_law_22]
  refine cw (asList_s H (.own ds)) ?_
  rintro _ _ ⟨h1, ρ1, (rfl | rfl), rfl, H1⟩
  · simp [tl]
    exact t23 H1 R m1 hk hl er
  · simp [tt]
    exact t23 H1 R m1 hk hl er
theorem t21 (H : Hok h) (R : RulesOk many ps ds wv) (m1 : many ≤ 6) (hk : ∀ p ∈ ps, okR many p = true) (hl : ps.length ≤ 33) (hr : rg = true ↔ ∃ a, Rch (· ∈ ps) a a) :
    W (Nx (Inv ns)) (g_law_21 [some (.fz (.scr ns)), some (.ow false (.lst h)), z2, z3, some (.fz (.int many)), some (.ow false (.lst (ps.map pairD))), z6, z7, some (.fz (.bl rg)), z9, z10, z11, z12, z13, some (.ow false (.lst ds)), some (.fz wv), z16, none, none, none]) := by
  obtain ⟨s, er⟩ := R.rp
  simp [g_law_21, er]
  exact t22 H R m1 hk hl hr er
theorem t20 (H : Hok h) (R : RulesOk many ps ds wv) (hd : ds.length ≤ 34) (m0 : 1 ≤ many) (m1 : many ≤ 6) (hk : ∀ p ∈ ps, okR many p = true) (hl : ps.length ≤ 33) (hr : rg = true ↔ ∃ a, Rch (· ∈ ps) a a) :
    W (Nx (Inv ns)) (g_law_20 [some (.fz (.scr ns)), some (.ow false (.lst h)), z2, z3, some (.fz (.int many)), some (.ow false (.lst (ps.map pairD))), z6, z7, some (.fz (.bl rg)), z9, z10, z11, z12, z13, some (.ow false (.lst ds)), some (.fz wv), z16, none, none, none]) := by
  have z : ds.length < sizeLine := szk' (by omega)
  rcases R.ok with ⟨rfl, _⟩ | ⟨w, rfl, _⟩
  · simp [g_law_20]
    exact t21 H R m1 hk hl hr
  · simp [g_law_20]
    refine draw H (by decide) (by decide) fun v h1 ρ1 H1 v0 v1 => ?_
    simp
    by_cases c : v = 0
    · simp [c]
      refine cw (wrong_s H1 m0 m1) ?_
      rintro _ _ ⟨d, h2, ρ2, (rfl | ⟨xs, rfl, rfl⟩), rfl, H2, wd⟩
      · simp [z]
        exact t21 H2 (R.app hd wd) m1 hk hl hr
      · simp [z]
        exact t21 H2 (R.app hd wd) m1 hk hl hr
    · simp [c]
      exact t21 H1 R m1 hk hl hr
end
end K01
end
noncomputable section
set_option maxHeartbeats 4000000
/-! K01l: a turn of the law: a wrong rule put in, rows as lists or tuples. -/
namespace K01
open PySem PySem.Spec L2 DL

section
variable {ns : List Int} {h : List D} {many : Int} {ps : List (Int × Int)} {rs : List (Bool × (Int × Int))} {rg : Bool} {z2 z3 z6 z7 z9 z10 z11 z12 z13 z14 z15 z16 z17 z18 z19 : Option SV}
theorem t18 (H : Hok h) (er : rs.map (·.2) = ps) (m0 : 1 ≤ many) (m1 : many ≤ 6) (hk : ∀ p ∈ ps, okR many p = true) (hl : ps.length ≤ 33) (hr : rg = true ↔ ∃ a, Rch (· ∈ ps) a a) :
    W (Nx (Inv ns)) (g_law_18 [some (.fz (.scr ns)), some (.ow false (.lst h)), z2, z3, some (.fz (.int many)), some (.ow false (.lst (ps.map pairD))), z6, z7, some (.fz (.bl rg)), z9, z10, z11, z12, z13, some (.ow false (.lst (rs.map rowD))), some (.fz .non), z16, none, none, none]) := by
  have rl : rs.length ≤ 33 := by rw [← er] at hl; simpa using hl
  have hk2 : ∀ r ∈ rs, okR many r.2 = true := fun r hr => hk r.2 (by rw [← er]; exact List.mem_map.mpr ⟨r, hr, rfl⟩)
  have RB := RulesOk.base m1 hk2 (by omega)
  rw [er] at RB
  simp [g_law_18]
  refine draw H (by decide) (by decide) fun v h1 ρ1 H1 v0 v1 => ?_
  simp
  by_cases c : v = 0
  · simp [c, g_law_19]
    refine draw H1 (by omega) (by omega) fun w h2 ρ2 H2 w0 w1 => ?_
    simp
    refine cw (wrong_s H2 m0 m1) ?_
    have z : rs.length < sizeLine := szk' (by omega)
    have wl : w ≤ (rs.length : Int) := by omega
    have wb : w < 9223372036854775808 := by omega
    have ww : ((w.toNat : Nat) : Int) = w := by omega
    rintro _ _ ⟨d, h3, ρ3, (rfl | ⟨xs, rfl, rfl⟩), rfl, H3, wd⟩
    · have R := RulesOk.ins (w := w.toNat) m1 hk2 (by omega) (by omega) wd
      rw [ww, er] at R
      simp [insM, z, w0, wl, wb]
      have g := t20 (ns := ns) (z2 := z2) (z3 := z3) (z6 := z6) (z7 := z7) (z9 := z9) (z10 := z10) (z11 := z11) (z12 := z12) (z13 := z13) (z16 := z16) H3 R (by simp; omega) m0 m1 hk hl hr
      simpa using g
    · have R := RulesOk.ins (w := w.toNat) m1 hk2 (by omega) (by omega) wd
      rw [ww, er] at R
      simp [insM, z, w0, wl, wb]
      have g := t20 (ns := ns) (z2 := z2) (z3 := z3) (z6 := z6) (z7 := z7) (z9 := z9) (z10 := z10) (z11 := z11) (z12 := z12) (z13 := z13) (z16 := z16) H3 R (by simp; omega) m0 m1 hk hl hr
      simpa using g
  · simp [c]
    exact t20 H1 RB (by simp; omega) m0 m1 hk hl hr
theorem rows_loop {s0 z4 z5 : Option SV} : ∀ (qs : List (Int × Int)) (acc : List D) (h : List D), Hok h → acc.length + qs.length ≤ 1000 → ∃ (rs : List (Bool × (Int × Int))) (h' : List D), compL (tgN 17) cYes (eCallD m__law_as_list [] [(eN 1), (eN 17)]) [17] (qs.map pairD) acc [s0, some (.ow false (.lst h)), z2, z3, z4, z5, z6, z7, some (.fz (.bl rg)), z9, z10, z11, z12, z13, z14, z15, z16, none, z18, z19] = .ok (acc ++ rs.map rowD) [s0, some (.ow false (.lst h')), z2, z3, z4, z5, z6, z7, some (.fz (.bl rg)), z9, z10, z11, z12, z13, z14, z15, z16, none, z18, z19] ∧ rs.map (·.2) = qs ∧ Hok h'
  | [], acc, h, H, _ => ⟨[], h, by simp [compL], rfl, H⟩
  | q :: qs, acc, h, H, hz => by
    obtain ⟨_, _, ea, h1, ρ1, er, rfl, H1⟩ := asList_s (s := .fz (pairD q)) (xs := [.int q.1, .int q.2]) H (.tup _)
    have z : acc.length < sizeLine := szk' (by simp at hz; omega)
    rcases er with rfl | rfl
    · obtain ⟨rs, h', e, k, H'⟩ := rows_loop (s0 := s0) (z4 := z4) (z5 := z5) qs (acc ++ [rowD (true, q)]) h1 H1 (by simp at hz ⊢; omega)
      refine ⟨(true, q) :: rs, h', ?_, by simp [k], H'⟩
      rw [List.map_cons, compL]
      simp [ea, z]
      simpa [rowD] using e
    · obtain ⟨rs, h', e, k, H'⟩ := rows_loop (s0 := s0) (z4 := z4) (z5 := z5) qs (acc ++ [rowD (false, q)]) h1 H1 (by simp at hz ⊢; omega)
      refine ⟨(false, q) :: rs, h', ?_, by simp [k], H'⟩
      rw [List.map_cons, compL]
      simp [ea, z]
      simpa [rowD] using e
theorem t16 (H : Hok h) (m0 : 1 ≤ many) (m1 : many ≤ 6) (hk : ∀ p ∈ ps, okR many p = true) (hl : ps.length ≤ 33) (hr : rg = true ↔ ∃ a, Rch (· ∈ ps) a a) :
    W (Nx (Inv ns)) (g_law_16 [some (.fz (.scr ns)), some (.ow false (.lst h)), z2, z3, some (.fz (.int many)), some (.ow false (.lst (ps.map pairD))), z6, z7, some (.fz (.bl rg)), z9, z10, z11, z12, z13, z14, z15, z16, none, none, none]) := by
  obtain ⟨rs, h', e, k, H'⟩ := rows_loop (s0 := some (.fz (.scr ns))) (z2 := z2) (z3 := z3) (z4 := some (.fz (.int many))) (z5 := some (.lk (.lst (ps.map pairD)))) (z6 := z6) (z7 := z7) (rg := rg) (z9 := z9) (z10 := z10) (z11 := z11) (z12 := z12) (z13 := z13) (z14 := z14) (z15 := z15) (z16 := z16) (z18 := none) (z19 := none) ps [] h H (by simp; omega)
  simp at e
  simp [g_law_16, e, g_law_17]
  exact t18 H' k m0 m1 hk hl hr
end
end K01
end
noncomputable section
set_option maxHeartbeats 4000000
/-! K01m: a turn of the law, its first half: the closure. -/
namespace K01
open PySem PySem.Spec L2 DL

/-! ### the plain facts -/
def sh (f : Int) (p : Int × Int) : Int × Int := (p.1 + f, p.2 + f)
theorem rch_sh {ps : List (Int × Int)} {f a b : Int} : Rch (· ∈ ps.map (sh f)) a b ↔ Rch (· ∈ ps) (a - f) (b - f) := by
  constructor
  · intro h
    induction h with
    | one e =>
      obtain ⟨p, hp, e⟩ := List.mem_map.mp e
      simp only [sh, Prod.mk.injEq] at e
      refine .one ?_
      rw [← e.1, ← e.2]
      simpa using hp
    | cons e _ ih =>
      obtain ⟨p, hp, e⟩ := List.mem_map.mp e
      simp only [sh, Prod.mk.injEq] at e
      refine .cons (b := p.2) ?_ (by rw [← e.2] at ih; simpa using ih)
      rw [← e.1]
      simpa using hp
  · intro h
    generalize ha : a - f = a' at h
    generalize hb : b - f = b' at h
    induction h generalizing a with
    | one e =>
      refine .one (List.mem_map.mpr ⟨_, e, ?_⟩)
      exact Prod.ext (by simp only [sh]; omega) (by simp only [sh]; omega)
    | @cons x y z e _ ih =>
      refine .cons (b := y + f) (List.mem_map.mpr ⟨_, e, ?_⟩) (ih (by omega) hb)
      exact Prod.ext (by simp only [sh]; omega) (by simp only [sh])
theorem rch_src {ps : List (Int × Int)} {many : Int} (hk : ∀ p ∈ ps, okR many p = true) {a b : Int} (h : Rch (· ∈ ps) a b) : (0 ≤ a ∧ a < many) ∧ 0 ≤ b ∧ b < many := by
  induction h with
  | one e => have := okR_b (hk _ e); exact ⟨⟨this.1, this.2.1⟩, this.2.2.1, this.2.2.2.1⟩
  | cons e _ ih => have := okR_b (hk _ e); exact ⟨⟨this.1, this.2.1⟩, ih.2⟩
/-- strictly ascending pairs -/
def Asc (qs : List (Int × Int)) : Prop := qs.Pairwise fun x y => SrtO.lexB x y = true
theorem Asc.nd {qs : List (Int × Int)} (h : Asc qs) : qs.Nodup := h.imp fun {x y} k e => by
  subst e
  have := SrtO.lexB_iff.mp k
  omega
theorem Asc.le {qs : List (Int × Int)} (h : Asc qs) : qs.Pairwise fun x y => SrtO.lexB y x = false := h.imp fun {x y} k => by
  have := SrtO.lexB_iff.mp k
  exact SrtO.lexB_no.mpr (by omega)
/-- the due couples of these roles -/
structure Due (ps : List (Int × Int)) (done : List Int) (qs : List (Int × Int)) : Prop where
  asc : Asc qs
  mem : ∀ a b, (a, b) ∈ qs ↔ a ∈ done ∧ Rch (· ∈ ps) a b
theorem Due.step {ps : List (Int × Int)} {done : List Int} {qs : List (Int × Int)} (D : Due ps done qs) {r : Int} (hr : ∀ x ∈ done, x < r) {g : List Int} (gn : g.Nodup) (gm : ∀ x, x ∈ g ↔ Rch (· ∈ ps) r x) : Due ps (done ++ [r]) (qs ++ (sortI g).map fun x => (r, x)) := by
  have sn : (sortI g).Nodup := (sortI_perm g).nodup_iff.mpr gn
  have ss : (sortI g).Pairwise (· < ·) := ((sortI_sorted g).and sn).imp fun ⟨h1, h2⟩ => by omega
  refine ⟨List.pairwise_append.mpr ⟨D.asc, ?_, fun x hx y hy => ?_⟩, fun a b => ?_⟩
  · rw [List.pairwise_map]
    refine List.Pairwise.imp (fun {a b} h => ?_) ss
    exact SrtO.lexB_iff.mpr (.inr ⟨rfl, h⟩)
  · obtain ⟨z, _, rfl⟩ := List.mem_map.mp hy
    have := (D.mem x.1 x.2).mp hx
    exact SrtO.lexB_iff.mpr (.inl (hr _ this.1))
  · rw [List.mem_append, D.mem, List.mem_append, List.mem_singleton]
    constructor
    · rintro (⟨h1, h2⟩ | h)
      · exact ⟨.inl h1, h2⟩
      · obtain ⟨z, hz, e⟩ := List.mem_map.mp h
        simp only [Prod.mk.injEq] at e
        obtain ⟨rfl, rfl⟩ := e
        exact ⟨.inr rfl, (gm _).mp ((sortI_perm g).mem_iff.mp hz)⟩
    · rintro ⟨h1 | rfl, h2⟩
      · exact .inl ⟨h1, h2⟩
      · exact .inr (List.mem_map.mpr ⟨b, (sortI_perm g).mem_iff.mpr ((gm b).mpr h2), rfl⟩)
/-- all the due couples -/
structure Dues (ps qs : List (Int × Int)) : Prop where
  asc : Asc qs
  mem : ∀ a b, (a, b) ∈ qs ↔ Rch (· ∈ ps) a b
theorem Due.all {ps qs : List (Int × Int)} {many : Int} (hk : ∀ p ∈ ps, okR many p = true) (D : Due ps (upTo many) qs) : Dues ps qs := ⟨D.asc, fun a b => by
  rw [D.mem, mem_upTo]
  exact ⟨fun h => h.2, fun h => ⟨(rch_src hk h).1, h⟩⟩⟩
theorem Dues.ring {ps qs : List (Int × Int)} (D : Dues ps qs) : ((qs.filter fun p => decide (p.1 = p.2)) ≠ []) ↔ ∃ a, Rch (· ∈ ps) a a := by
  constructor
  · intro h
    obtain ⟨p, hp⟩ := List.exists_mem_of_ne_nil _ h
    obtain ⟨h1, h2⟩ := List.mem_filter.mp hp
    have e : p.1 = p.2 := of_decide_eq_true h2
    refine ⟨p.1, (D.mem p.1 p.1).mp ?_⟩
    have : (p.1, p.1) = p := Prod.ext rfl e
    rw [this]; exact h1
  · rintro ⟨a, h⟩ e
    have : (a, a) ∈ qs.filter fun p => decide (p.1 = p.2) := List.mem_filter.mpr ⟨(D.mem a a).mpr h, by simp⟩
    rw [e] at this; cases this
theorem Dues.len {ps qs : List (Int × Int)} {many : Int} (m1 : many ≤ 6) (hk : ∀ p ∈ ps, okR many p = true) (D : Dues ps qs) : qs.length ≤ 36 := by
  have hn : (qs.map fun p => p.1 * 6 + p.2).Nodup := by
    rw [List.Nodup, List.pairwise_map]
    refine D.asc.nd.imp_of_mem fun {x y} hx hy ne e => ne ?_
    have h1 := rch_src hk ((D.mem x.1 x.2).mp hx)
    have h2 := rch_src hk ((D.mem y.1 y.2).mp hy)
    refine Prod.ext ?_ ?_ <;> omega
  have := nd_len _ (upTo 36) hn fun x hx => by
    obtain ⟨p, hp, rfl⟩ := List.mem_map.mp hx
    have := rch_src hk ((D.mem p.1 p.2).mp hp)
    exact mem_upTo.mpr (by omega)
  rw [List.length_map, upTo_len] at this
  exact this
theorem Dues.closed {ps qs : List (Int × Int)} {f : Int} {rs : List (Bool × (Int × Int))} (D : Dues ps qs) (e : rs.map (·.2) = ps.map (sh f)) : sortP (closed rs) = qs.map (sh f) := by
  have a2 : (qs.map (sh f)).Pairwise fun x y => SrtO.lexB y x = false := by
    rw [List.pairwise_map]
    refine D.asc.imp fun {x y} k => ?_
    have := SrtO.lexB_iff.mp k
    simp only [sh]
    exact SrtO.lexB_no.mpr (by dsimp only; omega)
  refine sortedP_one ((sortP_perm _).trans ((List.perm_ext_iff_of_nodup (closed_nd rs) ?_).mpr fun p => ?_)) (sortP_sorted _) a2
  · rw [List.Nodup, List.pairwise_map]
    refine D.asc.nd.imp fun {x y} ne e => ne ?_
    simp only [sh, Prod.mk.injEq] at e
    refine Prod.ext ?_ ?_ <;> omega
  · have h1 : p ∈ K01.closed rs ↔ Rch (· ∈ rs.map (·.2)) p.1 p.2 := mem_closed
    rw [h1, e, rch_sh, ← D.mem, List.mem_map]
    constructor
    · intro h
      exact ⟨_, h, by simp only [sh]; exact Prod.ext (by show p.1 - f + f = _; omega) (by show p.2 - f + f = _; omega)⟩
    · rintro ⟨q, hq, rfl⟩
      simpa [sh] using hq
end K01
end
noncomputable section
set_option maxHeartbeats 4000000
/-! K01n: a turn of the law: the closure, evaluated. -/
namespace K01
open PySem PySem.Spec L2 DL

theorem mul_mid {x y : Int} (hx : x.natAbs < 2 ^ 64) (hy : y.natAbs < 2 ^ 200) : mulD (.int x) (.int y) = some (.fz (.int (x * y))) := by
  have h1 := log2_small hx (by decide)
  have h2 := log2_small hy (by decide)
  simp only [mulD]
  rw [if_pos (by omega)]
theorem neB {b : Bool} : neD (.bl b) (.bl b) = some (.fz (.bl false)) := neD_self (k := 0) (n := 0) fine_bl (by decide) (fun s => by simp)
/-- small numbers -/
def Sml (f : Int) : Prop := f.natAbs < 2 ^ 150
theorem fine_sh {f : Int} (hf : Sml f) {p : Int × Int} (h1 : 0 ≤ p.1 ∧ p.1 < 6) (h2 : 0 ≤ p.2 ∧ p.2 < 6) (b : Bool) : Fine 1 10 (rowD (b, sh f p)) := by
  have hb : ∀ i : Int, 0 ≤ i → i < 6 → (i + f).natAbs < 2 ^ 200 := fun i i0 i1 => by
    have : (2 : Nat) ^ 150 + 6 < 2 ^ 200 := by decide
    unfold Sml at hf
    omega
  have f1 : ∀ y, y = D.int (sh f p).1 ∨ y = D.int (sh f p).2 → Fine 0 1 y := fun y hy => by rcases hy with rfl | rfl <;> exact fineI (hb _ (by first | exact h1.1 | exact h2.1) (by first | exact h1.2 | exact h2.2))
  cases b
  · exact fine_tup (m := 1) (l := 2) (fun y hy => f1 y (by simpa using hy)) (by simp) (by decide)
  · exact fine_lst (m := 1) (l := 2) (fun y hy => f1 y (by simpa using hy)) (by simp) (by decide)
section
variable {ns : List Int} {h : List D} {many far : Int} {ps qs : List (Int × Int)} {rs : List (Bool × (Int × Int))} {rg : Bool} {kept : Str} {z2 z3 z6 z7 z8 z9 z10 z11 z12 z13 z14 z15 z16 : Option SV}
theorem t15 (H : Hok h) (m0 : 1 ≤ many) (m1 : many ≤ 6) (hk : ∀ p ∈ ps, okR many p = true) (hl : ps.length ≤ 33) (hr : rg = true ↔ ∃ a, Rch (· ∈ ps) a a) {M : List D} (er : reprA (.lst M) = some (.fz (.str kept))) :
    W (Nx (Inv ns)) (g_law_15 [some (.fz (.scr ns)), some (.ow false (.lst h)), z2, z3, some (.fz (.int many)), some (.ow false (.lst (ps.map pairD))), z6, z7, some (.fz (.bl rg)), z9, some (.ow false (.lst M)), some (.fz (.str kept)), z12, some (.fz (.bl rg)), z14, z15, z16, none, none, none]) := by
  simp [g_law_15, neB, er, isiD, tyD, List.lookup]
  exact t16 H m0 m1 hk hl hr
theorem shift_len {rs : List (Bool × (Int × Int))} (m1 : many ≤ 6) (hk : ∀ p ∈ ps, okR many p = true) (e : rs.map (·.2) = ps.map (sh far)) : (rs.foldl addR []).length ≤ 60 := by
  have nd : (rs.foldl addR []).Nodup := by
    have : ∀ (rs : List (Bool × (Int × Int))) (acc : List Int), acc.Nodup → (rs.foldl addR acc).Nodup := by
      intro rs
      induction rs with
      | nil => intro acc h; exact h
      | cons r rs ih => intro acc h; exact ih _ (addI_nd (addI_nd h))
    exact this rs [] List.nodup_nil
  have := nd_len _ ((upTo 6).map (· + far)) nd fun x hx => by
    rw [mem_foldR] at hx
    rcases hx with hx | ⟨r, hr, hx⟩
    · cases hx
    · have : r.2 ∈ ps.map (sh far) := by rw [← e]; exact List.mem_map.mpr ⟨r, hr, rfl⟩
      obtain ⟨p, hp, ep⟩ := List.mem_map.mp this
      have k := okR_b (hk p hp)
      rw [List.mem_map]
      rcases hx with rfl | rfl
      · exact ⟨p.1, mem_upTo.mpr ⟨k.1, by omega⟩, by rw [← ep]; rfl⟩
      · exact ⟨p.2, mem_upTo.mpr ⟨k.2.2.1, by omega⟩, by rw [← ep]; rfl⟩
  rw [List.length_map, upTo_len] at this
  have e6 : (6 : Int).toNat = 6 := rfl
  omega
theorem t14 (H : Hok h) (m0 : 1 ≤ many) (m1 : many ≤ 6) (hk : ∀ p ∈ ps, okR many p = true) (hl : ps.length ≤ 33) (hr : rg = true ↔ ∃ a, Rch (· ∈ ps) a a) (er : reprA (.lst (rs.map rowD)) = some (.fz (.str kept))) (es : rs.map (·.2) = ps.map (sh far)) :
    W (Nx (Inv ns)) (g_law_14 [some (.fz (.scr ns)), some (.ow false (.lst h)), z2, z3, some (.fz (.int many)), some (.ow false (.lst (ps.map pairD))), z6, z7, some (.fz (.bl rg)), z9, some (.ow false (.lst (rs.map rowD))), some (.fz (.str kept)), z12, z13, z14, z15, z16, none, none, none]) := by
  have rl : rs.length ≤ 33 := by
    have := congrArg List.length es
    simp at this; omega
  have eq : ringP rs = rg := by
    rw [Bool.eq_iff_iff, ringP_iff, hr, es]
    constructor
    · rintro ⟨a, r⟩; exact ⟨a - far, rch_sh.mp r⟩
    · rintro ⟨a, r⟩; exact ⟨a + far, rch_sh.mpr (by simpa using r)⟩
  simp [g_law_14]
  refine cw (ring_s (.own _) (by omega) (shift_len m1 hk es)) ?_
  rintro _ _ ⟨rfl, ρ', rfl⟩
  rw [eq]
  simp
  exact t15 H m0 m1 hk hl hr er
theorem sh_loop {s0 s1 s6 z4 z5 : Option SV} : ∀ (qs : List (Int × Int)) (acc : List D) (x18 x19 : Option SV), acc.length + qs.length ≤ 1000 → ∃ y18 y19, loopF (tgU 2 (tgCons (tgN 18) (tgCons (tgN 19) tgNil))) cYes (emL (eTup [(eOp addD (eN 18) (eN 9)), (eOp addD (eN 19) (eN 9))])) (qs.map pairD) acc [s0, s1, z2, z3, z4, z5, s6, z7, z8, some (.fz (.int far)), z10, z11, z12, z13, z14, z15, z16, none, x18, x19] = .ok (acc ++ (qs.map (sh far)).map pairD) [s0, s1, z2, z3, z4, z5, s6, z7, z8, some (.fz (.int far)), z10, z11, z12, z13, z14, z15, z16, none, y18, y19]
  | [], acc, x18, x19, _ => ⟨x18, x19, by simp⟩
  | q :: qs, acc, x18, x19, hz => by
    have z : acc.length < sizeLine := szk' (by simp at hz; omega)
    obtain ⟨y18, y19, e⟩ := sh_loop (s0 := s0) (s1 := s1) (s6 := s6) (z4 := z4) (z5 := z5) qs (acc ++ [pairD (sh far q)]) (some (.fz (.int q.1))) (some (.fz (.int q.2))) (by simp at hz ⊢; omega)
    refine ⟨y18, y19, ?_⟩
    rw [List.map_cons, loop_cons]
    simp [pairD, z]
    simpa [pairD, sh] using e
theorem t13 (H : Hok h) (m0 : 1 ≤ many) (m1 : many ≤ 6) (hk : ∀ p ∈ ps, okR many p = true) (hl : ps.length ≤ 33) (hr : rg = true ↔ ∃ a, Rch (· ∈ ps) a a) (er : reprA (.lst (rs.map rowD)) = some (.fz (.str kept))) (es : rs.map (·.2) = ps.map (sh far)) (D' : Dues ps qs) (hf : Sml far) :
    W (Nx (Inv ns)) (g_law_13 [some (.fz (.scr ns)), some (.ow false (.lst h)), z2, z3, some (.fz (.int many)), some (.ow false (.lst (ps.map pairD))), some (.ow false (.lst (qs.map pairD))), z7, some (.fz (.bl rg)), some (.fz (.int far)), some (.ow false (.lst (rs.map rowD))), some (.fz (.str kept)), some (.fz (.tup ((qs.map (sh far)).map pairD))), z13, z14, z15, z16, none, none, none]) := by
  have ql := D'.len m1 hk
  obtain ⟨y18, y19, e⟩ := sh_loop (far := far) (z2 := z2) (z3 := z3) (z7 := z7) (z8 := some (.fz (.bl rg))) (z10 := some (.ow false (.lst (rs.map rowD)))) (z11 := some (.fz (.str kept))) (z12 := some (.fz (.tup ((qs.map (sh far)).map pairD)))) (z13 := z13) (z14 := z14) (z15 := z15) (z16 := z16) (s0 := some (.fz (.scr ns))) (s1 := some (.ow false (.lst h))) (s6 := some (.lk (.lst (qs.map pairD)))) (z4 := some (.fz (.int many))) (z5 := some (.ow false (.lst (ps.map pairD)))) qs [] none none (by simp; omega)
  rw [List.nil_append] at e
  have fn : Fine 2 1000 (.tup ((qs.map (sh far)).map pairD)) := fine_tup (m := 10) (l := 36) (fun x hx => by
    obtain ⟨p, hp, rfl⟩ := List.mem_map.mp hx
    obtain ⟨q, hq, rfl⟩ := List.mem_map.mp hp
    have := rch_src hk ((D'.mem q.1 q.2).mp hq)
    exact fine_sh hf ⟨this.1.1, by omega⟩ ⟨this.2.1, by omega⟩ false) (by simpa using ql) (by decide)
  have ne := neD_self fn (by decide) (fun s => by simp)
  generalize (qs.map (sh far)).map pairD = X at e ne
  simp [g_law_13, e, ne, isiD, tyD, List.lookup]
  exact t14 H m0 m1 hk hl hr er es
end
end K01
end
noncomputable section
set_option maxHeartbeats 4000000
/-! K01o: a turn of the law, whole. -/
namespace K01
open PySem PySem.Spec L2 DL

theorem ne_of_eq {a b : List D} {c : Bool} (h : eqD (.lst a) (.lst b) = some (.fz (.bl c))) : neD (.lst a) (.lst b) = some (.fz (.bl (!c))) := by
  simp only [eqD, neD] at h ⊢
  cases q : deq (.lst a) (.lst b) with
  | none => rw [q] at h; cases h
  | some x => rw [q] at h; cases h; rfl
section
variable {ns : List Int} {h : List D} {many far : Int} {ps qs : List (Int × Int)} {rs : List (Bool × (Int × Int))} {rg : Bool} {kept : Str} {z2 z3 z6 z7 z8 z9 z10 z11 z12 z13 z14 z15 z16 : Option SV}
theorem t12 (H : Hok h) (m0 : 1 ≤ many) (m1 : many ≤ 6) (hk : ∀ p ∈ ps, okR many p = true) (hl : ps.length ≤ 33) (hr : rg = true ↔ ∃ a, Rch (· ∈ ps) a a) (er : reprA (.lst (rs.map rowD)) = some (.fz (.str kept))) (es : rs.map (·.2) = ps.map (sh far)) (D' : Dues ps qs) (hf : Sml far) :
    W (Nx (Inv ns)) (g_law_12 [some (.fz (.scr ns)), some (.ow false (.lst h)), z2, z3, some (.fz (.int many)), some (.ow false (.lst (ps.map pairD))), some (.ow false (.lst (qs.map pairD))), z7, some (.fz (.bl rg)), some (.fz (.int far)), some (.ow false (.lst (rs.map rowD))), some (.fz (.str kept)), z12, z13, z14, z15, z16, none, none, none]) := by
  have rl : rs.length ≤ 33 := by
    have := congrArg List.length es
    simp at this; omega
  have sl := shift_len m1 hk es
  have ce := D'.closed es
  simp [g_law_12]
  refine cw (asList_s H (.own _)) ?_
  rintro _ _ ⟨h1, ρ1, (rfl | rfl), rfl, H1⟩
  · simp
    refine cw (closure_s (rs := rs) (.lst _) (by omega) sl) ?_
    rintro _ _ ⟨rfl, ρ', rfl⟩
    rw [ce]
    simp
    have g := t13 (ns := ns) (kept := kept) (z2 := z2) (z3 := z3) (z7 := z7) (z13 := z13) (z14 := z14) (z15 := z15) (z16 := z16) H1 m0 m1 hk hl hr er es D' hf
    simpa using g
  · simp
    refine cw (closure_s (rs := rs) (.tup _) (by omega) sl) ?_
    rintro _ _ ⟨rfl, ρ', rfl⟩
    rw [ce]
    simp
    have g := t13 (ns := ns) (kept := kept) (z2 := z2) (z3 := z3) (z7 := z7) (z13 := z13) (z14 := z14) (z15 := z15) (z16 := z16) H1 m0 m1 hk hl hr er es D' hf
    simpa using g
theorem t11 (H : Hok h) (m0 : 1 ≤ many) (m1 : many ≤ 6) (hk : ∀ p ∈ ps, okR many p = true) (hl : ps.length ≤ 33) (hr : rg = true ↔ ∃ a, Rch (· ∈ ps) a a) (es : rs.map (·.2) = ps.map (sh far)) (D' : Dues ps qs) (hf : Sml far) :
    W (Nx (Inv ns)) (g_law_11 [some (.fz (.scr ns)), some (.ow false (.lst h)), z2, z3, some (.fz (.int many)), some (.ow false (.lst (ps.map pairD))), some (.ow false (.lst (qs.map pairD))), z7, some (.fz (.bl rg)), some (.fz (.int far)), some (.ow false (.lst (rs.map rowD))), z11, z12, z13, z14, z15, z16, none, none, none]) := by
  have rl : rs.length ≤ 33 := by
    have := congrArg List.length es
    simp at this; omega
  obtain ⟨s, e⟩ := repr_lst (xs := rs.map rowD) (fine_lst (k := 1) (m := 10) (l := 35) (n := 385) (fun x hx => by
    obtain ⟨⟨b, q⟩, hr, rfl⟩ := List.mem_map.mp hx
    have : q ∈ ps.map (sh far) := by rw [← es]; exact List.mem_map.mpr ⟨_, hr, rfl⟩
    obtain ⟨p, hp, rfl⟩ := List.mem_map.mp this
    have := okR_b (hk p hp)
    exact fine_sh hf ⟨this.1, by omega⟩ ⟨this.2.2.1, by omega⟩ b) (by simp; omega) (by decide)) (by decide) (by decide)
  have er := reprA_of e
  simp [g_law_11, er]
  exact t12 H m0 m1 hk hl hr er es D' hf
theorem mv_loop {s0 s6 z4 z5 : Option SV} : ∀ (qs : List (Int × Int)) (acc : List D) (h : List D) (x18 x19 : Option SV), Hok h → acc.length + qs.length ≤ 1000 → ∃ (rs : List (Bool × (Int × Int))) (h' : List D) (y18 y19 : Option SV), loopF (tgU 2 (tgCons (tgN 18) (tgCons (tgN 19) tgNil))) cYes (emL (eCallD m__law_as_list [] [(eN 1), (eTup [(eOp addD (eN 18) (eN 9)), (eOp addD (eN 19) (eN 9))])])) (qs.map pairD) acc [s0, some (.ow false (.lst h)), z2, z3, z4, z5, s6, z7, z8, some (.fz (.int far)), z10, z11, z12, z13, z14, z15, z16, none, x18, x19] = .ok (acc ++ rs.map rowD) [s0, some (.ow false (.lst h')), z2, z3, z4, z5, s6, z7, z8, some (.fz (.int far)), z10, z11, z12, z13, z14, z15, z16, none, y18, y19] ∧ rs.map (·.2) = qs.map (sh far) ∧ Hok h'
  | [], acc, h, x18, x19, H, _ => ⟨[], h, x18, x19, by simp, rfl, H⟩
  | q :: qs, acc, h, x18, x19, H, hz => by
    have z : acc.length < sizeLine := szk' (by simp at hz; omega)
    obtain ⟨_, _, ea, h1, ρ1, er, rfl, H1⟩ := asList_s (s := .fz (.tup [.int (q.1 + far), .int (q.2 + far)])) (xs := [.int (q.1 + far), .int (q.2 + far)]) H (.tup _)
    rcases er with rfl | rfl
    · obtain ⟨rs, h', y18, y19, e, k, H'⟩ := mv_loop (s0 := s0) (s6 := s6) (z4 := z4) (z5 := z5) qs (acc ++ [rowD (true, sh far q)]) h1 (some (.fz (.int q.1))) (some (.fz (.int q.2))) H1 (by simp at hz ⊢; omega)
      refine ⟨(true, sh far q) :: rs, h', y18, y19, ?_, by simp [k], H'⟩
      rw [List.map_cons, loop_cons]
      simp [pairD, z, ea]
      simpa [rowD, sh] using e
    · obtain ⟨rs, h', y18, y19, e, k, H'⟩ := mv_loop (s0 := s0) (s6 := s6) (z4 := z4) (z5 := z5) qs (acc ++ [rowD (false, sh far q)]) h1 (some (.fz (.int q.1))) (some (.fz (.int q.2))) H1 (by simp at hz ⊢; omega)
      refine ⟨(false, sh far q) :: rs, h', y18, y19, ?_, by simp [k], H'⟩
      rw [List.map_cons, loop_cons]
      simp [pairD, z, ea]
      simpa [rowD, sh] using e
theorem t10 (H : Hok h) (m0 : 1 ≤ many) (m1 : many ≤ 6) (hk : ∀ p ∈ ps, okR many p = true) (hl : ps.length ≤ 33) (hr : rg = true ↔ ∃ a, Rch (· ∈ ps) a a) (D' : Dues ps qs) (hf : Sml far) :
    W (Nx (Inv ns)) (g_law_10 [some (.fz (.scr ns)), some (.ow false (.lst h)), z2, z3, some (.fz (.int many)), some (.ow false (.lst (ps.map pairD))), some (.ow false (.lst (qs.map pairD))), z7, some (.fz (.bl rg)), some (.fz (.int far)), z10, z11, z12, z13, z14, z15, z16, none, none, none]) := by
  obtain ⟨rs, h', y18, y19, e, es, H'⟩ := mv_loop (far := far) (z2 := z2) (z3 := z3) (z7 := z7) (z8 := some (.fz (.bl rg))) (z10 := z10) (z11 := z11) (z12 := z12) (z13 := z13) (z14 := z14) (z15 := z15) (z16 := z16) (s0 := some (.fz (.scr ns))) (s6 := some (.ow false (.lst (qs.map pairD)))) (z4 := some (.fz (.int many))) (z5 := some (.lk (.lst (ps.map pairD)))) ps [] h none none H (by simp; omega)
  rw [List.nil_append] at e
  simp [g_law_10, e]
  exact t11 H' m0 m1 hk hl hr es D' hf
theorem t9 (H : Hok h) (m0 : 1 ≤ many) (m1 : many ≤ 6) (hk : ∀ p ∈ ps, okR many p = true) (hl : ps.length ≤ 33) (hr : rg = true ↔ ∃ a, Rch (· ∈ ps) a a) (D' : Dues ps qs) :
    W (Nx (Inv ns)) (g_law_9 [some (.fz (.scr ns)), some (.ow false (.lst h)), z2, z3, some (.fz (.int many)), some (.ow false (.lst (ps.map pairD))), some (.ow false (.lst (qs.map pairD))), z7, some (.fz (.bl rg)), z9, z10, z11, z12, z13, z14, z15, z16, none, none, none]) := by
  simp [g_law_9, pow21]
  refine draw H (by decide) (by decide) fun v h1 ρ1 H1 v0 v1 => ?_
  simp [pow21]
  refine draw H1 (by decide) (by decide) fun t h2 ρ2 H2 t0 t1 => ?_
  have em : mulD (.int (v - 1)) (.int (1000000000000000000000 + t)) = some (.fz (.int ((v - 1) * (1000000000000000000000 + t)))) := mul_mid (by omega) (by omega)
  have hf : Sml ((v - 1) * (1000000000000000000000 + t)) := by
    have : v = 0 ∨ v = 1 ∨ v = 2 := by omega
    unfold Sml
    rcases this with rfl | rfl | rfl <;> omega
  simp [em]
  exact t10 H2 m0 m1 hk hl hr D' hf
end
end K01
end
noncomputable section
set_option maxHeartbeats 4000000
/-! K01p: a turn of the law: what is due. -/
namespace K01
open PySem PySem.Spec L2 DL

section
variable {ns : List Int} {h : List D} {many far : Int} {ps qs : List (Int × Int)} {rg : Bool} {z2 z3 z4 z5 z6 z7 z8 z9 z10 z11 z12 z13 z14 z15 z16 z18 z19 : Option SV}
theorem fl_loop {s0 s1 s6 : Option SV} : ∀ (qs : List (Int × Int)) (acc : List D), acc.length + qs.length ≤ 1000 → compL (tgN 17) (cB (eOp eqD (eOp idxD (eN 17) (eC (.int 0))) (eOp idxD (eN 17) (eC (.int 1))))) (eN 17) [17] (qs.map pairD) acc [s0, s1, z2, z3, z4, z5, s6, z7, z8, z9, z10, z11, z12, z13, z14, z15, z16, none, z18, z19] = .ok (acc ++ (qs.filter fun p => decide (p.1 = p.2)).map pairD) [s0, s1, z2, z3, z4, z5, s6, z7, z8, z9, z10, z11, z12, z13, z14, z15, z16, none, z18, z19]
  | [], acc, _ => by simp [compL]
  | q :: qs, acc, hz => by
    have z : acc.length < sizeLine := szk' (by simp at hz; omega)
    by_cases c : q.1 = q.2
    · have e := fl_loop (s0 := s0) (s1 := s1) (s6 := s6) qs (acc ++ [pairD q]) (by simp at hz ⊢; omega)
      rw [List.map_cons, compL, List.filter_cons_of_pos (by simpa using c)]
      rw [List.map_cons, List.append_cons]
      simp [pairD, c, z] at e ⊢
      exact e
    · have e := fl_loop (s0 := s0) (s1 := s1) (s6 := s6) qs acc (by simp at hz ⊢; omega)
      rw [List.map_cons, compL, List.filter_cons_of_neg (by simpa using c)]
      simp [pairD, c]
      exact e
theorem t8 (H : Hok h) (m0 : 1 ≤ many) (m1 : many ≤ 6) (hk : ∀ p ∈ ps, okR many p = true) (hl : ps.length ≤ 33) (D' : Dues ps qs) :
    W (Nx (Inv ns)) (g_law_8 [some (.fz (.scr ns)), some (.ow false (.lst h)), z2, z3, some (.fz (.int many)), some (.ow false (.lst (ps.map pairD))), some (.ow false (.lst (qs.map pairD))), z7, z8, z9, z10, z11, z12, z13, z14, z15, z16, none, none, none]) := by
  have ql := D'.len m1 hk
  have e := fl_loop (s0 := some (.fz (.scr ns))) (s1 := some (.ow false (.lst h))) (z2 := z2) (z3 := z3) (z4 := some (.fz (.int many))) (z5 := some (.ow false (.lst (ps.map pairD)))) (s6 := some (.lk (.lst (qs.map pairD)))) (z7 := z7) (z8 := z8) (z9 := z9) (z10 := z10) (z11 := z11) (z12 := z12) (z13 := z13) (z14 := z14) (z15 := z15) (z16 := z16) (z18 := none) (z19 := none) qs [] (by simp; omega)
  rw [List.nil_append] at e
  have rg := D'.ring
  have en : neD (.lst ((qs.filter fun p => decide (p.1 = p.2)).map pairD)) (.lst []) = some (.fz (.bl (decide ((qs.filter fun p => decide (p.1 = p.2)) ≠ [])))) := by
    have lf : (qs.filter fun p => decide (p.1 = p.2)).length ≤ 36 := Nat.le_trans (List.length_filter_le _ _) ql
    have mf : ∀ p ∈ qs.filter (fun p => decide (p.1 = p.2)), p ∈ qs := fun p hp => (List.mem_filter.mp hp).1
    generalize qs.filter (fun p => decide (p.1 = p.2)) = F at lf mf
    cases F with
    | nil => exact ne_of_eq eqD_nil
    | cons p F =>
      refine ne_of_eq (eqD_cons (k := 2) (n := 1000) (fine_lst (m := 10) (l := 36) (fun x hx => ?_) (by simpa using lf) (by decide)) (by decide))
      have hx : x ∈ (p :: F).map pairD := hx
      obtain ⟨q, hq, rfl⟩ := List.mem_map.mp hx
      have := rch_src hk ((D'.mem q.1 q.2).mp (mf q hq))
      exact fine_pair (by omega) (by omega)
  generalize (qs.filter fun p => decide (p.1 = p.2)).map pairD = X at e en
  simp [g_law_8, e, en]
  have g := t9 (ns := ns) (rg := decide ((qs.filter fun p => decide (p.1 = p.2)) ≠ [])) (z2 := z2) (z3 := z3) (z7 := z7) (z9 := z9) (z10 := z10) (z11 := z11) (z12 := z12) (z13 := z13) (z14 := z14) (z15 := z15) (z16 := z16) H m0 m1 hk hl (by rw [decide_eq_true_eq]; exact rg) D'
  simpa using g
theorem tp_loop {s0 s1 s6 : Option SV} (r : Int) : ∀ (xs : List Int) (acc : List D), acc.length + xs.length ≤ 1000 → compL (tgN 19) cYes (eTup [(eN 7), (eN 19)]) [19] (xs.map .int) acc [s0, s1, z2, z3, z4, z5, s6, some (.fz (.int r)), z8, z9, z10, z11, z12, z13, z14, z15, z16, none, none, none] = .ok (acc ++ (xs.map fun x => (r, x)).map pairD) [s0, s1, z2, z3, z4, z5, s6, some (.fz (.int r)), z8, z9, z10, z11, z12, z13, z14, z15, z16, none, none, none]
  | [], acc, _ => by simp [compL]
  | x :: xs, acc, hz => by
    have z : acc.length < sizeLine := szk' (by simp at hz; omega)
    have e := tp_loop (s0 := s0) (s1 := s1) (s6 := s6) r xs (acc ++ [pairD (r, x)]) (by simp at hz ⊢; omega)
    rw [List.map_cons, compL]
    simp [z]
    simpa [pairD] using e
def bdue : SSem := sA 6 (eOp addD (eN 6) (eLc (eU srtA (eCallD m__law_reach [] [(eN 5), (eN 7)])) (.nm 19) cYes (eTup [(eN 7), (eN 19)]) [19]))
theorem due_loop {s0 s1 : Option SV} (m1 : many ≤ 6) (hk : ∀ p ∈ ps, okR many p = true) (hl : ps.length ≤ 33) : ∀ (ks done : List Int) (qs : List (Int × Int)) (x7 : Option SV), (∀ x ∈ done, ∀ k ∈ ks, x < k) → ks.Pairwise (· < ·) → Due ps done qs → qs.length + 6 * ks.length ≤ 1000 →
    ∃ (qs' : List (Int × Int)) (y7 : Option SV), forL (tgN 7) bdue (ks.map .int) [s0, s1, z2, z3, z4, some (.ow false (.lst (ps.map pairD))), some (.ow false (.lst (qs.map pairD))), x7, z8, z9, z10, z11, z12, z13, z14, z15, z16, none, none, none] = .nx [s0, s1, z2, z3, z4, some (.ow false (.lst (ps.map pairD))), some (.ow false (.lst (qs'.map pairD))), y7, z8, z9, z10, z11, z12, z13, z14, z15, z16, none, none, none] ∧ Due ps (done ++ ks) qs'
  | [], done, qs, x7, _, _, D', _ => ⟨qs, x7, rfl, by simpa using D'⟩
  | k :: ks, done, qs, x7, hd, hp, D', hz => by
    obtain ⟨_, _, er, g, ρ', rfl, rfl, gn, gm⟩ := reach_s ps k (by omega)
    have gl : g.length ≤ 6 := by
      have := nd_len g (upTo 6) gn fun x hx => mem_upTo.mpr (by have := rch_src hk ((gm x).mp hx); omega)
      rw [upTo_len] at this
      exact this
    have gl2 : (sortI g).length ≤ 6 := by rw [(sortI_perm g).length_eq]; exact gl
    have D2 := D'.step (r := k) (fun x hx => hd x hx k List.mem_cons_self) gn gm
    obtain ⟨hp1, hp2⟩ := List.pairwise_cons.mp hp
    obtain ⟨qs', y7, e, D3⟩ := due_loop (s0 := s0) (s1 := s1) m1 hk hl ks (done ++ [k]) (qs ++ (sortI g).map fun x => (k, x)) (some (.fz (.int k))) (fun x hx j hj => by
      rcases List.mem_append.mp hx with hx | hx
      · exact hd x hx j (List.mem_cons_of_mem _ hj)
      · rw [List.mem_singleton.mp hx]; exact hp1 j hj) hp2 D2 (by simp at hz ⊢; omega)
    refine ⟨qs', y7, ?_, by simpa using D3⟩
    have tl := tp_loop (s0 := s0) (s1 := s1) (z2 := z2) (z3 := z3) (z4 := z4) (z5 := some (.ow false (.lst (ps.map pairD)))) (s6 := some (.ow false (.lst (qs.map pairD)))) (z8 := z8) (z9 := z9) (z10 := z10) (z11 := z11) (z12 := z12) (z13 := z13) (z14 := z14) (z15 := z15) (z16 := z16) k (sortI g) [] (by simp; omega)
    rw [List.nil_append] at tl
    have az : (qs.map pairD).length + (((sortI g).map fun x => (k, x)).map pairD).length ≤ sizeLine := szk (by simp at hz ⊢; omega)
    rw [List.map_append] at e
    generalize ((sortI g).map fun x => (k, x)).map pairD = Y at e tl az
    generalize qs.map pairD = Q at e tl az
    simp [forL, bdue, er, tl, addD, az]
    exact e
theorem t4 (H : Hok h) : W (Nx (Inv ns)) (g_law_4 [some (.fz (.scr ns)), some (.ow false (.lst h)), z2, z3, z4, z5, z6, z7, z8, z9, z10, z11, z12, z13, z14, z15, z16, none, none, none]) := by
  simp [g_law_4]
  refine draw H (by decide) (by decide) fun v h1 ρ1 H1 v0 v1 => ?_
  simp [g_law_5]
  refine cw (couples_s H1 (many := 1 + v) (by omega) (by omega)) ?_
  rintro _ _ ⟨ps, h2, ρ2, rfl, rfl, H2, hl, hk⟩
  have up : (upTo (1 + v)).Pairwise (· < ·) := by
    unfold upTo
    rw [List.pairwise_map]
    exact List.pairwise_lt_range.imp fun h => by omega
  obtain ⟨qs, y7, e, D'⟩ := due_loop (many := 1 + v) (s0 := some (.fz (.scr ns))) (s1 := some (.ow false (.lst h2))) (z2 := z2) (z3 := z3) (z4 := some (.fz (.int (1 + v)))) (z8 := z8) (z9 := z9) (z10 := z10) (z11 := z11) (z12 := z12) (z13 := z13) (z14 := z14) (z15 := z15) (z16 := z16) (by omega) hk hl (upTo (1 + v)) [] [] z7 (fun x hx => by cases hx) up ⟨List.Pairwise.nil, fun a b => by simp⟩ (by rw [upTo_len]; simp; omega)
  rw [List.nil_append] at D'
  rw [← range_up] at e
  simp only [bdue, List.map_nil] at e
  simp [g_law_6, g_law_7, small_i (j := 1 + v) (by omega) (by omega), e]
  exact t8 H2 (by omega) (by omega) hk hl (Due.all hk D')
end
end K01
end
noncomputable section
set_option maxHeartbeats 4000000
/-! K01q: texts and names. -/
namespace K01
open PySem PySem.Spec L2 DL

def inAbc (c : Nat) : Bool := decide (c ∈ abc.cps.toList)
def cb_let : SSem := (sIf (cB (eOp ninA (eN 1) (eC (.str "abcdefghijklmnopqrstuvwxyz")))) (sR (eC (.bl false))) sN)
theorem nin_abc (c : Nat) : ninA (.str ⟨#[c]⟩) (.str ("abcdefghijklmnopqrstuvwxyz" : String)) = some (.fz (.bl (!inAbc c))) := x_ninO (b := inAbc c) rfl
theorem let_step (s : SV) (c : Nat) : cb_let [some s, some (.fz (.str ⟨#[c]⟩))] = if inAbc c = true then .nx [some s, some (.fz (.str ⟨#[c]⟩))] else .rt (.fz (.bl false)) [some s, some (.fz (.str ⟨#[c]⟩))] := by
  have e := nin_abc c
  cases h : inAbc c <;> simp [cb_let, e, h]
theorem let_loop (s : SV) : ∀ (cs : List Nat) (z : Option SV), ∃ ρ, forL (tgN 1) cb_let (cs.map fun c => .str ⟨#[c]⟩) [some s, z] = if cs.all inAbc = true then .nx ρ else .rt (.fz (.bl false)) ρ
  | [], z => ⟨_, rfl⟩
  | c :: r, z => by
    obtain ⟨ρ, e⟩ := let_loop s r (some (.fz (.str ⟨#[c]⟩)))
    rw [List.map_cons, forL]
    simp only [tgN, List.set]
    rw [let_step]
    cases h : inAbc c with
    | false => exact ⟨[some s, some (.fz (.str ⟨#[c]⟩))], by simp [h]⟩
    | true => exact ⟨ρ, by simpa [h] using e⟩
/-- all small letters -/
def Lw (w : Str) : Bool := w.cps.toList.all inAbc
theorem letters_ev (w : Str) : ∃ ρ, m_has_letters [.fz (.str w)] = .ok (.fz (.bl (Lw w))) ρ := by
  obtain ⟨ρ, e⟩ := let_loop (.fz (.str w)) w.cps.toList none
  unfold cb_let at e
  refine ⟨ρ, ?_⟩
  unfold Lw
  cases h : w.cps.toList.all inAbc with
  | false =>
    rw [h] at e
    simp only [Bool.false_eq_true, if_false] at e
    simp [m_has_letters, runB, g_has_letters, envOf, itemsD, sForB, e]
  | true =>
    rw [h] at e
    simp only [if_true] at e
    simp [m_has_letters, runB, g_has_letters, envOf, itemsD, sForB, e]
theorem al_loop (s : SV) : ∀ (cs : List Nat) (acc : List D), acc.length + cs.length ≤ 1000 → compL (tgN 1) (cB (eOp ninA (eN 1) (eC (.str "abcdefghijklmnopqrstuvwxyz")))) (eN 1) [1] (cs.map fun c => .str ⟨#[c]⟩) acc [some s, none] = .ok (acc ++ (cs.filter fun c => !inAbc c).map fun c => .str ⟨#[c]⟩) [some s, none]
  | [], acc, _ => by simp [compL]
  | c :: cs, acc, hz => by
    have z : acc.length < sizeLine := szk' (by simp at hz; omega)
    have e := nin_abc c
    rw [List.map_cons, compL]
    cases h : inAbc c with
    | true =>
      have k := al_loop s cs acc (by simp at hz; omega)
      simp [e, h]
      exact k
    | false =>
      have k := al_loop s cs (acc ++ [.str ⟨#[c]⟩]) (by simp at hz ⊢; omega)
      simp [e, h, z]
      simpa using k
theorem fine_chr (c : Nat) (h : c < 1114112) : Fine 0 1 (.str ⟨#[c]⟩) := fine_str (strOk_of fun x hx => by
  have : x = c := by simpa [TL.tl] using hx
  omega) (by show (#[c] : Array Nat).size ≤ 1; simp)
/-- texts of the law -/
def Tx8 (w : Str) : Prop := w.length ≤ 40 ∧ ∀ c ∈ w.cps.toList, c < 1114112
theorem wlen (w : Str) : w.length = w.cps.toList.length := by simp [Str.length]
theorem allLetters_ev (w : Str) (h : Tx8 w) : m__law_all_letters [.fz (.str w)] = .ok (.fz (.bl (Lw w))) [some (.fz (.str w)), none] := by
  have e := al_loop (.fz (.str w)) w.cps.toList [] (by have := h.1; rw [wlen] at this; rw [List.length_nil]; omega)
  have en : eqD (.lst ((w.cps.toList.filter fun c => !inAbc c).map fun c => .str ⟨#[c]⟩)) (.lst []) = some (.fz (.bl (Lw w))) := by
    have lf : (w.cps.toList.filter fun c => !inAbc c).length ≤ 40 := Nat.le_trans (List.length_filter_le _ _) (by rw [← wlen]; exact h.1)
    have mf : ∀ c ∈ w.cps.toList.filter (fun c => !inAbc c), c ∈ w.cps.toList := fun p hp => (List.mem_filter.mp hp).1
    have lw : Lw w = decide ((w.cps.toList.filter fun c => !inAbc c) = []) := by
      unfold Lw
      rw [Bool.eq_iff_iff, decide_eq_true_eq, List.filter_eq_nil_iff, List.all_eq_true]
      simp
    rw [lw]
    generalize w.cps.toList.filter (fun c => !inAbc c) = F at lf mf
    cases F with
    | nil => exact eqD_nil
    | cons c F =>
      refine eqD_cons (k := 1) (n := 1000) (fine_lst (m := 1) (l := 40) (fun x hx => ?_) (by simpa using lf) (by decide)) (by decide)
      have hx : x ∈ (c :: F).map fun c => D.str ⟨#[c]⟩ := hx
      obtain ⟨q, hq, rfl⟩ := List.mem_map.mp hx
      exact fine_chr q (h.2 q (mf q hq))
  rw [List.nil_append] at e
  generalize (w.cps.toList.filter fun c => !inAbc c).map (fun c => D.str ⟨#[c]⟩) = X at e en
  simp [m__law_all_letters, runB, g__law_all_letters, envOf, itemsD, e, en]
theorem lenS {w : Str} (h : w.length ≤ 1000) : lenD (.str w) = some (.fz (.int w.length)) := by
  simp only [lenD]; rw [if_pos (szk (by omega))]
def okNm (most : Int) : D → Bool
  | .str w => (decide (1 ≤ (w.length : Int)) && decide ((w.length : Int) ≤ most)) && Lw w
  | _ => false
theorem name_ev (d : D) (most : Int) (hp : pl d = true) (hs : ∀ w, d = .str w → w.length ≤ 1000) : ∃ ρ, m_is_name [.fz d, .fz (.int most)] = .ok (.fz (.bl (okNm most d))) ρ := by
  cases d with
  | ins => cases hp
  | scr => cases hp
  | ktp => cases hp
  | str w =>
    obtain ⟨ρ, e⟩ := letters_ev w
    have hl := lenS (hs w rfl)
    by_cases c1 : (1 : Int) ≤ w.length
    · by_cases c2 : (w.length : Int) ≤ most
      · exact ⟨_, by simp [m_is_name, runB, g_is_name, envOf, isiD, tyD, List.lookup, hl, c1, c2, e, okNm, eChain]; rfl⟩
      · exact ⟨_, by simp [m_is_name, runB, g_is_name, envOf, isiD, tyD, List.lookup, hl, c1, c2, okNm, eChain]; rfl⟩
    · exact ⟨_, by simp [m_is_name, runB, g_is_name, envOf, isiD, tyD, List.lookup, hl, c1, okNm, eChain]; rfl⟩
  | _ => exact ⟨_, by simp [m_is_name, runB, g_is_name, envOf, isiD, tyD, List.lookup, okNm]; rfl⟩
end K01
end
noncomputable section
set_option maxHeartbeats 4000000
/-! K01r: texts drawn; whole numbers. -/
namespace K01
open PySem PySem.Spec L2 DL

def signs : List D := [.str "A", .str "Z", .str "1", .str "_", .str "-", .str " ", .str ".", .str "{"]
theorem signs_ix {v : Int} (h0 : 0 ≤ v) (h1 : v < 8) : ∃ c : Nat, atI signs v = some (one c) ∧ c < 1114112 := by
  obtain ⟨d, e, m⟩ := at_some (xs := signs) h0 (by simpa [signs] using h1)
  simp only [signs, List.mem_cons, List.not_mem_nil, or_false] at m
  rcases m with rfl | rfl | rfl | rfl | rfl | rfl | rfl | rfl
  · exact ⟨65, e, by decide⟩
  · exact ⟨90, e, by decide⟩
  · exact ⟨49, e, by decide⟩
  · exact ⟨95, e, by decide⟩
  · exact ⟨45, e, by decide⟩
  · exact ⟨32, e, by decide⟩
  · exact ⟨46, e, by decide⟩
  · exact ⟨123, e, by decide⟩
def TI (longest : Int) (r : List D) (ρ : DL.Env) : Prop := ∃ (h : List D) (cs : List Nat) (x3 : Option SV), ρ = [some (.ow true (.lst h)), some (.fz (.int longest)), some (.ow false (.lst (cs.map one))), x3] ∧ Hok h ∧ (cs.length : Int) + r.length ≤ longest ∧ ∀ c ∈ cs, c < 1114112
theorem text_s {h : List D} {longest : Int} (H : Hok h) (l0 : 0 ≤ longest) (l1 : longest ≤ 30) : Gv (m__law_text [.ow true (.lst h), .fz (.int longest)]) fun r ρ => ∃ (w : Str) (h' : List D) (ρ' : DL.Env), r = .fz (.str w) ∧ ρ = some (.ow true (.lst h')) :: some (.fz (.int longest)) :: ρ' ∧ Hok h' ∧ (w.length : Int) ≤ longest ∧ Tx8 w := by
  refine run_w ?_
  simp only [g__law_text, take_eq]
  simp [envOf]
  refine draw H (by omega) (by omega) fun v h1 ρ1 H1 v0 v1 => ?_
  simp [small_i v0 (by omega : v ≤ 1000000)]
  refine forL_w (I := TI longest) ⟨h1, [], none, rfl, H1, by simp [rangeD]; omega, fun c hc => by cases hc⟩ ?_ ?_
  · rintro x r _ ⟨h2, cs, x3, rfl, H2, hl, hc⟩
    refine ⟨_, rfl, ?_⟩
    have z : cs.length < sizeLine := szk' (by simp at hl; omega)
    have fin : ∀ (h4 : List D) (c : Nat), Hok h4 → c < 1114112 → TI longest r [some (.ow true (.lst h4)), some (.fz (.int longest)), some (.ow false (.lst (cs.map one ++ [one c]))), some (.fz x)] := fun h4 c H4 c1 =>
      ⟨h4, cs ++ [c], some (.fz x), by simp, H4, by simp at hl ⊢; omega, fun y hy => by
        rcases List.mem_append.mp hy with hy | hy
        · exact hc y hy
        · rw [List.mem_singleton.mp hy]; exact c1⟩
    simp
    refine draw H2 (by decide) (by decide) fun a h3 ρ3 H3 a0 a1 => ?_
    simp
    by_cases c : a = 0
    · simp [c]
      refine draw H3 (by decide) (by decide) fun b h4 ρ4 H4 b0 b1 => ?_
      obtain ⟨ch, e, c1⟩ := signs_ix b0 b1
      simp only [signs] at e
      simp [e, z]
      exact fin h4 ch H4 c1
    · simp [c]
      refine draw H3 (by decide) (by decide) fun b h4 ρ4 H4 b0 b1 => ?_
      have e := abc_ix b0 b1
      rw [show D.str abc = D.str ("abcdefghijklmnopqrstuvwxyz" : String) from rfl] at e
      have f := fin h4 (97 + b.toNat) H4 (by omega)
      simp [e, z]
      exact f
  · rintro _ ⟨h2, cs, x3, rfl, H2, hl, hc⟩
    have lc : cs.length ≤ 30 := by simp at hl; omega
    obtain ⟨w, j1, j2⟩ := join_one cs (by omega)
    have wl : w.length = cs.length := by rw [wlen, j2]
    simp [j1]
    exact ⟨H2, by rw [wl]; simpa using hl, by rw [wl]; omega, by rw [j2]; exact hc⟩
/-! ### whole numbers -/
def loD (lo : D) (i : Int) : Bool := match lo with
  | .int l => decide (l ≤ i)
  | _ => true
def hiD (hi : D) (i : Int) : Bool := match hi with
  | .int l => decide (i ≤ l)
  | _ => true
def wh (lo hi d : D) : Bool := match d with
  | .int i => loD lo i && hiD hi i
  | _ => false
/-- a bound: None or a number -/
def Bnd (d : D) : Prop := d = .non ∨ ∃ i, d = .int i
theorem wh_ev {lo hi d : D} (hl : Bnd lo) (hh : Bnd hi) (h : pl d = true) : m_is_whole [.fz d, .fz lo, .fz hi] = .ok (.fz (.bl (wh lo hi d))) [some (.fz d), some (.fz lo), some (.fz hi)] := by
  cases d with
  | ins => cases h
  | scr => cases h
  | ktp => cases h
  | int i =>
    rcases hl with rfl | ⟨l, rfl⟩ <;> rcases hh with rfl | ⟨u, rfl⟩
    · simp [m_is_whole, runB, g_is_whole, envOf, isiD, tyD, List.lookup, wh, loD, hiD, isD, D.isNon]
    · by_cases h2 : i ≤ u <;> simp [m_is_whole, runB, g_is_whole, envOf, isiD, tyD, List.lookup, wh, loD, hiD, h2, isD, D.isNon]
    · by_cases h1 : l ≤ i <;> simp [m_is_whole, runB, g_is_whole, envOf, isiD, tyD, List.lookup, wh, loD, hiD, h1, isD, D.isNon]
    · by_cases h1 : l ≤ i <;> by_cases h2 : i ≤ u <;> simp [m_is_whole, runB, g_is_whole, envOf, isiD, tyD, List.lookup, wh, loD, hiD, h1, h2, isD, D.isNon]
  | _ => simp [m_is_whole, runB, g_is_whole, envOf, isiD, tyD, List.lookup, wh]
theorem isInt_ev {d : D} (h : pl d = true) : m__law_is_int [.fz d] = .ok (.fz (.bl (isInt d))) [some (.fz d)] := by
  cases d with
  | ins => cases h
  | scr => cases h
  | ktp => cases h
  | _ => simp [m__law_is_int, runB, g__law_is_int, envOf, isiD, tyD, List.lookup, isInt, eNot]
theorem thing_s {h : List D} {near : Int} (H : Hok h) : Gv (m__law_thing [.ow true (.lst h), .fz (.int near)]) fun r ρ => ∃ (d : D) (h' : List D) (ρ' : DL.Env), r = .fz d ∧ ρ = some (.ow true (.lst h')) :: some (.fz (.int near)) :: ρ' ∧ Hok h' ∧ pl d = true := by
  refine run_w ?_
  simp only [g__law_thing, take_eq]
  simp [envOf]
  refine draw H (by decide) (by decide) fun v h1 ρ1 H1 v0 v1 => ?_
  simp
  by_cases e0 : v = 0
  · simp [e0]
    refine draw H1 (by decide) (by decide) fun v2 h2 ρ2 H2 v20 v21 => ?_
    obtain ⟨d, e, m⟩ := at_some (xs := [.non, .bl true, .bl false, .str "1", .str "", .tup [.int 0], .lst []]) v20 (by simpa using v21)
    simp [e]
    refine ⟨H2, ?_⟩
    simp only [List.mem_cons, List.not_mem_nil, or_false] at m
    rcases m with rfl | rfl | rfl | rfl | rfl | rfl | rfl <;> rfl
  simp [e0]
  by_cases e1 : v = 1
  · simp [e1, pow21]
    refine draw H1 (by decide) (by decide) fun v2 h2 ρ2 H2 v20 v21 => ?_
    have em : mulD (.int 1000000000000000000000) (.int (v2 - 1)) = some (.fz (.int (1000000000000000000000 * (v2 - 1)))) := by
      have h1 := log2_small (x := 1000000000000000000000) (k := 200) (by decide) (by decide)
      have h2 := log2_small (x := v2 - 1) (k := 64) (by omega) (by decide)
      simp only [mulD]
      rw [if_pos (by omega)]
    simp [em]
    exact ⟨H2, rfl⟩
  simp [e1]
  refine draw H1 (by decide) (by decide) fun v2 h2 ρ2 H2 v20 v21 => ?_
  simp
  exact ⟨H2, rfl⟩
end K01
end
noncomputable section
set_option maxHeartbeats 4000000
/-! K01s: names_hold, its loops. -/
namespace K01
open PySem PySem.Spec L2 DL

/-- what a turn keeps -/
def NI (ρ : DL.Env) : Prop := ∃ (h : List D) (z1 z2 z3 z4 z5 z6 z7 z8 z9 : Option SV), ρ = [some (.ow true (.lst h)), z1, z2, z3, z4, z5, z6, z7, z8, z9] ∧ Hok h
theorem wh_non {hi d : D} (hh : Bnd hi) : wh .non hi d = (isInt d && match d with | .int i => hiD hi i | _ => true) := by
  cases d <;> simp [wh, isInt, loD]
theorem wh_all {d : D} : wh .non .non d = isInt d := by cases d <;> simp [wh, isInt, loD, hiD]
section
variable {h : List D} {z1 z2 z3 z4 z5 z6 z7 z8 z9 : Option SV} {d lo hi : D}
theorem n12 (H : Hok h) (hd : pl d = true) (hh : Bnd hi) : W (Nx NI) (g__law_names_hold_12 [some (.ow true (.lst h)), z1, some (.fz d), z3, z4, z5, some (.fz hi), z7, z8, z9]) := by
  have e := wh_ev (lo := .non) (.inl rfl) hh hd
  have ei := isInt_ev hd
  have fin : ∀ b : Bool, NI [some (.ow true (.lst h)), z1, some (.fz d), z3, z4, z5, some (.fz hi), z7, some (.fz (.bl b)), z9] := fun b => ⟨h, _, _, _, _, _, _, _, _, _, rfl, H⟩
  cases d with
  | ins => cases hd
  | scr => cases hd
  | ktp => cases hd
  | int i =>
    rcases hh with rfl | ⟨u, rfl⟩
    · simp [g__law_names_hold_12, eCallK, e, ei, isInt, wh, loD, hiD, isD, D.isNon, neB]
      exact fin _
    · by_cases c : i ≤ u <;> simp [g__law_names_hold_12, eCallK, e, ei, isInt, wh, loD, hiD, isD, D.isNon, neB, c] <;> exact fin _
  | _ => simp [g__law_names_hold_12, eCallK, e, ei, isInt, wh, neB]; exact fin _
theorem n10 (H : Hok h) (hd : pl d = true) (hh : Bnd hi) : W (Nx NI) (g__law_names_hold_10 [some (.ow true (.lst h)), z1, some (.fz d), z3, z4, z5, some (.fz hi), z7, z8, z9]) := by
  have e := wh_ev (lo := .non) (hi := .non) (.inl rfl) (.inl rfl) hd
  have ei := isInt_ev hd
  rw [wh_all] at e
  simp [g__law_names_hold_10, g__law_names_hold_11, e, ei, isiD, tyD, List.lookup, neB]
  exact n12 H hd hh
theorem n7 (H : Hok h) (hd : pl d = true) (hl : Bnd lo) (hh : Bnd hi) : W (Nx NI) (g__law_names_hold_7 [some (.ow true (.lst h)), z1, some (.fz d), z3, z4, some (.fz lo), some (.fz hi), z7, z8, z9]) := by
  have e := wh_ev hl hh hd
  have ei := isInt_ev hd
  have go : ∀ z7 z8 : Option SV, W (Nx NI) (g__law_names_hold_10 [some (.ow true (.lst h)), z1, some (.fz d), z3, z4, some (.fz lo), some (.fz hi), z7, z8, z9]) := fun z7 z8 => n10 H hd hh
  cases d with
  | ins => cases hd
  | scr => cases hd
  | ktp => cases hd
  | int i =>
    rcases hl with rfl | ⟨l, rfl⟩ <;> rcases hh with rfl | ⟨u, rfl⟩
    · simp [g__law_names_hold_7, g__law_names_hold_8, g__law_names_hold_9, e, ei, isInt, wh, loD, hiD, isD, D.isNon, neB, isiD, tyD, List.lookup]
      exact go _ _
    · by_cases c : i ≤ u <;> simp [g__law_names_hold_7, g__law_names_hold_8, g__law_names_hold_9, e, ei, isInt, wh, loD, hiD, isD, D.isNon, neB, isiD, tyD, List.lookup, c] <;> exact go _ _
    · by_cases c : l ≤ i <;> simp [g__law_names_hold_7, g__law_names_hold_8, g__law_names_hold_9, e, ei, isInt, wh, loD, hiD, isD, D.isNon, neB, isiD, tyD, List.lookup, c] <;> exact go _ _
    · by_cases c : l ≤ i <;> by_cases c2 : i ≤ u <;> simp [g__law_names_hold_7, g__law_names_hold_8, g__law_names_hold_9, e, ei, isInt, wh, loD, hiD, isD, D.isNon, neB, isiD, tyD, List.lookup, c, c2] <;> exact go _ _
  | _ => simp [g__law_names_hold_7, g__law_names_hold_8, g__law_names_hold_9, e, ei, isInt, wh, neB, isiD, tyD, List.lookup]; exact go _ _
theorem n6 {near : Int} (H : Hok h) (hl : Bnd lo) (hh : Bnd hi) : W (Nx NI) (g__law_names_hold_6 [some (.ow true (.lst h)), z1, z2, z3, some (.fz (.int near)), some (.fz lo), some (.fz hi), z7, z8, z9]) := by
  simp [g__law_names_hold_6]
  refine cw (thing_s H) ?_
  rintro _ _ ⟨d, h1, ρ1, rfl, rfl, H1, hd⟩
  simp
  exact n7 H1 hd hl hh
theorem pow6 : powD (.int 10) (.int 6) = some (.fz (.int 1000000)) := by simp [powD, gI]
theorem pow12 : powD (.int 10) (.int 12) = some (.fz (.int 1000000000000)) := by simp [powD, gI]
theorem n3 (H : Hok h) : W (Nx NI) (g__law_names_hold_3 [some (.ow true (.lst h)), z1, z2, z3, z4, z5, z6, z7, z8, z9]) := by
  simp only [g__law_names_hold_3, take_eq]
  simp
  refine draw H (by decide) (by decide) fun a h1 ρ1 H1 a0 a1 => ?_
  simp [pow6, pow12, pow18]
  refine draw H1 (by decide) (by decide) fun b h2 ρ2 H2 b0 b1 => ?_
  obtain ⟨d, e, m⟩ := at_some (xs := [.int 1, .int 1000000, .int 1000000000000, .int 1000000000000000000]) b0 (by simpa using b1)
  have go : ∀ near : Int, W (Nx NI) (g__law_names_hold_4 [some (.ow true (.lst h2)), z1, z2, z3, some (.fz (.int near)), z5, z6, z7, z8, z9]) := fun near => by
    simp only [g__law_names_hold_4, take_eq]
    simp
    refine draw H2 (by decide) (by decide) fun c h3 ρ3 H3 c0 c1 => ?_
    simp
    have go2 : ∀ (h4 : List D) (lo : D), Hok h4 → Bnd lo → W (Nx NI) (g__law_names_hold_5 [some (.ow true (.lst h4)), z1, z2, z3, some (.fz (.int near)), some (.fz lo), z6, z7, z8, z9]) := fun h4 lo H4 hl => by
      simp only [g__law_names_hold_5, take_eq]
      simp
      refine draw H4 (by decide) (by decide) fun c h5 ρ5 H5 c0 c1 => ?_
      simp
      by_cases q : c = 0
      · simp [q]
        exact n6 H5 hl (.inl rfl)
      · simp [q]
        refine draw H5 (by decide) (by decide) fun u h6 ρ6 H6 u0 u1 => ?_
        simp
        exact n6 H6 hl (.inr ⟨_, rfl⟩)
    by_cases q : c = 0
    · simp [q]
      exact go2 _ _ H3 (.inl rfl)
    · simp [q]
      refine draw H3 (by decide) (by decide) fun u h6 ρ6 H6 u0 u1 => ?_
      simp
      exact go2 _ _ H6 (.inr ⟨_, rfl⟩)
  simp only [List.mem_cons, List.not_mem_nil, or_false] at m
  rcases m with rfl | rfl | rfl | rfl
  · have em : mulD (.int (a - 20)) (.int 1) = some (.fz (.int ((a - 20) * 1))) := mul_small (by omega) (by decide)
    simp [e, em]
    exact go _
  · have em : mulD (.int (a - 20)) (.int 1000000) = some (.fz (.int ((a - 20) * 1000000))) := mul_small (by omega) (by decide)
    simp [e, em]
    exact go _
  · have em : mulD (.int (a - 20)) (.int 1000000000000) = some (.fz (.int ((a - 20) * 1000000000000))) := mul_small (by omega) (by decide)
    simp [e, em]
    exact go _
  · have em : mulD (.int (a - 20)) (.int 1000000000000000000) = some (.fz (.int ((a - 20) * 1000000000000000000))) := mul_small (by omega) (by decide)
    simp [e, em]
    exact go _
theorem n14 (H : Hok h) : W (Nx NI) (g__law_names_hold_14 [some (.ow true (.lst h)), z1, z2, z3, z4, z5, z6, z7, z8, z9]) := by
  simp only [g__law_names_hold_14, take_eq]
  simp
  refine draw H (by decide) (by decide) fun a h1 ρ1 H1 a0 a1 => ?_
  simp [g__law_names_hold_15]
  refine cw (text_s H1 (longest := 12) (by decide) (by decide)) ?_
  rintro _ _ ⟨w, h2, ρ2, rfl, rfl, H2, wl, wt⟩
  obtain ⟨ρ3, e⟩ := name_ev (.str w) (1 + a) rfl (fun v ev => by cases ev; have := wt.1; omega)
  have al := allLetters_ev w wt
  have hl := lenS (w := w) (by have := wt.1; omega)
  have fin : ∀ b : Bool, NI [some (.ow true (.lst h2)), z1, z2, some (.fz (.str w)), z4, z5, z6, z7, some (.fz (.bl b)), some (.fz (.int (1 + a)))] := fun b => ⟨h2, _, _, _, _, _, _, _, _, _, rfl, H2⟩
  by_cases c1 : (1 : Int) ≤ w.length
  · by_cases c2 : (w.length : Int) ≤ 1 + a
    · cases q : Lw w <;> simp [g__law_names_hold_16, e, okNm, isiD, tyD, List.lookup, eChain, hl, c1, c2, al, q, neB] <;> exact fin _
    · simp [g__law_names_hold_16, e, okNm, isiD, tyD, List.lookup, eChain, hl, c1, c2, neB]
      exact fin _
  · simp [g__law_names_hold_16, e, okNm, isiD, tyD, List.lookup, eChain, hl, c1, neB]
    exact fin _
end
end K01
end
noncomputable section
set_option maxHeartbeats 4000000
/-! K01t: endings. -/
namespace K01
open PySem PySem.Spec L2 DL

def others : List D := [.non, .int 0, .bl true, .lst [.str "a"], .tup [.str "a"]]
/-- a part of the law's things -/
def Pt (x : D) : Prop := (∃ w, x = .str w ∧ Tx8 w) ∨ x ∈ others
def isPart : D → Bool
  | .str w => decide ((w.length : Int) ≤ 3) && Lw w
  | _ => false
theorem part_ev {x : D} (h : Pt x) : ∃ ρ, m__law_is_part [.fz x] = .ok (.fz (.bl (isPart x))) ρ := by
  rcases h with ⟨w, rfl, hw⟩ | h
  · have al := allLetters_ev w hw
    have hl := lenS (w := w) (by have := hw.1; omega)
    by_cases c : (w.length : Int) ≤ 3 <;> exact ⟨_, by simp [m__law_is_part, runB, g__law_is_part, envOf, isiD, tyD, List.lookup, hl, c, al, isPart]; rfl⟩
  · simp only [others, List.mem_cons, List.not_mem_nil, or_false] at h
    rcases h with rfl | rfl | rfl | rfl | rfl <;> exact ⟨_, by simp [m__law_is_part, runB, g__law_is_part, envOf, isiD, tyD, List.lookup, isPart]; rfl⟩
def cb_end : SSem := (sIf (cOr (cNot (cT (eU (isiD [("NoneType", false), ("bool", false), ("int", false), ("str", true), ("tuple", false), ("list", false), ("dict", false)] []) (eN 1)))) (cOr (cB (eOp gtD (eU lenD (eN 1)) (eC (.int (3))))) (cNot (cT (eCallD m_has_letters [] [(eN 1)]))))) (sR (eC (.bl false))) sN)
theorem end_loop (s : Option SV) : ∀ (xs : List D) (z : Option SV), (∀ x ∈ xs, Pt x) → ∃ y, forL (tgN 1) cb_end xs [s, z] = if xs.all isPart = true then .nx [s, y] else .rt (.fz (.bl false)) [s, y]
  | [], z, _ => ⟨z, rfl⟩
  | x :: xs, z, h => by
    obtain ⟨y, e⟩ := end_loop s xs (some (.fz x)) fun y hy => h y (List.mem_cons_of_mem _ hy)
    rw [forL]
    rcases h x List.mem_cons_self with ⟨w, rfl, hw⟩ | ho
    · obtain ⟨ρ, el⟩ := letters_ev w
      have hl := lenS (w := w) (by have := hw.1; omega)
      by_cases c : (3 : Int) < w.length
      · have : isPart (.str w) = false := by simp [isPart]; omega
        exact ⟨some (.fz (.str w)), by simp [cb_end, isiD, tyD, List.lookup, hl, c, this]⟩
      · have c' : (w.length : Int) ≤ 3 := by omega
        cases q : Lw w with
        | false =>
          rw [q] at el
          have : isPart (.str w) = false := by simp [isPart, q]
          exact ⟨some (.fz (.str w)), by simp [cb_end, isiD, tyD, List.lookup, hl, c, el, this]⟩
        | true =>
          rw [q] at el
          have ip : isPart (.str w) = true := by simp [isPart, q]; omega
          refine ⟨y, ?_⟩
          rw [List.all_cons, ip, Bool.true_and]
          rw [← e]
          simp [cb_end, isiD, tyD, List.lookup, hl, c, el]
    · have ip : isPart x = false := by
        simp only [others, List.mem_cons, List.not_mem_nil, or_false] at ho
        rcases ho with rfl | rfl | rfl | rfl | rfl <;> rfl
      refine ⟨some (.fz x), ?_⟩
      rw [List.all_cons, ip, Bool.false_and]
      simp only [others, List.mem_cons, List.not_mem_nil, or_false] at ho
      rcases ho with rfl | rfl | rfl | rfl | rfl <;> simp [cb_end, isiD, tyD, List.lookup]
/-- an ending? -/
def endOk (xs : List D) : Bool := (decide ((1 : Int) ≤ xs.length) && decide ((xs.length : Int) ≤ 4)) && xs.all isPart
theorem ending_ev {s : SV} {xs : List D} (hs : Src s xs) (h : ∀ x ∈ xs, Pt x) : ∃ ρ, m_is_ending [s] = .ok (.fz (.bl (endOk xs))) (some s :: ρ) := by
  cases hs with
  | lst =>
    obtain ⟨y, e⟩ := end_loop (some (.fz (.lst xs))) xs none h
    unfold cb_end at e
    by_cases c1 : (1 : Int) ≤ xs.length
    · by_cases c2 : (xs.length : Int) ≤ 4
      · cases q : xs.all isPart <;> (rw [q] at e; simp only [Bool.false_eq_true, if_false, if_true] at e; exact ⟨_, by simp [m_is_ending, runB, g_is_ending, envOf, isiD, tyD, List.lookup, eChain, c1, c2, e, endOk, q]; rfl⟩)
      · exact ⟨_, by simp [m_is_ending, runB, g_is_ending, envOf, isiD, tyD, List.lookup, eChain, c1, c2, endOk]; rfl⟩
    · exact ⟨_, by simp [m_is_ending, runB, g_is_ending, envOf, isiD, tyD, List.lookup, eChain, c1, endOk]; rfl⟩
  | tup =>
    obtain ⟨y, e⟩ := end_loop (some (.fz (.tup xs))) xs none h
    unfold cb_end at e
    by_cases c1 : (1 : Int) ≤ xs.length
    · by_cases c2 : (xs.length : Int) ≤ 4
      · cases q : xs.all isPart <;> (rw [q] at e; simp only [Bool.false_eq_true, if_false, if_true] at e; exact ⟨_, by simp [m_is_ending, runB, g_is_ending, envOf, isiD, tyD, List.lookup, eChain, c1, c2, e, endOk, q]; rfl⟩)
      · exact ⟨_, by simp [m_is_ending, runB, g_is_ending, envOf, isiD, tyD, List.lookup, eChain, c1, c2, endOk]; rfl⟩
    · exact ⟨_, by simp [m_is_ending, runB, g_is_ending, envOf, isiD, tyD, List.lookup, eChain, c1, endOk]; rfl⟩
  | own =>
    obtain ⟨y, e⟩ := end_loop (some (.lk (.lst xs))) xs none h
    unfold cb_end at e
    by_cases c1 : (1 : Int) ≤ xs.length
    · by_cases c2 : (xs.length : Int) ≤ 4
      · cases q : xs.all isPart <;> (rw [q] at e; simp only [Bool.false_eq_true, if_false, if_true] at e; exact ⟨_, by simp [m_is_ending, runB, g_is_ending, envOf, isiD, tyD, List.lookup, eChain, c1, c2, e, endOk, q]; rfl⟩)
      · exact ⟨_, by simp [m_is_ending, runB, g_is_ending, envOf, isiD, tyD, List.lookup, eChain, c1, c2, endOk]; rfl⟩
    · exact ⟨_, by simp [m_is_ending, runB, g_is_ending, envOf, isiD, tyD, List.lookup, eChain, c1, endOk]; rfl⟩
end K01
end
noncomputable section
set_option maxHeartbeats 4000000
/-! K01u: endings told. -/
namespace K01
open PySem PySem.Spec L2 DL

theorem tend_good {s : SV} {xs : List D} (hs : Src s xs) (h : ∀ x ∈ xs, Pt x) (g : endOk xs = true) : ∃ ρ, m__law_told_ending [s] = .ok (.fz (.tup [.str "good", .tup xs])) (some s :: ρ) := by
  obtain ⟨ρ, e⟩ := ending_ev hs h
  rw [g] at e
  cases hs <;> exact ⟨_, by simp [m__law_told_ending, runB, g__law_told_ending, m_ending_from, g_ending_from, envOf, e, sTry]; rfl⟩
theorem tend_bad {s : SV} {xs : List D} (hs : Src s xs) (h : ∀ x ∈ xs, Pt x) (g : endOk xs = false) : ∃ ρ, m__law_told_ending [s] = .ok (.fz (.tup [.str "bad", .bl true])) (some s :: ρ) := by
  obtain ⟨ρ, e⟩ := ending_ev hs h
  rw [g] at e
  cases hs <;> exact ⟨_, by simp [m__law_told_ending, runB, g__law_told_ending, m_ending_from, g_ending_from, envOf, e, sTry, eIsX, List.lookup, eNot]; rfl⟩
/-- things that are no rows -/
def noRow : List D := [.non, .str "ab", .int 3, .dK [(.inr "a", .str "b")], .str ""]
theorem end_no {d : D} (h : d ∈ noRow) : ∃ ρ, m_is_ending [.fz d] = .ok (.fz (.bl false)) (some (.fz d) :: ρ) := by
  simp only [noRow, List.mem_cons, List.not_mem_nil, or_false] at h
  rcases h with rfl | rfl | rfl | rfl | rfl <;> exact ⟨_, by simp [m_is_ending, runB, g_is_ending, envOf, isiD, tyD, List.lookup]; rfl⟩
theorem tend_no {d : D} (h : d ∈ noRow) : ∃ ρ, m__law_told_ending [.fz d] = .ok (.fz (.tup [.str "bad", .bl true])) (some (.fz d) :: ρ) := by
  obtain ⟨ρ, e⟩ := end_no h
  exact ⟨_, by simp [m__law_told_ending, runB, g__law_told_ending, m_ending_from, g_ending_from, envOf, e, sTry, eIsX, List.lookup, eNot]; rfl⟩
theorem pt_fine {x : D} (h : Pt x) : Fine 1 40 x := by
  rcases h with ⟨w, rfl, hw⟩ | h
  · exact fine_str (strOk_of fun c hc => hw.2 c hc) hw.1
  · have fa : Fine 0 1 (.str "a") := fine_str (by decide +kernel) (by decide +kernel)
    simp only [others, List.mem_cons, List.not_mem_nil, or_false] at h
    rcases h with rfl | rfl | rfl | rfl | rfl
    · exact fine_non
    · exact fineI (by decide)
    · exact fine_bl
    · exact fine_lst (m := 1) (l := 1) (fun x hx => by simp at hx; subst hx; exact fa) (by simp) (by decide)
    · exact fine_tup (m := 1) (l := 1) (fun x hx => by simp at hx; subst hx; exact fa) (by simp) (by decide)
theorem repr_tup {k n : Nat} {xs : List D} (h : Fine k n (.tup xs)) (hk : k ≤ 60) (hn : n ≤ 8000) : ∃ s, reprD (.tup xs) = some (.fz (.str s)) := by
  obtain ⟨p, e, hp⟩ := h
  have ok := okShow_fine hp hk hn
  have sq : isSeqP p = true := by
    simp only [D.pd] at e
    cases q : pdL xs with
    | none => rw [q] at e; cases e
    | some ps => rw [q] at e; cases e; rfl
  exact ⟨p.shown, by simp only [reprD, e, sq, ok, Bool.and_self, if_true]⟩
theorem repr_no {d : D} (h : d ∈ noRow) : ∃ s, reprA d = some (.fz (.str s)) := by
  simp only [noRow, List.mem_cons, List.not_mem_nil, or_false] at h
  rcases h with rfl | rfl | rfl | rfl | rfl
  · exact ⟨_, rfl⟩
  · refine ⟨reprText "ab", ?_⟩
    have : (reprText ("ab" : String)).length ≤ sizeLine := szk (by decide +kernel)
    simp [reprA, reprD, D.pd, isSeqP, reprS, this]
  · refine ⟨toString (3 : Int), ?_⟩
    have : (3 : Int).natAbs.log2 < 1920 := by decide
    simp [reprA, reprD, D.pd, isSeqP, reprS]
    decide
  · refine ⟨(PyData.dict [(.str "a", .str "b")]).shown, ?_⟩
    have h1 : (PyData.dict [(.str "a", .str "b")]).showable = true := by decide +kernel
    have h2 : (PyData.dict [(.str "a", .str "b")]).depth ≤ 60 := by decide +kernel
    have h3 : (PyData.dict [(.str "a", .str "b")]).shown.length ≤ sizeLine := szk (by decide +kernel)
    simp [reprA, reprD, D.pd, reprS, flatKP, scalP, keyP, h1, h2, h3]
  · refine ⟨reprText "", ?_⟩
    have : (reprText ("" : String)).length ≤ sizeLine := szk (by decide +kernel)
    simp [reprA, reprD, D.pd, isSeqP, reprS, this]
theorem pf_loop {s0 z1 z2 s3 z4 z5 z6 : Option SV} : ∀ (xs acc : List D), (∀ x ∈ xs, Pt x) → acc.length + xs.length ≤ 1000 → compL (tgN 8) (cNot (cT (eCallD m__law_is_part [] [(eN 8)]))) (eN 8) [8] xs acc [s0, z1, z2, s3, z4, z5, z6, none, none] = .ok (acc ++ xs.filter fun x => !isPart x) [s0, z1, z2, s3, z4, z5, z6, none, none]
  | [], acc, _, _ => by simp [compL]
  | x :: xs, acc, h, hz => by
    have z : acc.length < sizeLine := szk' (by simp at hz; omega)
    obtain ⟨ρ, e⟩ := part_ev (h x List.mem_cons_self)
    rw [compL]
    cases q : isPart x with
    | true =>
      have k := pf_loop (s0 := s0) (z1 := z1) (z2 := z2) (s3 := s3) (z4 := z4) (z5 := z5) (z6 := z6) xs acc (fun y hy => h y (List.mem_cons_of_mem _ hy)) (by simp at hz; omega)
      rw [q] at e
      simp [e, q]
      exact k
    | false =>
      have k := pf_loop (s0 := s0) (z1 := z1) (z2 := z2) (s3 := s3) (z4 := z4) (z5 := z5) (z6 := z6) xs (acc ++ [x]) (fun y hy => h y (List.mem_cons_of_mem _ hy)) (by simp at hz ⊢; omega)
      rw [q] at e
      simp [e, q, z]
      simpa using k
theorem pf_eq {xs : List D} (h : ∀ x ∈ xs, Pt x) (hl : xs.length ≤ 10) : eqD (.lst (xs.filter fun x => !isPart x)) (.lst []) = some (.fz (.bl (xs.all isPart))) := by
  have lf : (xs.filter fun x => !isPart x).length ≤ 10 := Nat.le_trans (List.length_filter_le _ _) hl
  have mf : ∀ x ∈ xs.filter (fun x => !isPart x), x ∈ xs := fun p hp => (List.mem_filter.mp hp).1
  have e : xs.all isPart = decide ((xs.filter fun x => !isPart x) = []) := by
    rw [Bool.eq_iff_iff, decide_eq_true_eq, List.filter_eq_nil_iff, List.all_eq_true]
    simp
  rw [e]
  generalize xs.filter (fun x => !isPart x) = F at lf mf
  cases F with
  | nil => exact eqD_nil
  | cons x F => exact eqD_cons (k := 2) (n := 1000) (fine_lst (m := 40) (l := 10) (fun y hy => pt_fine (h y (mf y hy))) lf (by decide)) (by decide)
end K01
end
noncomputable section
set_option maxHeartbeats 4000000
/-! K01v: the endings' loop, its end. -/
namespace K01
open PySem PySem.Spec L2 DL

theorem nbT : neD (.tup [.str "bad", .bl true]) (.tup [.str "bad", .bl true]) = some (.fz (.bl false)) := neD_self (fine_tup (k := 0) (m := 10) (l := 2) (n := 22) (fun x hx => by
  simp at hx
  rcases hx with rfl | rfl
  · exact fine_str (by decide +kernel) (by decide +kernel)
  · exact fine_bl) (by simp) (by decide)) (by decide) (fun s => by simp)
def EI (ρ : DL.Env) : Prop := ∃ (h : List D) (z1 z2 z3 z4 z5 z6 : Option SV), ρ = [some (.ow true (.lst h)), z1, z2, z3, z4, z5, z6, none, none] ∧ Hok h
section
variable {h xs : List D} {z1 z2 z3 z4 z5 z6 : Option SV} {d : D}
theorem u6L (H : Hok h) (hx : ∀ x ∈ xs, Pt x) (hl : xs.length ≤ 10) : W (Nx EI) (g__law_endings_hold_6 [some (.ow true (.lst h)), z1, z2, some (.ow false (.lst xs)), z4, z5, z6, none, none]) := by
  have pf := pf_loop (s0 := some (.ow true (.lst h))) (z1 := z1) (z2 := z2) (s3 := some (.lk (.lst xs))) (z4 := z4) (z5 := z5) (z6 := z6) xs [] hx (by simp; omega)
  have pe := pf_eq hx hl
  rw [List.nil_append] at pf
  generalize xs.filter (fun x => !isPart x) = F at pf pe
  obtain ⟨s, er0⟩ := repr_lst (xs := xs) (fine_lst (k := 1) (m := 40) (l := 10) (n := 410) (fun x hx' => pt_fine (hx x hx')) hl (by decide)) (by decide) (by decide)
  have er := reprA_of er0
  obtain ⟨ρe, ee⟩ := ending_ev (s := .ow true (.lst xs)) (.own _) hx
  have fin : ∀ (b : Bool) (t : D), EI [some (.ow true (.lst h)), z1, z2, some (.ow false (.lst xs)), some (.fz (.bl b)), some (.fz (.str s)), some (.fz t), none, none] := fun b t => ⟨h, _, _, _, _, _, _, rfl, H⟩
  have nt : neD (.tup xs) (.tup xs) = some (.fz (.bl false)) := neD_self (fine_tup (k := 1) (m := 40) (l := 10) (n := 410) (fun x hx' => pt_fine (hx x hx')) hl (by decide)) (by decide) (fun s => by simp)
  have nb : neD (.tup [.str "bad", .bl true]) (.tup [.str "bad", .bl true]) = some (.fz (.bl false)) := nbT
  by_cases c1 : (1 : Int) ≤ xs.length
  · by_cases c2 : (xs.length : Int) ≤ 4
    · cases q : xs.all isPart with
      | true =>
        have g : endOk xs = true := by simp [endOk, c1, c2, q]
        obtain ⟨ρt, et⟩ := tend_good (s := .ow true (.lst xs)) (.own _) hx g
        rw [g] at ee
        rw [q] at pe
        simp [g__law_endings_hold_6, g__law_endings_hold_7, g__law_endings_hold_8, g__law_endings_hold_9, g__law_endings_hold_10, g__law_endings_hold_11, g__law_endings_hold_12, pf, pe, er, ee, et, c1, c2, eChain, isiD, tyD, List.lookup, neB, nt]
        exact fin _ _
      | false =>
        have g : endOk xs = false := by simp [endOk, q]
        obtain ⟨ρt, et⟩ := tend_bad (s := .ow true (.lst xs)) (.own _) hx g
        rw [g] at ee
        rw [q] at pe
        simp [g__law_endings_hold_6, g__law_endings_hold_7, g__law_endings_hold_8, g__law_endings_hold_9, g__law_endings_hold_10, g__law_endings_hold_11, g__law_endings_hold_12, pf, pe, er, ee, et, c1, c2, eChain, isiD, tyD, List.lookup, neB, nb]
        exact fin _ _
    · have g : endOk xs = false := by simp [endOk, c2]
      obtain ⟨ρt, et⟩ := tend_bad (s := .ow true (.lst xs)) (.own _) hx g
      rw [g] at ee
      simp [g__law_endings_hold_6, g__law_endings_hold_7, g__law_endings_hold_8, g__law_endings_hold_9, g__law_endings_hold_10, g__law_endings_hold_11, g__law_endings_hold_12, er, ee, et, c1, c2, eChain, isiD, tyD, List.lookup, neB, nb]
      exact fin _ _
  · have g : endOk xs = false := by simp [endOk, c1]
    obtain ⟨ρt, et⟩ := tend_bad (s := .ow true (.lst xs)) (.own _) hx g
    rw [g] at ee
    simp [g__law_endings_hold_6, g__law_endings_hold_7, g__law_endings_hold_8, g__law_endings_hold_9, g__law_endings_hold_10, g__law_endings_hold_11, g__law_endings_hold_12, er, ee, et, c1, eChain, isiD, tyD, List.lookup, neB, nb]
    exact fin _ _
theorem u6T (H : Hok h) (hx : ∀ x ∈ xs, Pt x) (hl : xs.length ≤ 10) : W (Nx EI) (g__law_endings_hold_6 [some (.ow true (.lst h)), z1, z2, some (.fz (.tup xs)), z4, z5, z6, none, none]) := by
  have pf := pf_loop (s0 := some (.ow true (.lst h))) (z1 := z1) (z2 := z2) (s3 := some (.fz (.tup xs))) (z4 := z4) (z5 := z5) (z6 := z6) xs [] hx (by simp; omega)
  have pe := pf_eq hx hl
  rw [List.nil_append] at pf
  generalize xs.filter (fun x => !isPart x) = F at pf pe
  obtain ⟨s, er0⟩ := repr_tup (xs := xs) (fine_tup (k := 1) (m := 40) (l := 10) (n := 410) (fun x hx' => pt_fine (hx x hx')) hl (by decide)) (by decide) (by decide)
  have er := reprA_of er0
  obtain ⟨ρe, ee⟩ := ending_ev (s := .fz (.tup xs)) (.tup _) hx
  have fin : ∀ (b : Bool) (t : D), EI [some (.ow true (.lst h)), z1, z2, some (.fz (.tup xs)), some (.fz (.bl b)), some (.fz (.str s)), some (.fz t), none, none] := fun b t => ⟨h, _, _, _, _, _, _, rfl, H⟩
  have nt : neD (.tup xs) (.tup xs) = some (.fz (.bl false)) := neD_self (fine_tup (k := 1) (m := 40) (l := 10) (n := 410) (fun x hx' => pt_fine (hx x hx')) hl (by decide)) (by decide) (fun s => by simp)
  have nb : neD (.tup [.str "bad", .bl true]) (.tup [.str "bad", .bl true]) = some (.fz (.bl false)) := nbT
  by_cases c1 : (1 : Int) ≤ xs.length
  · by_cases c2 : (xs.length : Int) ≤ 4
    · cases q : xs.all isPart with
      | true =>
        have g : endOk xs = true := by simp [endOk, c1, c2, q]
        obtain ⟨ρt, et⟩ := tend_good (s := .fz (.tup xs)) (.tup _) hx g
        rw [g] at ee
        rw [q] at pe
        simp [g__law_endings_hold_6, g__law_endings_hold_7, g__law_endings_hold_8, g__law_endings_hold_9, g__law_endings_hold_10, g__law_endings_hold_11, g__law_endings_hold_12, pf, pe, er, ee, et, c1, c2, eChain, isiD, tyD, List.lookup, neB, nt]
        exact fin _ _
      | false =>
        have g : endOk xs = false := by simp [endOk, q]
        obtain ⟨ρt, et⟩ := tend_bad (s := .fz (.tup xs)) (.tup _) hx g
        rw [g] at ee
        rw [q] at pe
        simp [g__law_endings_hold_6, g__law_endings_hold_7, g__law_endings_hold_8, g__law_endings_hold_9, g__law_endings_hold_10, g__law_endings_hold_11, g__law_endings_hold_12, pf, pe, er, ee, et, c1, c2, eChain, isiD, tyD, List.lookup, neB, nb]
        exact fin _ _
    · have g : endOk xs = false := by simp [endOk, c2]
      obtain ⟨ρt, et⟩ := tend_bad (s := .fz (.tup xs)) (.tup _) hx g
      rw [g] at ee
      simp [g__law_endings_hold_6, g__law_endings_hold_7, g__law_endings_hold_8, g__law_endings_hold_9, g__law_endings_hold_10, g__law_endings_hold_11, g__law_endings_hold_12, er, ee, et, c1, c2, eChain, isiD, tyD, List.lookup, neB, nb]
      exact fin _ _
  · have g : endOk xs = false := by simp [endOk, c1]
    obtain ⟨ρt, et⟩ := tend_bad (s := .fz (.tup xs)) (.tup _) hx g
    rw [g] at ee
    simp [g__law_endings_hold_6, g__law_endings_hold_7, g__law_endings_hold_8, g__law_endings_hold_9, g__law_endings_hold_10, g__law_endings_hold_11, g__law_endings_hold_12, er, ee, et, c1, eChain, isiD, tyD, List.lookup, neB, nb]
    exact fin _ _
theorem u6N (H : Hok h) (hd : d ∈ noRow) : W (Nx EI) (g__law_endings_hold_6 [some (.ow true (.lst h)), z1, z2, some (.fz d), z4, z5, z6, none, none]) := by
  obtain ⟨s, er⟩ := repr_no hd
  obtain ⟨ρe, ee⟩ := end_no hd
  obtain ⟨ρt, et⟩ := tend_no hd
  have nb : neD (.tup [.str "bad", .bl true]) (.tup [.str "bad", .bl true]) = some (.fz (.bl false)) := nbT
  have fin : ∀ (b : Bool) (t : D), EI [some (.ow true (.lst h)), z1, z2, some (.fz d), some (.fz (.bl b)), some (.fz (.str s)), some (.fz t), none, none] := fun b t => ⟨h, _, _, _, _, _, _, rfl, H⟩
  simp only [noRow, List.mem_cons, List.not_mem_nil, or_false] at hd
  rcases hd with rfl | rfl | rfl | rfl | rfl <;> simp [g__law_endings_hold_6, g__law_endings_hold_7, g__law_endings_hold_8, g__law_endings_hold_9, g__law_endings_hold_10, g__law_endings_hold_11, g__law_endings_hold_12, er, ee, et, isiD, tyD, List.lookup, neB, nb] <;> exact fin _ _
end
end K01
end
noncomputable section
set_option maxHeartbeats 4000000
/-! K01w: the endings' loop. -/
namespace K01
open PySem PySem.Spec L2 DL

@[simp] theorem x_eLcR {rg : List D → Option (Int × Int)} {args : List ESem} {tg : Tg1} {tt : CSem} {el : ESem} {vs : List Nat} {ρ : DL.Env} : eLcR rg args tg tt el vs ρ = (eL args ρ).bind fun ds ρ1 => match rg ds with
  | some (i, j) => if smallR i j = true then (compR tg tt el vs (rangeD i j) ρ1).nox.bind fun acc ρ2 => .ok (.fr (.lst acc)) ρ2 else .no
  | none => .no := (rfl)
section
variable {h xs : List D} {z1 z2 z3 z4 z5 z6 s3 : Option SV} {d : D}
theorem u5 (H : Hok h) (k6 : ∀ h', Hok h' → W (Nx EI) (g__law_endings_hold_6 [some (.ow true (.lst h')), z1, z2, s3, z4, z5, z6, none, none])) : W (Nx EI) (g__law_endings_hold_5 [some (.ow true (.lst h)), z1, z2, s3, z4, z5, z6, none, none]) := by
  simp only [g__law_endings_hold_5, take_eq]
  simp
  refine draw H (by decide) (by decide) fun a h1 ρ1 H1 a0 a1 => ?_
  simp
  by_cases c : a = 0
  · simp [c]
    refine draw H1 (by decide) (by decide) fun b h2 ρ2 H2 b0 b1 => ?_
    obtain ⟨d, e, m⟩ := at_some (xs := noRow) b0 (by simpa [noRow] using b1)
    simp only [noRow] at e
    simp [e]
    exact u6N H2 m
  · simp [c]
    exact k6 h1 H1
theorem u4 (H : Hok h) (hx : ∀ x ∈ xs, Pt x) (hl : xs.length ≤ 10) : W (Nx EI) (g__law_endings_hold_4 [some (.ow true (.lst h)), z1, some (.ow false (.lst xs)), z3, z4, z5, z6, none, none]) := by
  simp [g__law_endings_hold_4]
  refine cw (asList_s H (.own xs)) ?_
  rintro _ _ ⟨h1, ρ1, (rfl | rfl), rfl, H1⟩
  · simp
    exact u5 H1 fun h' H' => u6L H' hx hl
  · simp
    exact u5 H1 fun h' H' => u6T H' hx hl
theorem u3 (H : Hok h) (hx : ∀ x ∈ xs, Pt x) (hl : xs.length ≤ 10) : W (Nx EI) (g__law_endings_hold_3 [some (.ow true (.lst h)), z1, some (.ow false (.lst xs)), z3, z4, z5, z6, none, none]) := by
  simp only [g__law_endings_hold_3, take_eq]
  cases xs with
  | nil =>
    have e := ne_of_eq eqD_nil
    simp [e]
    exact u4 H hx hl
  | cons x xs =>
    have e := ne_of_eq (eqD_cons (k := 2) (n := 410) (x := x) (xs := xs) (fine_lst (m := 40) (l := 10) (fun y hy => pt_fine (hx y hy)) hl (by decide)) (by decide))
    generalize hX : x :: xs = X at *
    have Xl : 0 < X.length := by rw [← hX]; simp
    simp [e]
    refine draw H (by decide) (by decide) fun a h1 ρ1 H1 a0 a1 => ?_
    simp
    by_cases c : a = 0
    · simp [c]
      refine draw H1 (by decide) (by decide) fun b h2 ρ2 H2 b0 b1 => ?_
      obtain ⟨d, ed, m⟩ := at_some (xs := others) b0 (by simpa [others] using b1)
      simp only [others] at ed
      simp [ed]
      refine draw H2 (by omega) (by omega) fun i h3 ρ3 H3 i0 i1 => ?_
      have ix : ixN X.length i = some i.toNat := by unfold ixN; rw [if_pos i0, if_pos i1]
      simp [ix]
      refine u4 H3 (fun y hy => ?_) (by simpa using hl)
      rcases List.mem_or_eq_of_mem_set hy with hy | rfl
      · exact hx y hy
      · exact .inr m
    · simp [c]
      exact u4 H1 hx hl
def eTx : ESem := (eIf (cB (eOp eqD (eCallD m__law_take [] [(eN 0), (eC (.int 3))]) (eC (.int 0)))) (eCallD m__law_text [] [(eN 0), (eOp addD (eC (.int 4)) (eCallD m__law_take [] [(eN 0), (eC (.int 2))]))]) (eCallD m__law_text [] [(eN 0), (eC (.int 3))]))
theorem tx_ev (H : Hok h) (x : D) : ∃ (w : Str) (h' : List D), eTx [some (.ow true (.lst h)), z1, z2, z3, z4, z5, z6, some (.fz x), none] = .ok (.fz (.str w)) [some (.ow true (.lst h')), z1, z2, z3, z4, z5, z6, some (.fz x), none] ∧ Hok h' ∧ Tx8 w := by
  obtain ⟨_, _, e1, v, h1, ρ1, rfl, rfl, H1, v0, v1⟩ := take_s (m := 3) H (by decide) (by decide)
  by_cases c : v = 0
  · obtain ⟨_, _, e2, t, h2, ρ2, rfl, rfl, H2, t0, t1⟩ := take_s (m := 2) H1 (by decide) (by decide)
    obtain ⟨_, _, e3, w, h3, ρ3, rfl, rfl, H3, _, wt⟩ := text_s (longest := 4 + t) H2 (by omega) (by omega)
    refine ⟨w, h3, ?_, H3, wt⟩
    simp [eTx, take_eq, e1, c, e2, e3]
  · obtain ⟨_, _, e3, w, h3, ρ3, rfl, rfl, H3, _, wt⟩ := text_s (longest := 3) H1 (by decide) (by decide)
    refine ⟨w, h3, ?_, H3, wt⟩
    simp [eTx, take_eq, e1, c, e3]
theorem tx_loop : ∀ (ds acc : List D) (h : List D), Hok h → acc.length + ds.length ≤ 1000 → ∃ (xs : List D) (h' : List D), compL (tgN 7) cYes eTx [7] ds acc [some (.ow true (.lst h)), z1, z2, z3, z4, z5, z6, none, none] = .ok (acc ++ xs) [some (.ow true (.lst h')), z1, z2, z3, z4, z5, z6, none, none] ∧ Hok h' ∧ xs.length = ds.length ∧ ∀ x ∈ xs, Pt x
  | [], acc, h, H, _ => ⟨[], h, by simp [compL], H, rfl, fun _ h => by cases h⟩
  | x :: ds, acc, h, H, hz => by
    have z : acc.length < sizeLine := szk' (by simp at hz; omega)
    obtain ⟨w, h1, e1, H1, wt⟩ := tx_ev (z1 := z1) (z2 := z2) (z3 := z3) (z4 := z4) (z5 := z5) (z6 := z6) H x
    obtain ⟨xs, h', e, H', l, k⟩ := tx_loop ds (acc ++ [.str w]) h1 H1 (by simp at hz ⊢; omega)
    refine ⟨.str w :: xs, h', ?_, H', by simp [l], fun y hy => ?_⟩
    · rw [compL]
      simp [e1, z]
      simpa using e
    · rcases List.mem_cons.mp hy with rfl | hy
      · exact .inl ⟨w, rfl, wt⟩
      · exact k y hy
theorem u2 (H : Hok h) : W (Nx EI) (g__law_endings_hold_2 [some (.ow true (.lst h)), z1, z2, z3, z4, z5, z6, none, none]) := by
  simp only [g__law_endings_hold_2]
  rw [show (eIf (cB (eOp eqD (eCallD m__law_take [] [(eN 0), (eC (.int 3))]) (eC (.int 0)))) (eCallD m__law_text [] [(eN 0), (eOp addD (eC (.int 4)) (eCallD m__law_take [] [(eN 0), (eC (.int 2))]))]) (eCallD m__law_text [] [(eN 0), (eC (.int 3))])) = eTx from rfl, take_eq]
  simp
  refine draw H (by decide) (by decide) fun v h1 ρ1 H1 v0 v1 => ?_
  obtain ⟨xs, h', e, H', l, k⟩ := tx_loop (z1 := z1) (z2 := z2) (z3 := z3) (z4 := z4) (z5 := z5) (z6 := z6) (rangeD 0 v) [] h1 H1 (by simp [rangeD]; omega)
  rw [List.nil_append] at e
  simp [small_i v0 (by omega : v ≤ 1000000), e]
  exact u3 H' k (by rw [l]; simp [rangeD]; omega)
end
theorem ends_s {h : List D} (H : Hok h) : Gv (m__law_endings_hold [.ow true (.lst h)]) fun r ρ => ∃ h' ρ', r = .fz (.bl true) ∧ ρ = some (.ow true (.lst h')) :: ρ' ∧ Hok h' := by
  refine run_w ?_
  simp only [g__law_endings_hold, g__law_endings_hold_1]
  simp [envOf, small_i (j := 5) (by decide) (by decide)]
  refine for_w (I := EI) ⟨h, none, none, none, none, none, none, rfl, H⟩ ?_ ?_
  · rintro d _ ⟨h1, z1, z2, z3, z4, z5, z6, rfl, H1⟩
    exact ⟨_, rfl, u2 H1⟩
  · rintro _ ⟨h1, z1, z2, z3, z4, z5, z6, rfl, H1⟩
    simp
    exact H1
end K01
end
noncomputable section
set_option maxHeartbeats 4000000
/-! K01x: names_hold, the law. -/
namespace K01
open PySem PySem.Spec L2 DL

def inNum (w : Str) : Bool := ([PyData.str "one", PyData.str "many"]).any fun z => PyData.eqv z (.str w)
theorem num_k {w : Str} (h : PyData.strOk w = true) : inA (.str w) (.ktp ["one", "many"]) = some (.fz (.bl (inNum w))) := by
  refine x_inO ?_
  have h1 : SeqAt.shaped (.str w) = true := by simp [SeqAt.shaped, PyData.canLay0, PyData.depth, h]
  have h2 : SeqAt.shaped (.tuple [PyData.str "one", PyData.str "many"]) = true := by decide +kernel
  simp only [din, D.pd, List.map_cons, List.map_nil, h1, h2, Bool.and_self, if_true]
  rfl
theorem num_t {w : Str} (h : PyData.strOk w = true) : inA (.str w) (.tup [.str "one", .str "many"]) = some (.fz (.bl (inNum w))) := by
  refine x_inO ?_
  have h1 : SeqAt.shaped (.str w) = true := by simp [SeqAt.shaped, PyData.canLay0, PyData.depth, h]
  have h2 : SeqAt.shaped (.tuple [PyData.str "one", PyData.str "many"]) = true := by decide +kernel
  simp only [din, D.pd, pdL, h1, h2, Bool.and_self, if_true]
  rfl
theorem num_ev {w : Str} (h : PyData.strOk w = true) : ∃ ρ, m_is_number [.fz (.str w)] = .ok (.fz (.bl (inNum w))) ρ :=
  ⟨_, by simp [m_is_number, runB, g_is_number, envOf, isiD, tyD, List.lookup, num_k h]; rfl⟩
theorem num_no {d : D} (h : pl d = true) (hs : ∀ w, d ≠ .str w) : ∃ ρ, m_is_number [.fz d] = .ok (.fz (.bl false)) ρ := by
  cases d with
  | ins => cases h
  | scr => cases h
  | ktp => cases h
  | str w => exact absurd rfl (hs w)
  | _ => exact ⟨_, by simp [m_is_number, runB, g_is_number, envOf, isiD, tyD, List.lookup]; rfl⟩
theorem nm_no {d : D} (h : pl d = true) (hs : ∀ w, d ≠ .str w) : ∃ ρ, m_is_name [.fz d, .fz (.int 6)] = .ok (.fz (.bl false)) ρ := by
  obtain ⟨ρ, e⟩ := name_ev d 6 h (fun w ew => absurd ew (hs w))
  have : okNm 6 d = false := by cases d <;> first | rfl | exact absurd rfl (hs _)
  rw [this] at e
  exact ⟨ρ, e⟩
theorem fine_om : Fine 1 100 (.tup [.str "one", .str "many"]) := fine_tup (k := 0) (m := 10) (l := 2) (fun x hx => by
  simp at hx
  rcases hx with rfl | rfl <;> exact fine_str (by decide +kernel) (by decide +kernel)) (by simp) (by decide)
theorem ne_om : neD (.ktp ["one", "many"]) (.tup [.str "one", .str "many"]) = some (.fz (.bl false)) := by
  have e := neD_self fine_om (by decide) (fun s => by simp)
  simp only [neD] at e ⊢
  have : deq (.ktp ["one", "many"]) (.tup [.str "one", .str "many"]) = deq (.tup [.str "one", .str "many"]) (.tup [.str "one", .str "many"]) := by
    simp only [deq, D.pd, pdL, List.map_cons, List.map_nil, Option.map_some]
  rw [this]; exact e
theorem om_ne : ¬ (("one" : Str) = "many") := by decide +kernel
theorem rank1 : m_number_rank [.fz (.str "one")] = .ok (.fz (.int 0)) [some (.fz (.str "one"))] := by simp [m_number_rank, runB, g_number_rank, envOf, om_ne]
theorem rank2 : m_number_rank [.fz (.str "many")] = .ok (.fz (.int 1)) [some (.fz (.str "many"))] := by simp [m_number_rank, runB, g_number_rank, envOf]
theorem eq_ns : eqD .non (.str "many") = some (.fz (.bl false)) := by
  have h : PyData.strOk "many" = true := by decide +kernel
  simp [eqD, deq, D.pd, SeqAt.shaped, PyData.eqv, PyData.canLay0, PyData.depth, h]
theorem rank3 : m_number_rank [.fz .non] = .ok (.fz (.int 0)) [some (.fz .non)] := by simp [m_number_rank, runB, g_number_rank, envOf, eq_ns]
theorem tx_ok {w : Str} (h : Tx8 w) : PyData.strOk w = true := strOk_of fun c hc => h.2 c hc
theorem names_s {h : List D} (H : Hok h) : Gv (m__law_names_hold [.ow true (.lst h)]) fun r ρ => ∃ h' ρ', r = .fz (.bl true) ∧ ρ = some (.ow true (.lst h')) :: ρ' ∧ Hok h' := by
  refine run_w ?_
  simp only [g__law_names_hold, g__law_names_hold_1, g__law_names_hold_2, g__law_names_hold_13, g__law_names_hold_17, g__law_names_hold_18, g__law_names_hold_19, g__law_names_hold_20]
  simp [envOf, ne_om, rank1, rank2, rank3, small_i (j := 6) (by decide) (by decide)]
  refine for_w (I := NI) ⟨h, none, none, none, none, none, none, none, none, none, rfl, H⟩ (fun d ρ hρ => ?_) (fun ρ hρ => ?_)
  · obtain ⟨h1, z1, z2, z3, z4, z5, z6, z7, z8, z9, rfl, H1⟩ := hρ
    exact ⟨_, rfl, n3 H1⟩
  obtain ⟨h1, z1, z2, z3, z4, z5, z6, z7, z8, z9, rfl, H1⟩ := hρ
  simp [small_i (j := 6) (by decide) (by decide)]
  refine for_w (I := NI) ⟨h1, z1, z2, z3, z4, z5, z6, z7, z8, z9, rfl, H1⟩ (fun d ρ hρ => ?_) (fun ρ hρ => ?_)
  · obtain ⟨h1, z1, z2, z3, z4, z5, z6, z7, z8, z9, rfl, H1⟩ := hρ
    exact ⟨_, rfl, n14 H1⟩
  obtain ⟨h2, y1, y2, y3, y4, y5, y6, y7, y8, y9, rfl, H2⟩ := hρ
  have no : ∀ d : D, pl d = true → (∀ w, d ≠ .str w) → (∃ ρ, m_is_name [.fz d, .fz (.int 6)] = .ok (.fz (.bl false)) ρ) ∧ ∃ ρ, m_is_number [.fz d] = .ok (.fz (.bl false)) ρ := fun d h1 h2 => ⟨nm_no h1 h2, num_no h1 h2⟩
  obtain ⟨⟨_, a1⟩, ⟨_, b1⟩⟩ := no .non rfl (fun w => by simp)
  obtain ⟨⟨_, a2⟩, ⟨_, b2⟩⟩ := no (.int 7) rfl (fun w => by simp)
  obtain ⟨⟨_, a3⟩, ⟨_, b3⟩⟩ := no (.bl true) rfl (fun w => by simp)
  obtain ⟨⟨_, a4⟩, ⟨_, b4⟩⟩ := no (.tup [.str "a"]) rfl (fun w => by simp)
  obtain ⟨⟨_, a5⟩, ⟨_, b5⟩⟩ := no (.lst [.str "a", .str "b"]) rfl (fun w => by simp)
  obtain ⟨⟨_, a6⟩, ⟨_, b6⟩⟩ := no (.dK [(.inr "a", .int 1)]) rfl (fun w => by simp)
  simp [forL, a1, b1, a2, b2, a3, b3, a4, b4, a5, b5, a6, b6]
  refine cw (text_s H2 (longest := 5) (by decide) (by decide)) ?_
  rintro _ _ ⟨w, h3, ρ3, rfl, rfl, H3, _, wt⟩
  obtain ⟨_, c1⟩ := num_ev (w := "one") (by decide +kernel)
  obtain ⟨_, c2⟩ := num_ev (w := "many") (by decide +kernel)
  obtain ⟨_, c3⟩ := num_ev (w := "onemany") (by decide +kernel)
  obtain ⟨_, c4⟩ := num_ev (w := "") (by decide +kernel)
  obtain ⟨_, c5⟩ := num_ev (w := "n") (by decide +kernel)
  obtain ⟨_, c6⟩ := num_ev (w := w) (tx_ok wt)
  rw [show inNum "one" = true by decide +kernel] at c1
  rw [show inNum "many" = true by decide +kernel] at c2
  rw [show inNum "onemany" = false by decide +kernel] at c3
  rw [show inNum "" = false by decide +kernel] at c4
  rw [show inNum "n" = false by decide +kernel] at c5
  have c7 := num_t (tx_ok wt)
  simp [c1, c2, c3, c4, c5, c6, c7, neB]
  refine cw (ends_s H3) ?_
  rintro _ _ ⟨h4, ρ4, rfl, rfl, H4⟩
  simp
  exact H4
end K01
end
noncomputable section
set_option maxHeartbeats 4000000
/-! K01y: the law holds, in plain Lean. -/
namespace K01
open PySem PySem.Spec L2 DL

theorem told_no {d : D} (h1 : pl d = true) (h2 : items2 d = none) : ∃ ρ, m__law_told [.fz (.int 3), .fz d] = .ok (.fz (badT 0 "many")) ρ := told_bad (check_no 3 d h1 h2)
theorem pure_law : ∀ ns : List Int, ns.length ≤ 63 → ∃ ρ, m_law [.fz (.scr ns)] = .ok (.fz (.bl true)) ρ := by
  intro ns hn
  have key : Gv (m_law [.fz (.scr ns)]) fun r ρ => r = .fz (.bl true) := by
    refine run_w ?_
    obtain ⟨h, ρ0, e0, H⟩ := hand_ok ns hn
    have eh : m__law_hand [.fz (.scr ns)] = .ok (.fr (.lst h)) ρ0 := e0
    simp only [g_law, g_law_1, g_law_2, g_law_3]
    simp [envOf, eh]
    refine cw (names_s H) ?_
    rintro _ _ ⟨h1, ρ1, rfl, rfl, H1⟩
    simp [small_i (j := 3) (by decide) (by decide)]
    refine for_w (I := Inv ns) ⟨h1, none, none, none, none, none, none, none, none, none, none, none, none, none, none, none, rfl, H1⟩ (fun d ρ hρ => ?_) (fun ρ hρ => ?_)
    · obtain ⟨h2, z2, z3, z4, z5, z6, z7, z8, z9, z10, z11, z12, z13, z14, z15, z16, rfl, H2⟩ := hρ
      exact ⟨_, rfl, t4 H2⟩
    obtain ⟨h2, z2, z3, z4, z5, z6, z7, z8, z9, z10, z11, z12, z13, z14, z15, z16, rfl, H2⟩ := hρ
    obtain ⟨_, b1⟩ := told_no (d := .non) rfl rfl
    obtain ⟨_, b2⟩ := told_no (d := .int 5) rfl rfl
    obtain ⟨_, b3⟩ := told_no (d := .str "") rfl rfl
    obtain ⟨_, b4⟩ := told_no (d := .dK []) rfl rfl
    obtain ⟨_, b5⟩ := told_no (d := .bl true) rfl rfl
    have nm : neD (badT 0 "many") (.tup [.str "bad", .int 0, .str "many"]) = some (.fz (.bl false)) := neD_self (fine_badT (i := 0) (w := "many") (by decide) (by decide +kernel) (by decide +kernel)) (by decide) (fun s => by simp [badT])
    simp [g_law_24, forL, b1, b2, b3, b4, b5, nm]
  obtain ⟨r, ρ, e, rfl⟩ := key
  exact ⟨ρ, e⟩
end K01
end
noncomputable section
set_option maxHeartbeats 0
namespace K01
open PySem PySem.Spec L2 DL
abbrev RR : PySem.W.OpenRow := PySem.W.OpenLaw.row PySem.Challenge.rw_looseorder_k01_names_rules_and_closure
abbrev hk : PySem.W.Hook := hookF 6 fs ds
def ob (s : PySem.W.SharedT) : AlF := obsFG 6 fs ds (HandSHeadRun.getT s)
theorem ob_eq (s : PySem.W.SharedT) : ob s = hk.obs s.abs := obsFG_eq (HandSHeadRun.getT_eq s)
def looseN : List Str := (["TongueError", "BadEnding", "BadRules", "BadPattern", "BadText", "NUMBERS", "LETTERS", "MOST_PARTS", "LONGEST_PART", "is_whole", "has_letters", "is_name", "is_number", "is_ending", "ending_from", "number_rank", "MOST_RULES", "closure_of", "has_ring", "is_rule"] : List Str) ++ (["check_rules", "_law_hand", "_law_mixed", "_law_take", "_law_shuffled", "_law_is_int", "_law_as_list", "_law_no_role", "_law_couples", "_law_wrong", "_law_told", "_law_reach", "_law_thing", "_law_text", "_law_all_letters", "_law_is_part", "_law_told_ending", "_law_endings_hold", "_law_names_hold"] : List Str)
theorem run (w : World) : HandSHeadRun.RunEq RR (PySem.W.view RR.prog [43]) hk ob 4000 looseN w := by
  intro os
  kernel_rfl
end K01
open PySem PySem.W PySem.Calls PyProof.Rows
theorem PySem.Challenge.cw_looseorder_k01_names_rules_and_closure_holds : PySem.Challenge.rw_looseorder_k01_names_rules_and_closure.Holds := by
  w_on; o_law
  refine HandSHeadRun.head_any (r := OpenLaw.row PySem.Challenge.rw_looseorder_k01_names_rules_and_closure) (q := view (OpenLaw.row PySem.Challenge.rw_looseorder_k01_names_rules_and_closure).prog [43]) (H := K01.hk) (ob := K01.ob) (M := 4000) (loose := K01.looseN) (d := HandSHeadRun.topDef (OpenLaw.row PySem.Challenge.rw_looseorder_k01_names_rules_and_closure).prog 43) (kwd := []) K01.ob_eq
    (by kernel_rfl) (fun s => by kernel_rfl) K01.run (by kernel_rfl) (by kernel_rfl) (by kernel_rfl) (by rfl) (by first | assumption | decide +kernel) (by decide +kernel) ⟨rfl, rfl, rfl, rfl, rfl, by decide +kernel⟩ ?hw ?hc
  case hw => w_witness2
  case hc =>
    refine DL.walk_G (l := PySem.Challenge.rw_looseorder_k01_names_rules_and_closure) (n := 63) (k := 7) (x := "_law_script") rfl (by decide) (by kernel_rfl) ⟨rfl, by decide, by decide⟩ ?G (fun w H s e s' z => DL.cx_false z)
    intro w mg fa h Y G hmg0
    obtain ⟨K, KX, c⟩ := Y
    have T : DL.Tx K01.fs K01.ds K mg := ⟨c, h, KX, G⟩
    have hmg : mg ("law" : PySem.Str) = some (.ref fa) := by
      have e : (HandSHeadRun.topDef (OpenLaw.row PySem.Challenge.rw_looseorder_k01_names_rules_and_closure).prog 43).name = ("law" : PySem.Str) := by kernel_rfl
      rw [← e]
      exact hmg0
    have e := hmg.symm.trans (T.glo (x := "law") 104 rfl)
    injection e with e; injection e with e; subst e
    obtain ⟨fd, hF, _, _, hb⟩ := K01.ok_law (w := w) T
    exact ⟨K, fd, _, KX, hb, DL.law_sp K01.pure_law, fun base _ _ =>  hF base⟩
end
